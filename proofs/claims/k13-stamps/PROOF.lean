import PyProof.Rows.All
import Wide.All
import OpenK.AllK
import Wide.FinOn
import HandS.ForMost
import HandS.ForExc
import HandS.Deep
import HandS.SortInts
import HandS.IsInst
import HandS.DictComp
import HandS.Style
import HandS.Flow
import HandS.Zip
import HandS.Conv
import HandS.CallSlots
import HandS.TupLe
import HandS.SortRule
import PySem.Challenge.RW_foldflat_k13_whole_stamps
set_option Elab.async false
set_option linter.all false
set_option maxRecDepth 100000
set_option maxHeartbeats 4000000
/-! A layer of pure values over HandS: trees for lists, tuples, dicts and instances; a def is a function on trees. -/
namespace Tr
open PySem PySem.Spec PyProof.Rows L2

/-! ### values, states -/
/-- pure values -/
inductive PV where
  | non | bl (b : Bool) | int (i : Int) | str (s : Str) | tup (l : List PV) | lst (l : List PV)
  | dct (ks : List Key) (vs : List PV) | ins (c : Str) (ns : List Str) (vs : List PV) | rng

/-- the drawing's state -/
structure Rg where
  cells : List Int
  cur : Int
  cnt : Int
  mix : Int

structure Ct where
  K : PySem.W.Frag
  mg : Str → Option Value
  ρ : Option (Addr × Addr)
  B : Addr → Prop

abbrev Wn := List (Nat × Addr)
def Ct.R (c : Ct) (b : Addr) : Prop := ∃ p, c.ρ = some p ∧ (b = p.1 ∨ b = p.2)
abbrev Ct.ban (c : Ct) (W : Wn) : Ct := { c with B := fun a => c.B a ∨ a ∈ W.map (·.2) }
abbrev Ct.ban1 (c : Ct) (a : Addr) : Ct := { c with B := fun b => c.B b ∨ b = a }

def LAt (c : Ct) (H : Hp) (a : Addr) (xs : List V) : Prop := ¬ c.B a ∧ H a = some (.lst xs)
/-- (no other tuples are read here) -/
def KTup (K : PySem.W.Frag) (a : Addr) (xs : List V) : Prop := False
def TAt (c : Ct) (H : Hp) (a : Addr) (xs : List V) : Prop := (¬ c.B a ∧ H a = some (.tup xs)) ∨ KTup c.K a xs
theorem LAt.sq {c : Ct} {H : Hp} {a : Addr} {xs : List V} (h : LAt c H a xs) : SqL c.K H a xs := .of h.2
theorem TAt.sq {c : Ct} {H : Hp} {a : Addr} {xs : List V} (h : TAt c H a xs) : SqT c.K H a xs := h.elim (fun h => .of h.2) False.elim

mutual
def Rep (c : Ct) (H : Hp) : PV → V → Prop
  | .non, v => v = .non
  | .bl b, v => v = .bl b
  | .int i, v => v = .int i
  | .str s, v => v = .str s
  | .tup l, v => ∃ a xs, v = .ref a ∧ TAt c H a xs ∧ RepL c H l xs
  | .lst l, v => ∃ a xs, v = .ref a ∧ LAt c H a xs ∧ RepL c H l xs
  | .dct ks ps, v => ∃ a vs, v = .ref a ∧ ¬ c.B a ∧ H a = some (.dK (ks.zip vs)) ∧ ks.length = vs.length ∧ RepL c H ps vs
  | .ins k ns ps, v => ∃ a C dx vs, v = .ref a ∧ ¬ c.B a ∧ c.mg k = some (.ref C) ∧ H a = some (.ins C dx (ns.zip vs)) ∧ ns.length = vs.length ∧ RepL c H ps vs
  | .rng, v => ∃ p, c.ρ = some p ∧ v = .ref p.1
def RepL (c : Ct) (H : Hp) : List PV → List V → Prop
  | [], vs => vs = []
  | p :: ps, vs => ∃ v r, vs = v :: r ∧ Rep c H p v ∧ RepL c H ps r
end

/-- the drawing's state lies at its two lists -/
def Rg.Ok (g : Rg) : Prop := 0 ≤ g.cur ∧ 0 ≤ g.cnt ∧ 0 ≤ g.mix ∧ g.mix < 2147483647 ∧ g.cells.length ≤ 63
def RgOk (c : Ct) (H : Hp) (g : Rg) : Prop := ∀ p, c.ρ = some p → p.1 ≠ p.2 ∧ g.Ok ∧
  H p.1 = some (.lst [.ref p.2, .int g.cur, .int g.cnt, .int g.mix]) ∧ H p.2 = some (.lst (g.cells.map .int))
def Ext (c : Ct) (H H' : Hp) : Prop := ∀ b o, H b = some o → ¬ c.R b → H' b = some o
theorem Ext.refl (c : Ct) (H : Hp) : Ext c H H := fun _ _ h _ => h
theorem Ext.trans {c : Ct} {H H1 H2 : Hp} (a : Ext c H H1) (b : Ext c H1 H2) : Ext c H H2 := fun x o h n => b x o (a x o h n) n
theorem Ext.of {c : Ct} {H H' : Hp} (s : Same H H') : Ext c H H' := fun b o h _ => s b o h
theorem RgOk.same {c : Ct} {H H' : Hp} {g : Rg} (h : RgOk c H g) (s : Same H H') : RgOk c H' g := fun p e =>
  let ⟨a, b, x, y⟩ := h p e
  ⟨a, b, s _ _ x, s _ _ y⟩
mutual
theorem Rep.ext {c : Ct} {H H' : Hp} (e : Ext c H H') (rb : ∀ b, c.R b → c.B b) : ∀ {p : PV} {v : V}, Rep c H p v → Rep c H' p v
  | .non, _, h => h
  | .bl _, _, h => h
  | .int _, _, h => h
  | .str _, _, h => h
  | .tup l, _, ⟨a, xs, h1, h2, h3⟩ => ⟨a, xs, h1, h2.elim (fun h => .inl ⟨h.1, e _ _ h.2 (fun r => h.1 (rb _ r))⟩) .inr, RepL.ext e rb h3⟩
  | .lst l, _, ⟨a, xs, h1, h2, h3⟩ => ⟨a, xs, h1, ⟨h2.1, e _ _ h2.2 (fun r => h2.1 (rb _ r))⟩, RepL.ext e rb h3⟩
  | .dct ks ps, _, ⟨a, vs, h1, h2, h3, h4, h5⟩ => ⟨a, vs, h1, h2, e _ _ h3 (fun r => h2 (rb _ r)), h4, RepL.ext e rb h5⟩
  | .ins k ns ps, _, ⟨a, C, dx, vs, h1, h2, h3, h4, h5, h6⟩ => ⟨a, C, dx, vs, h1, h2, h3, e _ _ h4 (fun r => h2 (rb _ r)), h5, RepL.ext e rb h6⟩
  | .rng, _, h => h
theorem RepL.ext {c : Ct} {H H' : Hp} (e : Ext c H H') (rb : ∀ b, c.R b → c.B b) : ∀ {ps : List PV} {vs : List V}, RepL c H ps vs → RepL c H' ps vs
  | [], _, h => h
  | p :: ps, _, ⟨v, r, h1, h2, h3⟩ => ⟨v, r, h1, Rep.ext e rb h2, RepL.ext e rb h3⟩
end
mutual
theorem repSame {c : Ct} {H H' : Hp} (s : Same H H') : ∀ {p : PV} {v : V}, Rep c H p v → Rep c H' p v
  | .non, _, h => h
  | .bl _, _, h => h
  | .int _, _, h => h
  | .str _, _, h => h
  | .tup l, _, ⟨a, xs, h1, h2, h3⟩ => ⟨a, xs, h1, h2.elim (fun h => .inl ⟨h.1, s _ _ h.2⟩) .inr, replSame s h3⟩
  | .lst l, _, ⟨a, xs, h1, h2, h3⟩ => ⟨a, xs, h1, ⟨h2.1, s _ _ h2.2⟩, replSame s h3⟩
  | .dct ks ps, _, ⟨a, vs, h1, h2, h3, h4, h5⟩ => ⟨a, vs, h1, h2, s _ _ h3, h4, replSame s h5⟩
  | .ins k ns ps, _, ⟨a, C, dx, vs, h1, h2, h3, h4, h5, h6⟩ => ⟨a, C, dx, vs, h1, h2, h3, s _ _ h4, h5, replSame s h6⟩
  | .rng, _, h => h
theorem replSame {c : Ct} {H H' : Hp} (s : Same H H') : ∀ {ps : List PV} {vs : List V}, RepL c H ps vs → RepL c H' ps vs
  | [], _, h => h
  | p :: ps, _, ⟨v, r, h1, h2, h3⟩ => ⟨v, r, h1, repSame s h2, replSame s h3⟩
end
/-- fewer banned, or banned ones that are not tracked -/
theorem some_ne {H : Hp} {a : Addr} {o : HO} (h : H a = some o) : H a ≠ none := by rw [h]; exact fun z => nomatch z
mutual
theorem Rep.ban {c : Ct} {B : Addr → Prop} {H : Hp} (k : ∀ b, B b → c.B b ∨ H b = none) : ∀ {p : PV} {v : V}, Rep c H p v → Rep { c with B := B } H p v
  | .non, _, h => h
  | .bl _, _, h => h
  | .int _, _, h => h
  | .str _, _, h => h
  | .tup l, _, ⟨a, xs, h1, h2, h3⟩ => ⟨a, xs, h1, h2.elim (fun h => .inl ⟨fun z => (k _ z).elim h.1 (some_ne h.2), h.2⟩) .inr, RepL.ban k h3⟩
  | .lst l, _, ⟨a, xs, h1, h2, h3⟩ => ⟨a, xs, h1, ⟨fun z => (k _ z).elim h2.1 (some_ne h2.2), h2.2⟩, RepL.ban k h3⟩
  | .dct ks ps, _, ⟨a, vs, h1, h2, h3, h4, h5⟩ => ⟨a, vs, h1, fun z => (k _ z).elim h2 (fun z => by rw [h3] at z; cases z), h3, h4, RepL.ban k h5⟩
  | .ins x ns ps, _, ⟨a, C, dx, vs, h1, h2, h3, h4, h5, h6⟩ => ⟨a, C, dx, vs, h1, fun z => (k _ z).elim h2 (fun z => by rw [h4] at z; cases z), h3, h4, h5, RepL.ban k h6⟩
  | .rng, _, h => h
theorem RepL.ban {c : Ct} {B : Addr → Prop} {H : Hp} (k : ∀ b, B b → c.B b ∨ H b = none) : ∀ {ps : List PV} {vs : List V}, RepL c H ps vs → RepL { c with B := B } H ps vs
  | [], _, h => h
  | p :: ps, _, ⟨v, r, h1, h2, h3⟩ => ⟨v, r, h1, Rep.ban k h2, RepL.ban k h3⟩
end
theorem RepL.length {c : Ct} {H : Hp} : ∀ {ps : List PV} {vs : List V}, RepL c H ps vs → ps.length = vs.length
  | [], _, h => by subst h; rfl
  | p :: ps, _, ⟨v, r, h1, h2, h3⟩ => by subst h1; simp [RepL.length h3]
theorem RepL.append {c : Ct} {H : Hp} : ∀ {ps qs : List PV} {vs us : List V}, RepL c H ps vs → RepL c H qs us → RepL c H (ps ++ qs) (vs ++ us)
  | [], _, _, _, h, k => by subst h; exact k
  | p :: ps, _, _, _, ⟨v, r, h1, h2, h3⟩, k => by subst h1; exact ⟨v, _, rfl, h2, RepL.append h3 k⟩
theorem RepL.get {c : Ct} {H : Hp} : ∀ {ps : List PV} {vs : List V} {i : Nat} {p : PV}, RepL c H ps vs → ps[i]? = some p → ∃ v, vs[i]? = some v ∧ Rep c H p v
  | [], _, _, _, h, e => by simp at e
  | p :: ps, _, 0, _, ⟨v, r, h1, h2, h3⟩, e => by subst h1; simp at e; subst e; exact ⟨v, rfl, h2⟩
  | p :: ps, _, i + 1, _, ⟨v, r, h1, h2, h3⟩, e => by
    subst h1
    obtain ⟨u, e1, e2⟩ := RepL.get h3 (by simpa using e)
    exact ⟨u, by simpa using e1, e2⟩
theorem RepL.take {c : Ct} {H : Hp} : ∀ {ps : List PV} {vs : List V} (n : Nat), RepL c H ps vs → RepL c H (ps.take n) (vs.take n)
  | [], _, n, h => by subst h; simp [RepL]
  | p :: ps, _, 0, _ => by simp [RepL]
  | p :: ps, _, n + 1, ⟨v, r, h1, h2, h3⟩ => by subst h1; exact ⟨v, _, rfl, h2, RepL.take n h3⟩
theorem RepL.drop {c : Ct} {H : Hp} : ∀ {ps : List PV} {vs : List V} (n : Nat), RepL c H ps vs → RepL c H (ps.drop n) (vs.drop n)
  | [], _, n, h => by subst h; simp [RepL]
  | p :: ps, _, 0, h => h
  | p :: ps, _, n + 1, ⟨v, r, h1, h2, h3⟩ => by subst h1; exact RepL.drop n h3
theorem RepL.set {c : Ct} {H : Hp} {p : PV} {v : V} (h : Rep c H p v) : ∀ {ps : List PV} {vs : List V} (n : Nat), RepL c H ps vs → RepL c H (ps.set n p) (vs.set n v)
  | [], _, n, k => by subst k; simp [RepL]
  | q :: ps, _, 0, ⟨u, r, h1, h2, h3⟩ => by subst h1; exact ⟨v, r, rfl, h, h3⟩
  | q :: ps, _, n + 1, ⟨u, r, h1, h2, h3⟩ => by subst h1; exact ⟨u, _, rfl, h2, RepL.set h n h3⟩
theorem RepL.reverse {c : Ct} {H : Hp} : ∀ {ps : List PV} {vs : List V}, RepL c H ps vs → RepL c H ps.reverse vs.reverse
  | [], _, h => by subst h; simp [RepL]
  | p :: ps, _, ⟨v, r, h1, h2, h3⟩ => by
    subst h1
    simp only [List.reverse_cons]
    exact RepL.append (RepL.reverse h3) ⟨v, [], rfl, h2, rfl⟩
theorem RepL.eraseIdx {c : Ct} {H : Hp} : ∀ {ps : List PV} {vs : List V} (n : Nat), RepL c H ps vs → RepL c H (ps.eraseIdx n) (vs.eraseIdx n)
  | [], _, n, h => by subst h; simp [RepL]
  | p :: ps, _, 0, ⟨v, r, h1, h2, h3⟩ => by subst h1; exact h3
  | p :: ps, _, n + 1, ⟨v, r, h1, h2, h3⟩ => by subst h1; exact ⟨v, _, rfl, h2, RepL.eraseIdx n h3⟩
theorem RepL.replicate {c : Ct} {H : Hp} {p : PV} {v : V} (h : Rep c H p v) : ∀ n : Nat, RepL c H (List.replicate n p) (List.replicate n v)
  | 0 => rfl
  | n + 1 => ⟨v, _, rfl, h, RepL.replicate h n⟩
theorem RepL.flat {c : Ct} {H : Hp} : ∀ {ps qs : List PV} {vs us : List V}, RepL c H ps vs → RepL c H qs us → RepL c H (ps ++ qs) (vs ++ us) := RepL.append

/-- the content at a, owned -/
def Own (c : Ct) (H : Hp) (a : Addr) : PV → Prop
  | .lst l => ∃ xs, H a = some (.lst xs) ∧ RepL c H l xs
  | .dct ks ps => ∃ vs, H a = some (.dK (ks.zip vs)) ∧ ks.length = vs.length ∧ RepL c H ps vs
  | .ins k ns ps => ∃ C dx vs, c.mg k = some (.ref C) ∧ H a = some (.ins C dx (ns.zip vs)) ∧ ns.length = vs.length ∧ RepL c H ps vs
  | _ => False
theorem Own.there {c : Ct} {H : Hp} {a : Addr} {p : PV} (h : Own c H a p) : H a ≠ none := by
  cases p with
  | lst l => obtain ⟨xs, h, _⟩ := h; rw [h]; exact fun z => nomatch z
  | dct ks ps => obtain ⟨xs, h, _⟩ := h; rw [h]; exact fun z => nomatch z
  | ins k ns ps => obtain ⟨C, dx, vs, _, h, _⟩ := h; rw [h]; exact fun z => nomatch z
  | _ => exact h.elim
theorem Own.ext {c : Ct} {H H' : Hp} {a : Addr} {p : PV} (e : Ext c H H') (rb : ∀ b, c.R b → c.B b) (n : ¬ c.R a) (h : Own c H a p) : Own c H' a p := by
  cases p with
  | lst l => obtain ⟨xs, h, k⟩ := h; exact ⟨xs, e _ _ h n, k.ext e rb⟩
  | dct ks ps => obtain ⟨xs, h, l, k⟩ := h; exact ⟨xs, e _ _ h n, l, k.ext e rb⟩
  | ins k ns ps => obtain ⟨C, dx, vs, m, h, l, k⟩ := h; exact ⟨C, dx, vs, m, e _ _ h n, l, k.ext e rb⟩
  | _ => exact h.elim
theorem ownSame {c : Ct} {H H' : Hp} {a : Addr} {p : PV} (s : Same H H') (h : Own c H a p) : Own c H' a p := by
  cases p with
  | lst l => obtain ⟨xs, h, k⟩ := h; exact ⟨xs, s _ _ h, replSame s k⟩
  | dct ks ps => obtain ⟨xs, h, l, k⟩ := h; exact ⟨xs, s _ _ h, l, replSame s k⟩
  | ins k ns ps => obtain ⟨C, dx, vs, m, h, l, k⟩ := h; exact ⟨C, dx, vs, m, s _ _ h, l, replSame s k⟩
  | _ => exact h.elim
theorem Own.ban {c : Ct} {B : Addr → Prop} {H : Hp} {a : Addr} {p : PV} (k : ∀ b, B b → c.B b ∨ H b = none) (h : Own c H a p) : Own { c with B := B } H a p := by
  cases p with
  | lst l => obtain ⟨xs, h, q⟩ := h; exact ⟨xs, h, q.ban k⟩
  | dct ks ps => obtain ⟨xs, h, l, q⟩ := h; exact ⟨xs, h, l, q.ban k⟩
  | ins k' ns ps => obtain ⟨C, dx, vs, m, h, l, q⟩ := h; exact ⟨C, dx, vs, m, h, l, q.ban k⟩
  | _ => exact h.elim
/-- what is owned is a value, where it is not banned -/
theorem Own.rep {c : Ct} {H : Hp} {a : Addr} {p : PV} (h : Own c H a p) (n : ¬ c.B a) : Rep c H p (.ref a) := by
  cases p with
  | lst l => obtain ⟨xs, h, q⟩ := h; exact ⟨a, xs, rfl, ⟨n, h⟩, q⟩
  | dct ks ps => obtain ⟨xs, h, l, q⟩ := h; exact ⟨a, xs, rfl, n, h, l, q⟩
  | ins k' ns ps => obtain ⟨C, dx, vs, m, h, l, q⟩ := h; exact ⟨a, C, dx, vs, rfl, n, m, h, l, q⟩
  | _ => exact h.elim

/-- borrowed: a value, or the content of an owned one -/
def RepB (c : Ct) (H : Hp) (p : PV) (v : V) : Prop := Rep c H p v ∨ ∃ a, v = .ref a ∧ ¬ c.R a ∧ Own c H a p

/-- the pure slots and the frame's -/
abbrev Sl := List (Option PV)
structure Rel (c : Ct) (W : Wn) (σ : Sl) (σc : L2.St) (H : Hp) (g : Rg) : Prop where
  len : σ.length = σc.length
  rg : RgOk c H g
  rb : ∀ b, c.R b → c.B b
  dom : ∀ b, c.B b → H b ≠ none
  ndk : (W.map (·.1)).Nodup
  nda : (W.map (·.2)).Nodup
  wb : ∀ p ∈ W, ¬ c.B p.2
  val : ∀ i p, σ[i]? = some (some p) → i ∉ W.map (·.1) → ∃ v, σc[i]? = some (some v) ∧ Rep (c.ban W) H p v
  own : ∀ w ∈ W, ∃ p, σ[w.1]? = some (some p) ∧ σc[w.1]? = some (some (.ref w.2)) ∧ Own (c.ban W) H w.2 p

theorem Ct.ban_R {c : Ct} {W : Wn} (rb : ∀ b, c.R b → c.B b) : ∀ b, (c.ban W).R b → (c.ban W).B b := fun b h => .inl (rb b h)
theorem Ext.ban {c : Ct} {H H' : Hp} {B : Addr → Prop} (e : Ext c H H') : Ext { c with B := B } H H' := e
theorem Rel.wdom {c : Ct} {W : Wn} {σ : Sl} {σc : L2.St} {H : Hp} {g : Rg} (r : Rel c W σ σc H g) : ∀ b, (c.ban W).B b → H b ≠ none := fun b h => by
  rcases h with h | h
  · exact r.dom b h
  · obtain ⟨w, hw, rfl⟩ := List.mem_map.mp h
    obtain ⟨p, _, _, o⟩ := r.own w hw
    exact o.there
theorem dom_ext {c : Ct} {H H' : Hp} {g : Rg} (e : Ext c H H') (k : RgOk c H' g) {b : Addr} (h : H b ≠ none) : H' b ≠ none := by
  by_cases hr : c.R b
  · obtain ⟨p, hp, hb⟩ := hr
    obtain ⟨_, _, h1, h2⟩ := k p hp
    rcases hb with rfl | rfl
    · rw [h1]; exact fun z => nomatch z
    · rw [h2]; exact fun z => nomatch z
  · cases q : H b with
    | none => exact absurd q h
    | some o => rw [e b o q hr]; exact fun z => nomatch z
theorem Rel.ext {c : Ct} {W : Wn} {σ : Sl} {σc : L2.St} {H H' : Hp} {g g' : Rg} (r : Rel c W σ σc H g) (e : Ext c H H') (k : RgOk c H' g') : Rel c W σ σc H' g' where
  len := r.len
  rg := k
  rb := r.rb
  dom := fun b h => dom_ext e k (r.dom b h)
  ndk := r.ndk
  nda := r.nda
  wb := r.wb
  val := fun i p h n => let ⟨v, h1, h2⟩ := r.val i p h n; ⟨v, h1, Rep.ext (c := c.ban W) e (Ct.ban_R r.rb) h2⟩
  own := fun w hw => let ⟨p, h1, h2, h3⟩ := r.own w hw; ⟨p, h1, h2, Own.ext (c := c.ban W) e (Ct.ban_R r.rb) (fun z => r.wb w hw (r.rb _ z)) h3⟩

/-! ### what an expression gives -/
inductive Res (α : Type) where
  | ok (a : α) (g : Rg)
  | exc (k : Str) (ns : List Str) (ps : List PV) (g : Rg)
  | stuck
def Res.bind {α β : Type} : Res α → (α → Rg → Res β) → Res β
  | .ok a g, f => f a g
  | .exc k ns ps g, _ => .exc k ns ps g
  | .stuck, _ => .stuck
@[simp] theorem Res.bind_ok {α β : Type} (a : α) (g : Rg) (f : α → Rg → Res β) : (Res.ok a g).bind f = f a g := rfl
@[simp] theorem Res.bind_exc {α β : Type} (k : Str) (ns : List Str) (ps : List PV) (g : Rg) (f : α → Rg → Res β) : (Res.exc k ns ps g : Res α).bind f = .exc k ns ps g := rfl
@[simp] theorem Res.bind_stuck {α β : Type} (f : α → Rg → Res β) : (Res.stuck : Res α).bind f = .stuck := rfl
def RepX (c : Ct) (H : Hp) (k : Str) (ns : List Str) (ps : List PV) (cls : Value) (d : Option Addr) : Prop :=
  ∃ C dd vs, c.mg k = some (.ref C) ∧ cls = .ref C ∧ d = some dd ∧ ¬ c.B dd ∧ H dd = some (.xd (ns.zip vs)) ∧ ns.length = vs.length ∧ RepL c H ps vs

/-- how a value is handed: borrowed, kept, new -/
inductive Md where
  | brw | rep | frs
/-- p is handed as v; H the heap ahead, H' the one behind -/
def Val (c : Ct) (H H' : Hp) (p : PV) (v : V) : Md → Prop
  | .brw => RepB c H' p v
  | .rep => Rep c H' p v
  | .frs => ∃ a, v = .ref a ∧ H a = none ∧ Own (c.ban1 a) H' a p
def Pst (c : Ct) (W : Wn) (H : Hp) (md : Md) (r : Res PV) (Q : VK) (E : XK) : Prop :=
  match r with
  | .ok p g => ∀ v H', Ext c H H' → RgOk c H' g → Val (c.ban W) H H' p v md → Q v H'
  | .exc k ns ps g => ∀ cls d H', Ext c H H' → RgOk c H' g → RepX (c.ban W) H' k ns ps cls d → E cls d H'
  | .stuck => False
abbrev Den := Sl → Rg → Res PV
abbrev ct (X : Cx) (ρ : Option (Addr × Addr)) (B : Addr → Prop) : Ct := ⟨X.K, X.mg, ρ, B⟩
/-- the expression e is d -/
def SE (X : Cx) (Wx : WX) (Wk : List Nat) (md : Md) (e : Expr) (d : Den) : Prop :=
  ∃ t, PE X e t ∧ ∀ (ρ : Option (Addr × Addr)) (B : Addr → Prop) (W : Wn) (σ : Sl) (σc : L2.St) (H : Hp) (g : Rg) (Q : VK), W.map (·.1) = Wk →
    Rel (ct X ρ B) W σ σc H g → Pst (ct X ρ B) W H md (d σ g) Q (fun cls dd H' => Wx cls dd σc H') → t σc H Q

theorem Val.rep_of_frs {c : Ct} {H H' : Hp} {p : PV} {v : V} (dom : ∀ b, c.B b → H b ≠ none) (h : Val c H H' p v .frs) : Val c H H' p v .rep := by
  obtain ⟨a, rfl, n, o⟩ := h
  have o' : Own c H' a p := o.ban (c := c.ban1 a) (B := c.B) fun b z => .inl (.inl z)
  exact o'.rep fun z => dom a z n
theorem Val.brw {c : Ct} {H H' : Hp} {p : PV} {v : V} {md : Md} (rb : ∀ b, c.R b → c.B b) (dom : ∀ b, c.B b → H b ≠ none) (h : Val c H H' p v md) : RepB c H' p v := by
  cases md with
  | brw => exact h
  | rep => exact .inl h
  | frs =>
    obtain ⟨a, rfl, n, o⟩ := h
    exact .inr ⟨a, rfl, fun z => dom a (rb a z) n, o.ban (c := c.ban1 a) (B := c.B) fun b z => .inl (.inl z)⟩
theorem RepB.ext {c : Ct} {H H' : Hp} {p : PV} {v : V} (e : Ext c H H') (rb : ∀ b, c.R b → c.B b) (h : RepB c H p v) : RepB c H' p v := by
  rcases h with h | ⟨a, rfl, n, h⟩
  · exact .inl (h.ext e rb)
  · exact .inr ⟨a, rfl, n, h.ext e rb n⟩
/-- a value handed from further back -/
theorem Val.from {c : Ct} {H H1 H' : Hp} {g : Rg} {p : PV} {v : V} {md : Md} (e : Ext c H H1) (k : RgOk c H1 g) (h : Val c H1 H' p v md) : Val c H H' p v md := by
  cases md with
  | brw => exact h
  | rep => exact h
  | frs =>
    obtain ⟨a, rfl, n, o⟩ := h
    refine ⟨a, rfl, ?_, o⟩
    cases q : H a with
    | none => rfl
    | some z => exact absurd n (dom_ext e k (by rw [q]; exact fun z => nomatch z))
theorem Pst.from {c : Ct} {W : Wn} {H H1 : Hp} {g : Rg} {md : Md} {r : Res PV} {Q : VK} {E : XK} (e : Ext c H H1) (k : RgOk c H1 g) (h : Pst c W H md r Q E) : Pst c W H1 md r Q E := by
  cases r with
  | ok p g' => exact fun v H' e' k' q => h v H' (e.trans e') k' (Val.from (c := c.ban W) e k q)
  | exc a b cc d => exact fun cls d H' e' k' q => h cls d H' (e.trans e') k' q
  | stuck => exact h
/-- one part, then the rest -/
theorem Pst.bind {c : Ct} {W : Wn} {H : Hp} {m1 m2 : Md} {r : Res PV} {f : PV → Rg → Res PV} {Q Q1 : VK} {E : XK} (h : Pst c W H m2 (r.bind f) Q E)
    (k : ∀ p g1 v H1, r = .ok p g1 → Ext c H H1 → RgOk c H1 g1 → Val (c.ban W) H H1 p v m1 → Pst c W H1 m2 (f p g1) Q E → Q1 v H1) : Pst c W H m1 r Q1 E := by
  cases r with
  | ok p g1 => exact fun v H1 e k1 q => k p g1 v H1 rfl e k1 q (Pst.from e k1 h)
  | exc a b cc d => exact h
  | stuck => exact h
theorem se_rep {X : Cx} {Wx : WX} {Wk : List Nat} {e : Expr} {d : Den} (h : SE X Wx Wk .frs e d) : SE X Wx Wk .rep e d := by
  obtain ⟨t, ht, hs⟩ := h
  refine ⟨t, ht, fun ρ B W σ σc H g Q hW r p => hs ρ B W σ σc H g Q hW r ?_⟩
  cases hd : d σ g with
  | ok a g' => rw [hd] at p; exact fun v H' e' k' q => p v H' e' k' (Val.rep_of_frs r.wdom q)
  | exc a b cc dd => rw [hd] at p; exact p
  | stuck => rw [hd] at p; exact p
theorem se_brw {X : Cx} {Wx : WX} {Wk : List Nat} {md : Md} {e : Expr} {d : Den} (h : SE X Wx Wk md e d) : SE X Wx Wk .brw e d := by
  obtain ⟨t, ht, hs⟩ := h
  refine ⟨t, ht, fun ρ B W σ σc H g Q hW r p => hs ρ B W σ σc H g Q hW r ?_⟩
  cases hd : d σ g with
  | ok a g' => rw [hd] at p; exact fun v H' e' k' q => p v H' e' k' (Val.brw (c := (ct X ρ B).ban W) (Ct.ban_R r.rb) r.wdom q)
  | exc a b cc dd => rw [hd] at p; exact p
  | stuck => rw [hd] at p; exact p
end Tr

namespace Tr
open PySem PySem.Spec PyProof.Rows L2

section
variable {X : Cx} {Wx : WX} {Wk : List Nat} {md : Md}
/-! ### names, constants -/
def dC (p : PV) : Den := fun _ g => .ok p g
theorem se_int {i j pos} : SE X Wx Wk .rep (.Constant (.int i) j pos) (dC (.int i)) := ⟨_, pe_int, fun _ _ _ _ _ H _ _ _ r p => p _ H (Ext.refl _ _) r.rg rfl⟩
theorem se_bl {i j pos} : SE X Wx Wk .rep (.Constant (.bool i) j pos) (dC (.bl i)) := ⟨_, pe_bl, fun _ _ _ _ _ H _ _ _ r p => p _ H (Ext.refl _ _) r.rg rfl⟩
theorem se_non {j pos} : SE X Wx Wk .rep (.Constant .none j pos) (dC .non) := ⟨_, pe_non, fun _ _ _ _ _ H _ _ _ r p => p _ H (Ext.refl _ _) r.rg rfl⟩
theorem se_str {i j pos} : SE X Wx Wk .rep (.Constant (.str i) j pos) (dC (.str i)) := ⟨_, pe_str, fun _ _ _ _ _ H _ _ _ r p => p _ H (Ext.refl _ _) r.rg rfl⟩
def dV (i : Nat) : Den := fun σ g => match σ[i]? with | some (some p) => .ok p g | _ => .stuck
theorem se_var (i : Nat) {x : Str} {pos : Pos} (hw : i ∉ Wk := by decide) (hN : X.N[i]? = some x := by rfl) (hv : Vis X.env.scope x := by first | exact Or.inl rfl | exact Or.inr (Or.inl rfl) | exact Or.inr (Or.inr rfl)) (hd : (x == ("__debug__" : Str)) = false := by decide)
    (hcd : (x == ("__classdict__" : Str)) = false := by decide) : SE X Wx Wk .rep (.Name x pos) (dV i) := by
  refine ⟨_, pe_var hN hv hd hcd, fun ρ B W σ σc H g Q hW r p => ?_⟩
  unfold dV at p
  cases e : σ[i]? with
  | none => rw [e] at p; exact p.elim
  | some o =>
    cases o with
    | none => rw [e] at p; exact p.elim
    | some q =>
      rw [e] at p
      obtain ⟨v, h1, h2⟩ := r.val i q e (by rw [hW]; exact hw)
      exact ⟨v, h1, p v H (Ext.refl _ _) r.rg h2⟩
/-- a name of any kind, borrowed -/
theorem sb_var (i : Nat) {x : Str} {pos : Pos} (hN : X.N[i]? = some x := by rfl) (hv : Vis X.env.scope x := by first | exact Or.inl rfl | exact Or.inr (Or.inl rfl) | exact Or.inr (Or.inr rfl)) (hd : (x == ("__debug__" : Str)) = false := by decide)
    (hcd : (x == ("__classdict__" : Str)) = false := by decide) : SE X Wx Wk .brw (.Name x pos) (dV i) := by
  refine ⟨_, pe_var hN hv hd hcd, fun ρ B W σ σc H g Q hW r p => ?_⟩
  unfold dV at p
  cases e : σ[i]? with
  | none => rw [e] at p; exact p.elim
  | some o =>
    cases o with
    | none => rw [e] at p; exact p.elim
    | some q =>
      rw [e] at p
      by_cases hi : i ∈ W.map (·.1)
      · obtain ⟨w, hw, rfl⟩ := List.mem_map.mp hi
        obtain ⟨q', h1, h2, h3⟩ := r.own w hw
        rw [e] at h1; cases h1
        exact ⟨_, h2, p _ H (Ext.refl _ _) r.rg (.inr ⟨_, rfl, fun z => r.wb w hw (r.rb _ z), h3⟩)⟩
      · obtain ⟨v, h1, h2⟩ := r.val i q e hi
        exact ⟨v, h1, p v H (Ext.refl _ _) r.rg (.inl h2)⟩

/-! ### what is borrowed, by kinds -/
theorem RepB.lst {c : Ct} {H : Hp} {l : List PV} {v : V} (h : RepB c H (.lst l) v) : ∃ a xs, v = .ref a ∧ H a = some (.lst xs) ∧ RepL c H l xs := by
  rcases h with ⟨a, xs, rfl, h, k⟩ | ⟨a, rfl, _, xs, h, k⟩
  · exact ⟨a, xs, rfl, h.2, k⟩
  · exact ⟨a, xs, rfl, h, k⟩
theorem RepB.tup {c : Ct} {H : Hp} {l : List PV} {v : V} (h : RepB c H (.tup l) v) : ∃ a xs, v = .ref a ∧ TAt c H a xs ∧ RepL c H l xs := by
  rcases h with h | ⟨a, _, _, h⟩
  · exact h
  · exact h.elim
theorem RepB.int {c : Ct} {H : Hp} {i : Int} {v : V} (h : RepB c H (.int i) v) : v = .int i := by
  rcases h with h | ⟨a, _, _, h⟩
  · exact h
  · exact h.elim
theorem RepB.bl {c : Ct} {H : Hp} {i : Bool} {v : V} (h : RepB c H (.bl i) v) : v = .bl i := by
  rcases h with h | ⟨a, _, _, h⟩
  · exact h
  · exact h.elim
theorem RepB.non {c : Ct} {H : Hp} {v : V} (h : RepB c H .non v) : v = .non := by
  rcases h with h | ⟨a, _, _, h⟩
  · exact h
  · exact h.elim
theorem RepB.str {c : Ct} {H : Hp} {i : Str} {v : V} (h : RepB c H (.str i) v) : v = .str i := by
  rcases h with h | ⟨a, _, _, h⟩
  · exact h
  · exact h.elim
theorem RepB.dct {c : Ct} {H : Hp} {ks : List Key} {ps : List PV} {v : V} (h : RepB c H (.dct ks ps) v) : ∃ a vs, v = .ref a ∧ H a = some (.dK (ks.zip vs)) ∧ ks.length = vs.length ∧ RepL c H ps vs := by
  rcases h with ⟨a, vs, rfl, _, h⟩ | ⟨a, rfl, _, vs, h⟩
  · exact ⟨a, vs, rfl, h⟩
  · exact ⟨a, vs, rfl, h⟩
theorem RepB.ins {c : Ct} {H : Hp} {k : Str} {ns : List Str} {ps : List PV} {v : V} (h : RepB c H (.ins k ns ps) v) : ∃ a C dx vs, v = .ref a ∧ c.mg k = some (.ref C) ∧ H a = some (.ins C dx (ns.zip vs)) ∧ ns.length = vs.length ∧ RepL c H ps vs := by
  rcases h with ⟨a, C, dx, vs, rfl, _, h⟩ | ⟨a, rfl, _, C, dx, vs, h⟩
  · exact ⟨a, C, dx, vs, rfl, h⟩
  · exact ⟨a, C, dx, vs, rfl, h⟩
end
end Tr

namespace Tr
open PySem PySem.Spec PyProof.Rows L2

section
variable {X : Cx} {Wx : WX} {Wk : List Nat} {md : Md}

/-! ### operators by values -/
def por {α : Type} (a b : Option α) : Option α := match a with | some w => some w | none => b
@[simp] theorem por_some {α : Type} (a : α) (b : Option α) : por (some a) b = some a := rfl
@[simp] theorem por_none {α : Type} (b : Option α) : por none b = b := rfl
def OpD (X : Cx) (f : Value → Value → Sem Value) (md : Md) (o : PV → PV → Option PV) : Prop :=
  ∃ r : R2, OpR X f r ∧ ∀ (c : Ct) (p q w : PV) (v u : V) (H : Hp) (Q : VK), c.K = X.K → c.mg = X.mg → (∀ b, c.B b → H b ≠ none) → RepB c H p v → RepB c H q u → o p q = some w →
    (∀ z H', Same H H' → Val c H H' w z md → Q z H') → r v u H Q
theorem opR_or {f : Value → Value → Sem Value} {r r' : R2} (h : OpR X f r) (h' : OpR X f r') : OpR X f (fun x y H Q => r x y H Q ∨ r' x y H Q) := by
  intro pins s σ H x y v u Q I rx ry q
  rcases q with q | q
  · exact h pins s σ H x y v u Q I rx ry q
  · exact h' pins s σ H x y v u Q I rx ry q
theorem OpD.or {f : Value → Value → Sem Value} {o o' : PV → PV → Option PV} (h : OpD X f md o) (h' : OpD X f md o') : OpD X f md (fun p q => por (o p q) (o' p q)) := by
  obtain ⟨r, hr, k⟩ := h
  obtain ⟨r', hr', k'⟩ := h'
  refine ⟨_, opR_or hr hr', fun c p q w v u H Q e1 e2 hd rp rq ho hq => ?_⟩
  cases e : o p q with
  | some z =>
    simp only [e, por_some] at ho
    cases ho
    exact .inl (k c p q _ v u H Q e1 e2 hd rp rq e hq)
  | none =>
    simp only [e, por_none] at ho
    exact .inr (k' c p q w v u H Q e1 e2 hd rp rq ho hq)
/-- a comparison's value -/
def bo (ob : PV → PV → Option Bool) : PV → PV → Option PV := fun p q => (ob p q).map PV.bl
def dBin (o : PV → PV → Option PV) (da db : Den) : Den := fun σ g => (da σ g).bind fun p g => (db σ g).bind fun q g => match o p q with | some w => .ok w g | none => .stuck
theorem se_op {op : Operator} {a b : Expr} {pos : Pos} {o : PV → PV → Option PV} {da db : Den} (ho : OpD X (binaryOp op) md o) (ha : SE X Wx Wk .brw a da) (hb : SE X Wx Wk .brw b db) : SE X Wx Wk md (.BinOp a op b pos) (dBin o da db) := by
  obtain ⟨r, hr, k⟩ := ho
  obtain ⟨ta, pa, sa⟩ := ha
  obtain ⟨tb, pb, sb⟩ := hb
  refine ⟨_, pe_op hr pa pb, fun ρ B W σ σc H g Q hW R p => ?_⟩
  refine sa ρ B W σ σc H g _ hW R (p.bind fun x g1 v H1 _ e1 k1 q1 p => ?_)
  have R1 := R.ext e1 k1
  refine sb ρ B W σ σc H1 g1 _ hW R1 (p.bind fun y g2 u H2 _ e2 k2 q2 p => ?_)
  have R2 := R1.ext e2 k2
  cases ew : o x y with
  | none => rw [ew] at p; exact p.elim
  | some w =>
    rw [ew] at p
    exact k ((ct X ρ B).ban W) x y w v u H2 Q rfl rfl R2.wdom (RepB.ext (c := (ct X ρ B).ban W) e2 (Ct.ban_R R.rb) q1) q2 ew fun z H' s hz => p z H' (Ext.of s) (k2.same s) hz
theorem se_cmp {op : CmpOp} {a b : Expr} {pos : Pos} {o : PV → PV → Option Bool} {da db : Den} (ho : OpD X (compareOp op) .rep (bo o)) (ha : SE X Wx Wk .brw a da) (hb : SE X Wx Wk .brw b db) (hm : behindInMarks op b = false := by first | exact nomark _ | rfl | with_unfolding_all rfl) : SE X Wx Wk .rep (.Compare a [op] [b] pos) (dBin (bo o) da db) := by
  obtain ⟨r, hr, k⟩ := ho
  obtain ⟨ta, pa, sa⟩ := ha
  obtain ⟨tb, pb, sb⟩ := hb
  refine ⟨_, pe_cmpR hr pa pb hm, fun ρ B W σ σc H g Q hW R p => ?_⟩
  refine sa ρ B W σ σc H g _ hW R (p.bind fun x g1 v H1 _ e1 k1 q1 p => ?_)
  have R1 := R.ext e1 k1
  refine sb ρ B W σ σc H1 g1 _ hW R1 (p.bind fun y g2 u H2 _ e2 k2 q2 p => ?_)
  have R2 := R1.ext e2 k2
  cases ew : bo o x y with
  | none => rw [ew] at p; exact p.elim
  | some w =>
    rw [ew] at p
    exact k ((ct X ρ B).ban W) x y w v u H2 Q rfl rfl R2.wdom (RepB.ext (c := (ct X ρ B).ban W) e2 (Ct.ban_R R.rb) q1) q2 ew fun z H' s hz => p z H' (Ext.of s) (k2.same s) hz

theorem OpD.toRep {f : Value → Value → Sem Value} {o : PV → PV → Option PV} (h : OpD X f .frs o) : OpD X f .rep o := by
  obtain ⟨r, hr, k⟩ := h
  exact ⟨r, hr, fun c p q w v u H Q e1 e2 hd rp rq ho hq => k c p q w v u H Q e1 e2 hd rp rq ho fun z H' s hz => hq z H' s (hz.rep_of_frs hd)⟩

/-! ### the operators -/
/-- a new object's place -/
theorem same_new {H : Hp} {p : Addr} {o : HO} (h : H p = none) : Same H (upd H p o) := fun b u e => by rw [upd_ne (ne_of_none e h)]; exact e
theorem repl_new {c : Ct} {H : Hp} {z : Addr} {o : HO} {l : List PV} {xs : List V} (k : RepL c H l xs) (hz : H z = none) : RepL (c.ban1 z) (upd H z o) l xs :=
  replSame (c := c.ban1 z) (same_new hz) (RepL.ban (fun b h => h.elim .inl fun e => .inr (by rw [e]; exact hz)) k)
theorem val_lst {c : Ct} {H : Hp} {z : Addr} {l : List PV} {xs : List V} (k : RepL c H l xs) (hz : H z = none) : Val c H (upd H z (.lst xs)) (.lst l) (.ref z) .frs :=
  ⟨z, rfl, hz, xs, upd_same, repl_new k hz⟩
theorem val_tup {c : Ct} {H : Hp} {z : Addr} {l : List PV} {xs : List V} (k : RepL c H l xs) (hz : H z = none) (dom : ∀ b, c.B b → H b ≠ none) : Val c H (upd H z (.tup xs)) (.tup l) (.ref z) .rep :=
  ⟨z, xs, rfl, .inl ⟨fun b => dom z b hz, upd_same⟩, replSame (same_new hz) k⟩
def pAdd : PV → PV → Option PV
  | .int i, .int j => some (.int (i + j))
  | _, _ => none
def pCat : PV → PV → Option PV
  | .lst a, .lst b => if a.length + b.length ≤ sizeLine then some (.lst (a ++ b)) else none
  | _, _ => none
def pCatS : PV → PV → Option PV
  | .str a, .str b => if a.length + b.length ≤ sizeLine then some (.str (a ++ b)) else none
  | _, _ => none
theorem od_add : OpD X (binaryOp .Add) .rep pAdd := ⟨_, op_add, fun c p q w v u H Q _ _ hd rp rq ho hq => by
  cases p <;> cases q <;> simp only [pAdd] at ho <;> try (cases ho)
  exact ⟨_, _, rp.int, rq.int, hq _ _ (Same.refl _) rfl⟩⟩
theorem od_cat : OpD X (binaryOp .Add) .frs pCat := ⟨_, op_cat, fun c p q w v u H Q _ _ hd rp rq ho hq => by
  cases p <;> cases q <;> simp only [pCat] at ho <;> try (cases ho)
  split at ho <;> cases ho
  rename_i a b hl
  obtain ⟨l, xs, rfl, h1, k1⟩ := rp.lst
  obtain ⟨m, ys, rfl, h2, k2⟩ := rq.lst
  exact ⟨l, m, xs, ys, rfl, rfl, h1, h2, by rw [← k1.length, ← k2.length]; exact hl, fun z hz => hq _ _ (same_new hz) (val_lst (k1.append k2) hz)⟩⟩
theorem od_catS : OpD X (binaryOp .Add) .rep pCatS := ⟨_, op_add_str, fun c p q w v u H Q _ _ hd rp rq ho hq => by
  cases p <;> cases q <;> simp only [pCatS] at ho <;> try (cases ho)
  split at ho <;> cases ho
  rename_i hl
  exact ⟨_, _, rp.str, rq.str, hl, hq _ _ (Same.refl _) rfl⟩⟩
/-- + of ints, lists, texts -/
def pPlus (p q : PV) : Option PV := por (pAdd p q) (por (pCat p q) (pCatS p q))
theorem od_plus : OpD X (binaryOp .Add) .rep pPlus := od_add.or (od_cat.toRep.or od_catS)
def pSub : PV → PV → Option PV
  | .int i, .int j => some (.int (i - j))
  | _, _ => none
theorem od_sub : OpD X (binaryOp .Sub) .rep pSub := ⟨_, op_sub, fun c p q w v u H Q _ _ hd rp rq ho hq => by
  cases p <;> cases q <;> simp only [pSub] at ho <;> try (cases ho)
  exact ⟨_, _, rp.int, rq.int, hq _ _ (Same.refl _) rfl⟩⟩
def pMul : PV → PV → Option PV
  | .int i, .int j => if ((-(2 ^ 64) < i ∧ i < 2 ^ 64) ∨ (-(2 ^ 64) < j ∧ j < 2 ^ 64)) then some (.int (i * j)) else none
  | _, _ => none
theorem od_mul : OpD X (binaryOp .Mult) .rep pMul := ⟨_, op_mul, fun c p q w v u H Q _ _ hd rp rq ho hq => by
  cases p <;> cases q <;> simp only [pMul] at ho <;> try (cases ho)
  split at ho <;> cases ho
  rename_i hl
  exact ⟨_, _, rp.int, rq.int, hl, hq _ _ (Same.refl _) rfl⟩⟩
def pRept : PV → PV → Option PV
  | .lst a, .int k => if k < 2 ^ 63 ∧ -(2 ^ 63) ≤ k ∧ a.length * k.toNat ≤ sizeLine then some (.lst (List.replicate k.toNat a).flatten) else none
  | _, _ => none
theorem repl_flatten {c : Ct} {H : Hp} {l : List PV} {xs : List V} (k : RepL c H l xs) : ∀ n : Nat, RepL c H (List.replicate n l).flatten (List.replicate n xs).flatten
  | 0 => rfl
  | n + 1 => by
    rw [List.replicate_succ, List.replicate_succ, List.flatten_cons, List.flatten_cons]
    exact k.append (repl_flatten k n)
theorem od_rept : OpD X (binaryOp .Mult) .frs pRept := ⟨_, op_rep, fun c p q w v u H Q _ _ hd rp rq ho hq => by
  cases p <;> cases q <;> simp only [pRept] at ho <;> try (cases ho)
  split at ho <;> cases ho
  rename_i a k hl
  obtain ⟨l, xs, rfl, h1, k1⟩ := rp.lst
  exact ⟨l, k, xs, rfl, rq.int, h1, hl.2.1, hl.1, by rw [← k1.length]; exact hl.2.2, fun z hz => hq _ _ (same_new hz) (val_lst (repl_flatten k1 _) hz)⟩⟩
def pTimes (p q : PV) : Option PV := por (pMul p q) (pRept p q)
theorem od_times : OpD X (binaryOp .Mult) .rep pTimes := od_mul.or od_rept.toRep
def pMod : PV → PV → Option PV
  | .int i, .int j => if j ≠ 0 then some (.int (i.fmod j)) else none
  | _, _ => none
theorem od_mod : OpD X (binaryOp .Mod) .rep pMod := ⟨_, op_modN, fun c p q w v u H Q _ _ hd rp rq ho hq => by
  cases p <;> cases q <;> simp only [pMod] at ho <;> try (cases ho)
  split at ho <;> cases ho
  rename_i hl
  exact ⟨_, _, rp.int, rq.int, hl, hq _ _ (Same.refl _) rfl⟩⟩
def pFdiv : PV → PV → Option PV
  | .int i, .int j => if j ≠ 0 ∧ j.natAbs < 1073741824 then some (.int (i.fdiv j)) else none
  | _, _ => none
theorem od_fdiv : OpD X (binaryOp .FloorDiv) .rep pFdiv := ⟨_, op_fdivN, fun c p q w v u H Q _ _ hd rp rq ho hq => by
  cases p <;> cases q <;> simp only [pFdiv] at ho <;> try (cases ho)
  split at ho <;> cases ho
  rename_i hl
  exact ⟨_, _, rp.int, rq.int, hl, hq _ _ (Same.refl _) rfl⟩⟩
def pPow : PV → PV → Option PV
  | .int i, .int j => if 0 ≤ j ∧ j ≤ 1000000 ∧ i.natAbs < 2 ^ 64 then some (.int (i ^ j.toNat)) else none
  | _, _ => none
theorem od_pow : OpD X (binaryOp .Pow) .rep pPow := ⟨_, op_pow, fun c p q w v u H Q _ _ hd rp rq ho hq => by
  cases p <;> cases q <;> simp only [pPow] at ho <;> try (cases ho)
  split at ho <;> cases ho
  rename_i hl
  exact ⟨_, _, rp.int, rq.int, hl, hq _ _ (Same.refl _) rfl⟩⟩
/-! ### comparisons -/

def pLt : PV → PV → Option Bool
  | .int i, .int j => some (decide (i < j))
  | _, _ => none
theorem od_lt : OpD X (compareOp .Lt) .rep (bo pLt) := ⟨_, op_lt, fun c p q w v u H Q _ _ hd rp rq ho hq => by
  cases p <;> cases q <;> simp only [bo, pLt, Option.map] at ho <;> try (cases ho)
  exact ⟨_, _, rp.int, rq.int, hq _ _ (Same.refl _) rfl⟩⟩
def pLe : PV → PV → Option Bool
  | .int i, .int j => some (decide (i ≤ j))
  | _, _ => none
theorem od_le : OpD X (compareOp .LtE) .rep (bo pLe) := ⟨_, op_le, fun c p q w v u H Q _ _ hd rp rq ho hq => by
  cases p <;> cases q <;> simp only [bo, pLe, Option.map] at ho <;> try (cases ho)
  exact ⟨_, _, rp.int, rq.int, hq _ _ (Same.refl _) rfl⟩⟩
def pGt : PV → PV → Option Bool
  | .int i, .int j => some (decide (j < i))
  | _, _ => none
theorem od_gt : OpD X (compareOp .Gt) .rep (bo pGt) := ⟨_, op_gt, fun c p q w v u H Q _ _ hd rp rq ho hq => by
  cases p <;> cases q <;> simp only [bo, pGt, Option.map] at ho <;> try (cases ho)
  exact ⟨_, _, rp.int, rq.int, hq _ _ (Same.refl _) rfl⟩⟩
def pGe : PV → PV → Option Bool
  | .int i, .int j => some (decide (j ≤ i))
  | _, _ => none
theorem od_ge : OpD X (compareOp .GtE) .rep (bo pGe) := ⟨_, op_ge, fun c p q w v u H Q _ _ hd rp rq ho hq => by
  cases p <;> cases q <;> simp only [bo, pGe, Option.map] at ho <;> try (cases ho)
  exact ⟨_, _, rp.int, rq.int, hq _ _ (Same.refl _) rfl⟩⟩
mutual
/-- the data of a value -/
def toD : PV → Option PyData
  | .non => some .none
  | .bl b => some (.bool b)
  | .int i => some (.int i)
  | .str s => some (.str s)
  | .tup l => (toDs l).map .tuple
  | .lst l => (toDs l).map .list
  | _ => none
def toDs : List PV → Option (List PyData)
  | [] => some []
  | p :: ps => match toD p, toDs ps with | some d, some ds => some (d :: ds) | _, _ => none
end
mutual
theorem toD_dp {c : Ct} {H : Hp} : ∀ {p : PV} {v : V} {d : PyData}, toD p = some d → Rep c H p v → Dp c.K H v d
  | .non, v, d, e, h => by cases e; cases h; exact .non
  | .bl b, v, d, e, h => by cases e; cases h; exact .bl b
  | .int b, v, d, e, h => by cases e; cases h; exact .int b
  | .str b, v, d, e, h => by cases e; cases h; exact .str b
  | .tup l, v, d, e, h => by
    obtain ⟨a, xs, rfl, h, k⟩ := h
    cases q : toDs l with
    | none => simp [toD, q] at e
    | some ds => simp [toD, q] at e; subst e; exact .tup h.sq (toDs_dp q k)
  | .lst l, v, d, e, h => by
    obtain ⟨a, xs, rfl, h, k⟩ := h
    cases q : toDs l with
    | none => simp [toD, q] at e
    | some ds => simp [toD, q] at e; subst e; exact .lst h.sq (toDs_dp q k)
  | .dct _ _, v, d, e, h => by cases e
  | .ins _ _ _, v, d, e, h => by cases e
  | .rng, v, d, e, h => by cases e
theorem toDs_dp {c : Ct} {H : Hp} : ∀ {p : List PV} {v : List V} {d : List PyData}, toDs p = some d → RepL c H p v → DpAll c.K H v d
  | [], v, d, e, h => by cases e; cases h; exact .nil
  | p :: ps, v, d, e, h => by
    obtain ⟨x, r, rfl, h1, h2⟩ := h
    cases q1 : toD p with
    | none => simp [toDs, q1] at e
    | some d1 =>
      cases q2 : toDs ps with
      | none => simp [toDs, q1, q2] at e
      | some ds => simp [toDs, q1, q2] at e; subst e; exact .cons (toD_dp q1 h1) (toDs_dp q2 h2)
end
theorem toD_dpB {c : Ct} {H : Hp} {p : PV} {v : V} {d : PyData} (e : toD p = some d) (h : RepB c H p v) : Dp c.K H v d := by
  rcases h with h | ⟨a, rfl, _, h⟩
  · exact toD_dp e h
  · cases p with
    | lst l =>
      obtain ⟨xs, h, k⟩ := h
      cases q : toDs l with
      | none => simp [toD, q] at e
      | some ds => simp [toD, q] at e; subst e; exact .lst (.of h) (toDs_dp q k)
    | dct ks ps => cases e
    | ins k ns ps => cases e
    | _ => exact h.elim
/-- two values compared -/
def pEqB (p q : PV) : Option Bool := match toD p, toD q with
  | some d, some e => if SeqAt.shaped d = true ∧ SeqAt.shaped e = true then some (PyData.eqv d e) else none
  | _, _ => none
def pNeB (p q : PV) : Option Bool := (pEqB p q).map fun b => !b
theorem pEqB_some {p q : PV} {b : Bool} (h : pEqB p q = some b) : ∃ d e, toD p = some d ∧ toD q = some e ∧ SeqAt.shaped d = true ∧ SeqAt.shaped e = true ∧ b = PyData.eqv d e := by
  unfold pEqB at h
  split at h
  · rename_i d e h1 h2
    split at h
    · rename_i h3
      cases h
      exact ⟨d, e, h1, h2, h3.1, h3.2, rfl⟩
    · cases h
  · cases h
theorem od_eq {k : Nat} (hr : Room k X.A) : OpD X (compareOp .Eq) .rep (bo pEqB) := ⟨_, op_eqD (by have := hr.un; omega), fun c p q w v u H Q ek _ hd rp rq ho hq => by
  cases e : pEqB p q with
  | none => simp [bo, e] at ho
  | some b =>
    simp [bo, e] at ho
    subst ho
    obtain ⟨d1, d2, h1, h2, h3, h4, rfl⟩ := pEqB_some e
    exact ⟨d1, d2, ek ▸ toD_dpB h1 rp, ek ▸ toD_dpB h2 rq, h3, h4, hq _ _ (Same.refl _) rfl⟩⟩
theorem od_ne {k : Nat} (hr : Room k X.A) : OpD X (compareOp .NotEq) .rep (bo pNeB) := ⟨_, op_neD (by have := hr.un; omega), fun c p q w v u H Q ek _ hd rp rq ho hq => by
  cases e : pEqB p q with
  | none => simp [bo, pNeB, e] at ho
  | some b =>
    simp [bo, pNeB, e] at ho
    subst ho
    obtain ⟨d1, d2, h1, h2, h3, h4, rfl⟩ := pEqB_some e
    exact ⟨d1, d2, ek ▸ toD_dpB h1 rp, ek ▸ toD_dpB h2 rq, h3, h4, hq _ _ (Same.refl _) rfl⟩⟩
/-- is None -/
def isNonP : PV → Bool
  | .non => true
  | _ => false
def pIsN (p q : PV) : Option Bool := match q with | .non => some (isNonP p) | _ => none
def pNotN (p q : PV) : Option Bool := match q with | .non => some (!isNonP p) | _ => none
theorem isNon {c : Ct} {H : Hp} {p : PV} {v : V} (h : RepB c H p v) : decide (v = .non) = isNonP p := by
  cases p with
  | non => rw [h.non]; rfl
  | bl b => rw [h.bl]; rfl
  | int b => rw [h.int]; rfl
  | str b => rw [h.str]; rfl
  | tup l => obtain ⟨a, xs, rfl, _⟩ := h.tup; rfl
  | lst l => obtain ⟨a, xs, rfl, _⟩ := h.lst; rfl
  | dct l k => obtain ⟨a, xs, rfl, _⟩ := h.dct; rfl
  | ins k l m => obtain ⟨a, xs, d, e, rfl, _⟩ := h.ins; rfl
  | rng =>
    rcases h with ⟨p, _, rfl⟩ | ⟨a, _, _, h⟩
    · rfl
    · exact h.elim
theorem od_isN : OpD X (compareOp .Is) .rep (bo pIsN) := ⟨_, op_isN, fun c p q w v u H Q _ _ hd rp rq ho hq => by
  cases q <;> simp only [bo, pIsN, Option.map] at ho <;> try (cases ho)
  exact ⟨rq.non, by rw [isNon rp]; exact hq _ _ (Same.refl _) rfl⟩⟩
theorem od_notN : OpD X (compareOp .IsNot) .rep (bo pNotN) := ⟨_, op_notN, fun c p q w v u H Q _ _ hd rp rq ho hq => by
  cases q <;> simp only [bo, pNotN, Option.map] at ho <;> try (cases ho)
  exact ⟨rq.non, by rw [isNon rp]; exact hq _ _ (Same.refl _) rfl⟩⟩
/-- is True, is not True, of bools -/
def pIsB (p q : PV) : Option Bool := match p, q with | .bl a, .bl b => some (decide (a = b)) | _, _ => none
def pNotB (p q : PV) : Option Bool := match p, q with | .bl a, .bl b => some (!decide (a = b)) | _, _ => none
theorem od_isB : OpD X (compareOp .Is) .rep (bo pIsB) := ⟨_, op_isBl, fun c p q w v u H Q _ _ hd rp rq ho hq => by
  cases p <;> cases q <;> simp only [bo, pIsB, Option.map] at ho <;> try (cases ho)
  exact ⟨_, _, rp.bl, rq.bl, hq _ _ (Same.refl _) rfl⟩⟩
theorem od_notB : OpD X (compareOp .IsNot) .rep (bo pNotB) := ⟨_, op_notBl, fun c p q w v u H Q _ _ hd rp rq ho hq => by
  cases p <;> cases q <;> simp only [bo, pNotB, Option.map] at ho <;> try (cases ho)
  exact ⟨_, _, rp.bl, rq.bl, hq _ _ (Same.refl _) rfl⟩⟩
def pIs (p q : PV) : Option Bool := por (pIsN p q) (pIsB p q)
def pIsnt (p q : PV) : Option Bool := por (pNotN p q) (pNotB p q)
theorem OpD.orB {f : Value → Value → Sem Value} {o o' : PV → PV → Option Bool} (h : OpD X f md (bo o)) (h' : OpD X f md (bo o')) : OpD X f md (bo fun p q => por (o p q) (o' p q)) := by
  have e : (fun p q => por (bo o p q) (bo o' p q)) = bo fun p q => por (o p q) (o' p q) := by
    funext p q
    show por (Option.map PV.bl (o p q)) (Option.map PV.bl (o' p q)) = Option.map PV.bl (por (o p q) (o' p q))
    cases o p q <;> rfl
  rw [← e]
  exact h.or h'
theorem od_is : OpD X (compareOp .Is) .rep (bo pIs) := od_isN.orB od_isB
theorem od_isnt : OpD X (compareOp .IsNot) .rep (bo pIsnt) := od_notN.orB od_notB
/-- in a list or tuple of flat items -/
def flatP : PV → Bool
  | .non => true
  | .bl _ => true
  | .int _ => true
  | .str _ => true
  | _ => false
def eqP : PV → PV → Bool
  | .non, .non => true
  | .bl a, .bl b => a == b
  | .bl a, .int b => (if a then 1 else 0) == b
  | .int a, .bl b => a == (if b then 1 else 0)
  | .int a, .int b => a == b
  | .str a, .str b => a == b
  | _, _ => false
def pInB (p q : PV) : Option Bool := match q with
  | .lst l => if flatP p = true ∧ l.all flatP = true then some (l.any fun y => eqP y p) else none
  | .tup l => if flatP p = true ∧ l.all flatP = true then some (l.any fun y => eqP y p) else none
  | _ => none
theorem flat_rep {c : Ct} {H : Hp} {p : PV} {v : V} (h : Rep c H p v) (f : flatP p = true) : flatV v = true := by
  cases p <;> simp only [flatP] at f <;> first | (cases f; done) | (cases h; rfl)
theorem flat_repB {c : Ct} {H : Hp} {p : PV} {v : V} (h : RepB c H p v) (f : flatP p = true) : flatV v = true := by
  rcases h with h | ⟨a, rfl, _, h⟩
  · exact flat_rep h f
  · cases p <;> simp only [flatP] at f <;> first | (cases f; done) | exact h.elim
theorem flat_repB' {c : Ct} {H : Hp} {p : PV} {v : V} (h : RepB c H p v) (f : flatP p = true) : Rep c H p v := by
  rcases h with h | ⟨a, rfl, _, h⟩
  · exact h
  · cases p <;> simp only [flatP] at f <;> first | (cases f; done) | exact h.elim
theorem flat_all {c : Ct} {H : Hp} : ∀ {l : List PV} {vs : List V}, RepL c H l vs → l.all flatP = true → vs.all flatV = true
  | [], _, h, _ => by subst h; rfl
  | p :: ps, _, ⟨v, r, e, h1, h2⟩, f => by
    subst e
    simp only [List.all_cons, Bool.and_eq_true] at f ⊢
    exact ⟨flat_rep h1 f.1, flat_all h2 f.2⟩
theorem eqV_rep {c : Ct} {H : Hp} {p q : PV} {v u : V} (h : Rep c H p v) (k : Rep c H q u) (f : flatP p = true) (f' : flatP q = true) : eqV v u = eqP p q := by
  cases p <;> simp only [flatP] at f <;> first | (cases f; done) | skip
  all_goals (cases q <;> simp only [flatP] at f' <;> first | (cases f'; done) | (cases h; cases k; rfl))
theorem inV_rep {c : Ct} {H : Hp} {p : PV} {v : V} (h : Rep c H p v) (f : flatP p = true) : ∀ {l : List PV} {vs : List V}, RepL c H l vs → l.all flatP = true → inV v vs = l.any fun y => eqP y p
  | [], _, k, _ => by subst k; rfl
  | q :: ps, _, ⟨u, r, e, h1, h2⟩, g => by
    subst e
    simp only [List.all_cons, Bool.and_eq_true] at g
    show (eqV u v || inV v r) = (eqP q p || ps.any fun y => eqP y p)
    rw [eqV_rep h1 h g.1 f, inV_rep h f h2 g.2]
theorem pInB_ok {c : Ct} {H : Hp} {p q : PV} {v u : V} {b : Bool} (rp : RepB c H p v) (rq : RepB c H q u) (h : pInB p q = some b) :
    ∃ a xs, u = .ref a ∧ (SqL c.K H a xs ∨ SqT c.K H a xs) ∧ flatV v = true ∧ xs.all flatV = true ∧ b = inV v xs := by
  cases q <;> simp only [pInB] at h <;> try (cases h)
  all_goals (split at h <;> cases h; rename_i l hl)
  · obtain ⟨a, xs, rfl, h1, k⟩ := rq.tup
    exact ⟨a, xs, rfl, .inr h1.sq, flat_repB rp hl.1, flat_all k hl.2, (inV_rep (flat_repB' rp hl.1) hl.1 k hl.2).symm⟩
  · obtain ⟨a, xs, rfl, h1, k⟩ := rq.lst
    exact ⟨a, xs, rfl, .inl (.of h1), flat_repB rp hl.1, flat_all k hl.2, (inV_rep (flat_repB' rp hl.1) hl.1 k hl.2).symm⟩
def pNin (p q : PV) : Option Bool := (pInB p q).map fun b => !b
theorem od_in : OpD X (compareOp .In) .rep (bo pInB) := ⟨_, op_in_seq, fun c p q w v u H Q ek _ hd rp rq ho hq => by
  cases e : pInB p q with
  | none => simp [bo, e] at ho
  | some b =>
    simp [bo, e] at ho
    subst ho
    obtain ⟨a, xs, h1, h2, h3, h4, rfl⟩ := pInB_ok rp rq e
    exact ⟨a, xs, h1, ek ▸ h2, h3, h4, hq _ _ (Same.refl _) rfl⟩⟩
theorem od_nin : OpD X (compareOp .NotIn) .rep (bo pNin) := ⟨_, op_notIn_seq, fun c p q w v u H Q ek _ hd rp rq ho hq => by
  cases e : pInB p q with
  | none => simp [bo, pNin, e] at ho
  | some b =>
    simp [bo, pNin, e] at ho
    subst ho
    obtain ⟨a, xs, h1, h2, h3, h4, rfl⟩ := pInB_ok rp rq e
    exact ⟨a, xs, h1, ek ▸ h2, h3, h4, hq _ _ (Same.refl _) rfl⟩⟩
end
end Tr

namespace Tr
open PySem PySem.Spec PyProof.Rows L2

/-! ### tests -/
abbrev DenT := Sl → Rg → Res Bool
def PstT (c : Ct) (H : Hp) (W : Wn) (r : Res Bool) (Q : Bool → Hp → Prop) (E : XK) : Prop :=
  match r with
  | .ok p g => ∀ H', Ext c H H' → RgOk c H' g → Q p H'
  | .exc k ns ps g => ∀ cls d H', Ext c H H' → RgOk c H' g → RepX (c.ban W) H' k ns ps cls d → E cls d H'
  | .stuck => False
def ST (X : Cx) (Wx : WX) (Wk : List Nat) (e : Expr) (d : DenT) : Prop :=
  ∃ t, PT X e t ∧ ∀ (ρ : Option (Addr × Addr)) (B : Addr → Prop) (W : Wn) (σ : Sl) (σc : L2.St) (H : Hp) (g : Rg) (Q : Bool → Hp → Prop), W.map (·.1) = Wk →
    Rel (ct X ρ B) W σ σc H g → PstT (ct X ρ B) H W (d σ g) Q (fun cls dd H' => Wx cls dd σc H') → t σc H Q
def SW (X : Cx) (Wx : WX) (Wk : List Nat) (e : Expr) (d : DenT) : Prop :=
  ∃ t, PW X e t ∧ ∀ (ρ : Option (Addr × Addr)) (B : Addr → Prop) (W : Wn) (σ : Sl) (σc : L2.St) (H : Hp) (g : Rg) (Q : Bool → Hp → Prop), W.map (·.1) = Wk →
    Rel (ct X ρ B) W σ σc H g → PstT (ct X ρ B) H W (d σ g) Q (fun cls dd H' => Wx cls dd σc H') → t σc H Q
theorem PstT.from {c : Ct} {W : Wn} {H H1 : Hp} {r : Res Bool} {Q : Bool → Hp → Prop} {E : XK} (e : Ext c H H1) (h : PstT c H W r Q E) : PstT c H1 W r Q E := by
  cases r with
  | ok p g' => exact fun H' e' k' => h H' (e.trans e') k'
  | exc a b cc d => exact fun cls d H' e' k' q => h cls d H' (e.trans e') k' q
  | stuck => exact h
/-- a value, then a test of it -/
theorem PstT.bind {c : Ct} {W : Wn} {H : Hp} {m1 : Md} {r : Res PV} {f : PV → Rg → Res Bool} {Q : Bool → Hp → Prop} {Q1 : VK} {E : XK} (h : PstT c H W (r.bind f) Q E)
    (k : ∀ p g1 v H1, r = .ok p g1 → Ext c H H1 → RgOk c H1 g1 → Val (c.ban W) H H1 p v m1 → PstT c H1 W (f p g1) Q E → Q1 v H1) : Pst c W H m1 r Q1 E := by
  cases r with
  | ok p g1 => exact fun v H1 e k1 q => k p g1 v H1 rfl e k1 q (PstT.from e h)
  | exc a b cc d => exact h
  | stuck => exact h
theorem PstT.bindT {c : Ct} {W : Wn} {H : Hp} {r : Res Bool} {f : Bool → Rg → Res Bool} {Q Q1 : Bool → Hp → Prop} {E : XK} (h : PstT c H W (r.bind f) Q E)
    (k : ∀ p g1 H1, r = .ok p g1 → Ext c H H1 → RgOk c H1 g1 → PstT c H1 W (f p g1) Q E → Q1 p H1) : PstT c H W r Q1 E := by
  cases r with
  | ok p g1 => exact fun H1 e k1 => k p g1 H1 rfl e k1 (PstT.from e h)
  | exc a b cc d => exact h
  | stuck => exact h
theorem Pst.bindT {c : Ct} {W : Wn} {H : Hp} {md : Md} {r : Res Bool} {f : Bool → Rg → Res PV} {Q : VK} {Q1 : Bool → Hp → Prop} {E : XK} (h : Pst c W H md (r.bind f) Q E)
    (k : ∀ p g1 H1, r = .ok p g1 → Ext c H H1 → RgOk c H1 g1 → Pst c W H1 md (f p g1) Q E → Q1 p H1) : PstT c H W r Q1 E := by
  cases r with
  | ok p g1 => exact fun H1 e k1 => k p g1 H1 rfl e k1 (Pst.from e k1 h)
  | exc a b cc d => exact h
  | stuck => exact h

/-- a value's truth -/
def truth : PV → Option Bool
  | .non => some false
  | .bl b => some b
  | .int i => some (i != 0)
  | .str s => if s.length ≤ sizeLine then some ((s.length : Int) != 0) else none
  | .lst l => some (!l.isEmpty)
  | .tup l => some (!l.isEmpty)
  | .dct ks _ => some (!ks.isEmpty)
  | _ => none
def dTr (d : Den) : DenT := fun σ g => (d σ g).bind fun p g => match truth p with | some b => .ok b g | none => .stuck
theorem isEmpty_len {α β : Type} {l : List α} {m : List β} (h : l.length = m.length) : l.isEmpty = m.isEmpty := by
  cases l <;> cases m <;> simp_all
section
variable {X : Cx} {Wx : WX} {Wk : List Nat} {md : Md}
theorem truV_of {c : Ct} {H : Hp} {p : PV} {v : V} {b : Bool} (h : RepB c H p v) (e : truth p = some b) : TruV c.K v H b := by
  cases p with
  | non => cases e; rw [h.non]; rfl
  | bl b => cases e; rw [h.bl]; rfl
  | int i => cases e; rw [h.int]; rfl
  | str s =>
    have e : (if s.length ≤ sizeLine then some ((s.length : Int) != 0) else none) = some b := e
    by_cases hl : s.length ≤ sizeLine
    · rw [if_pos hl] at e
      cases e
      rw [h.str]
      exact ⟨hl, rfl⟩
    · rw [if_neg hl] at e
      cases e
  | lst l =>
    cases e
    obtain ⟨a, xs, rfl, h1, k⟩ := h.lst
    exact .inl ⟨xs, .of h1, by rw [isEmpty_len k.length]⟩
  | tup l =>
    cases e
    obtain ⟨a, xs, rfl, h1, k⟩ := h.tup
    exact .inr (.inl ⟨xs, h1.sq, by rw [isEmpty_len k.length]⟩)
  | dct ks ps =>
    cases e
    obtain ⟨a, xs, rfl, h1, hl, k⟩ := h.dct
    refine .inr (.inr ⟨_, h1, ?_⟩)
    have : (ks.zip xs).length = ks.length := by rw [List.length_zip, ← hl]; simp
    rw [isEmpty_len this]
  | ins k ns ps => cases e
  | rng => cases e
theorem st_val {e : Expr} {d : Den} (h : SE X Wx Wk .brw e d) (he : ∀ whole, isTrue e X.env whole = (do let v ← whole; standAt e.pos; holding [v] (truthy v)) := by intro _; rfl) : ST X Wx Wk e (dTr d) := by
  obtain ⟨t, ht, hs⟩ := h
  refine ⟨_, pt_truth ht he, fun ρ B W σ σc H g Q hW R p => ?_⟩
  refine hs ρ B W σ σc H g _ hW R (PstT.bind p fun x g1 v H1 _ e1 k1 q1 p => ?_)
  cases eb : truth x with
  | none => rw [eb] at p; exact p.elim
  | some b =>
    rw [eb] at p
    exact ⟨b, truV_of q1 eb, p H1 (Ext.refl _ _) k1⟩
/-- a comparison as a test -/
def dCmp (o : PV → PV → Option Bool) (da db : Den) : DenT := fun σ g => (da σ g).bind fun p g => (db σ g).bind fun q g => match o p q with | some w => .ok w g | none => .stuck
theorem st_cmp {op : CmpOp} {a b : Expr} {pos : Pos} {o : PV → PV → Option Bool} {da db : Den} (ho : OpD X (compareOp op) .rep (bo o)) (ha : SE X Wx Wk .brw a da) (hb : SE X Wx Wk .brw b db) (hm : behindInMarks op b = false := by first | exact nomark _ | rfl | with_unfolding_all rfl) : ST X Wx Wk (.Compare a [op] [b] pos) (dCmp o da db) := by
  obtain ⟨r, hr, k⟩ := ho
  obtain ⟨ta, pa, sa⟩ := ha
  obtain ⟨tb, pb, sb⟩ := hb
  refine ⟨_, pt_cmpR hr pa pb hm, fun ρ B W σ σc H g Q hW R p => ?_⟩
  refine sa ρ B W σ σc H g _ hW R (PstT.bind p fun x g1 v H1 _ e1 k1 q1 p => ?_)
  have R1 := R.ext e1 k1
  refine sb ρ B W σ σc H1 g1 _ hW R1 (PstT.bind p fun y g2 u H2 _ e2 k2 q2 p => ?_)
  have R2 := R1.ext e2 k2
  cases ew : o x y with
  | none => rw [ew] at p; exact p.elim
  | some w =>
    rw [ew] at p
    refine k ((ct X ρ B).ban W) x y (.bl w) v u H2 _ rfl rfl R2.wdom (RepB.ext (c := (ct X ρ B).ban W) e2 (Ct.ban_R R.rb) q1) q2 (by unfold bo; rw [ew]; rfl) fun z H' s hz => ?_
    exact ⟨w, hz, p H' (Ext.of s) (k2.same s)⟩
/-! ### chains, and, or, not, if .. else -/
def dChT (o o' : PV → PV → Option Bool) (da db dc : Den) : DenT := fun σ g => (da σ g).bind fun p g => (db σ g).bind fun q g => match o p q with
  | some true => (dc σ g).bind fun r g => match o' q r with | some w => .ok w g | none => .stuck
  | some false => .ok false g
  | none => .stuck
theorem st_chain {op op' : CmpOp} {a b e : Expr} {pos : Pos} {o o' : PV → PV → Option Bool} {da db dc : Den} (ho : OpD X (compareOp op) .rep (bo o)) (ho' : OpD X (compareOp op') .rep (bo o')) (ha : SE X Wx Wk .brw a da) (hb : SE X Wx Wk .brw b db) (hc : SE X Wx Wk .brw e dc)
    (hm : lastMarks [op, op'] [b, e] = false := by with_unfolding_all rfl) : ST X Wx Wk (.Compare a [op, op'] [b, e] pos) (dChT o o' da db dc) := by
  obtain ⟨r, hr, k⟩ := ho
  obtain ⟨r', hr', k'⟩ := ho'
  obtain ⟨ta, pa, sa⟩ := ha
  obtain ⟨tb, pb, sb⟩ := hb
  obtain ⟨tc, pc, sc⟩ := hc
  refine ⟨_, pt_chain hr hr' pa pb pc hm, fun ρ B W σ σc H g Q hW R p => ?_⟩
  refine sa ρ B W σ σc H g _ hW R (PstT.bind p fun x g1 v H1 _ e1 k1 q1 p => ?_)
  have R1 := R.ext e1 k1
  refine sb ρ B W σ σc H1 g1 _ hW R1 (PstT.bind p fun y g2 u H2 _ e2 k2 q2 p => ?_)
  have R2 := R1.ext e2 k2
  cases ew : o x y with
  | none => rw [ew] at p; exact p.elim
  | some w =>
    rw [ew] at p
    refine k ((ct X ρ B).ban W) x y (.bl w) v u H2 _ rfl rfl R2.wdom (RepB.ext (c := (ct X ρ B).ban W) e2 (Ct.ban_R R.rb) q1) q2 (by unfold bo; rw [ew]; rfl) fun z H' s hz => ?_
    refine ⟨w, hz, ?_⟩
    cases w with
    | false => exact ⟨false, rfl, p H' (Ext.of s) (k2.same s)⟩
    | true =>
      have R3 := R2.ext (Ext.of s) (k2.same s)
      refine sc ρ B W σ σc H' g2 _ hW R3 (PstT.bind (PstT.from (Ext.of s) p) fun z' g3 u' H3 _ e3 k3 q3 p => ?_)
      have R4 := R3.ext e3 k3
      cases ew' : o' y z' with
      | none => rw [ew'] at p; exact p.elim
      | some w' =>
        rw [ew'] at p
        refine k' ((ct X ρ B).ban W) y z' (.bl w') u u' H3 _ rfl rfl R4.wdom (RepB.ext (c := (ct X ρ B).ban W) e3 (Ct.ban_R R.rb) (RepB.ext (c := (ct X ρ B).ban W) (Ext.of s) (Ct.ban_R R.rb) q2)) q3 (by unfold bo; rw [ew']; rfl) fun z2 H4 s2 hz2 => ?_
        exact ⟨w', hz2, p H4 (Ext.of s2) (k3.same s2)⟩
/-- a test as a value -/
def dOfT (d : DenT) : Den := fun σ g => (d σ g).bind fun b g => .ok (.bl b) g
theorem se_chain {op op' : CmpOp} {a b e : Expr} {pos : Pos} {o o' : PV → PV → Option Bool} {da db dc : Den} (ho : OpD X (compareOp op) .rep (bo o)) (ho' : OpD X (compareOp op') .rep (bo o')) (ha : SE X Wx Wk .brw a da) (hb : SE X Wx Wk .brw b db) (hc : SE X Wx Wk .brw e dc)
    (hm : lastMarks [op, op'] [b, e] = false := by with_unfolding_all rfl) : SE X Wx Wk .rep (.Compare a [op, op'] [b, e] pos) (dOfT (dChT o o' da db dc)) := by
  obtain ⟨r, hr, k⟩ := ho
  obtain ⟨r', hr', k'⟩ := ho'
  obtain ⟨ta, pa, sa⟩ := ha
  obtain ⟨tb, pb, sb⟩ := hb
  obtain ⟨tc, pc, sc⟩ := hc
  refine ⟨_, pe_chain hr hr' pa pb pc hm, fun ρ B W σ σc H g Q hW R p => ?_⟩
  have p : PstT (ct X ρ B) H W (dChT o o' da db dc σ g) (fun b H' => Q (.bl b) H') (fun cls dd H' => Wx cls dd σc H') := by
    refine Pst.bindT p fun b g1 H1 _ e1 k1 q => q (.bl b) H1 (Ext.refl _ _) k1 rfl
  refine sa ρ B W σ σc H g _ hW R (PstT.bind p fun x g1 v H1 _ e1 k1 q1 p => ?_)
  have R1 := R.ext e1 k1
  refine sb ρ B W σ σc H1 g1 _ hW R1 (PstT.bind p fun y g2 u H2 _ e2 k2 q2 p => ?_)
  have R2 := R1.ext e2 k2
  cases ew : o x y with
  | none => rw [ew] at p; exact p.elim
  | some w =>
    rw [ew] at p
    refine k ((ct X ρ B).ban W) x y (.bl w) v u H2 _ rfl rfl R2.wdom (RepB.ext (c := (ct X ρ B).ban W) e2 (Ct.ban_R R.rb) q1) q2 (by unfold bo; rw [ew]; rfl) fun z H' s hz => ?_
    refine ⟨w, hz, ?_⟩
    cases w with
    | false => exact p H' (Ext.of s) (k2.same s)
    | true =>
      have R3 := R2.ext (Ext.of s) (k2.same s)
      refine sc ρ B W σ σc H' g2 _ hW R3 (PstT.bind (PstT.from (Ext.of s) p) fun z' g3 u' H3 _ e3 k3 q3 p => ?_)
      have R4 := R3.ext e3 k3
      cases ew' : o' y z' with
      | none => rw [ew'] at p; exact p.elim
      | some w' =>
        rw [ew'] at p
        refine k' ((ct X ρ B).ban W) y z' (.bl w') u u' H3 _ rfl rfl R4.wdom (RepB.ext (c := (ct X ρ B).ban W) e3 (Ct.ban_R R.rb) (RepB.ext (c := (ct X ρ B).ban W) (Ext.of s) (Ct.ban_R R.rb) q2)) q3 (by unfold bo; rw [ew']; rfl) fun z2 H4 s2 hz2 => ?_
        have hz2 : z2 = .bl w' := hz2
        subst hz2
        exact p H4 (Ext.of s2) (k3.same s2)
def dAndT (a b : DenT) : DenT := fun σ g => (a σ g).bind fun c g => if c = true then b σ g else .ok false g
def dOrT (a b : DenT) : DenT := fun σ g => (a σ g).bind fun c g => if c = true then .ok true g else b σ g
def dNotT (a : DenT) : DenT := fun σ g => (a σ g).bind fun c g => .ok (!c) g
theorem sw_st {e : Expr} {d : DenT} (h : SW X Wx Wk e d) : ST X Wx Wk e d := by
  obtain ⟨t, ht, hs⟩ := h
  exact ⟨t, ht.pt, hs⟩
theorem sw_and1 {a : Expr} {pos : Pos} {d : DenT} (h : ST X Wx Wk a d) : SW X Wx Wk (.BoolOp .And [a] pos) d := by
  obtain ⟨t, ht, hs⟩ := h
  exact ⟨t, pw_and1 ht, hs⟩
theorem sw_or1 {a : Expr} {pos : Pos} {d : DenT} (h : ST X Wx Wk a d) : SW X Wx Wk (.BoolOp .Or [a] pos) d := by
  obtain ⟨t, ht, hs⟩ := h
  exact ⟨t, pw_or1 ht, hs⟩
theorem sw_and {a b : Expr} {rest : List Expr} {pos : Pos} {da db : DenT} (h : ST X Wx Wk a da) (h' : SW X Wx Wk (.BoolOp .And (b :: rest) pos) db) : SW X Wx Wk (.BoolOp .And (a :: b :: rest) pos) (dAndT da db) := by
  obtain ⟨t, ht, hs⟩ := h
  obtain ⟨t', ht', hs'⟩ := h'
  refine ⟨_, pw_and ht ht', fun ρ B W σ σc H g Q hW R p => ?_⟩
  refine hs ρ B W σ σc H g _ hW R (PstT.bindT p fun c g1 H1 _ e1 k1 p => ?_)
  cases c with
  | true => exact hs' ρ B W σ σc H1 g1 _ hW (R.ext e1 k1) p
  | false => exact p H1 (Ext.refl _ _) k1
theorem sw_or {a b : Expr} {rest : List Expr} {pos : Pos} {da db : DenT} (h : ST X Wx Wk a da) (h' : SW X Wx Wk (.BoolOp .Or (b :: rest) pos) db) : SW X Wx Wk (.BoolOp .Or (a :: b :: rest) pos) (dOrT da db) := by
  obtain ⟨t, ht, hs⟩ := h
  obtain ⟨t', ht', hs'⟩ := h'
  refine ⟨_, pw_or ht ht', fun ρ B W σ σc H g Q hW R p => ?_⟩
  refine hs ρ B W σ σc H g _ hW R (PstT.bindT p fun c g1 H1 _ e1 k1 p => ?_)
  cases c with
  | false => exact hs' ρ B W σ σc H1 g1 _ hW (R.ext e1 k1) p
  | true => exact p H1 (Ext.refl _ _) k1
theorem st_not {a : Expr} {pos : Pos} {d : DenT} (h : ST X Wx Wk a d) : ST X Wx Wk (.UnaryOp .Not a pos) (dNotT d) := by
  obtain ⟨t, ht, hs⟩ := h
  refine ⟨_, pt_not ht, fun ρ B W σ σc H g Q hW R p => ?_⟩
  exact hs ρ B W σ σc H g _ hW R (PstT.bindT p fun c g1 H1 _ e1 k1 p => p H1 (Ext.refl _ _) k1)
/-- and, or, not as values, of bools -/
def dAnd (da db : Den) : Den := fun σ g => (da σ g).bind fun p g => match p with | .bl true => db σ g | .bl false => .ok (.bl false) g | _ => .stuck
def dOr (da db : Den) : Den := fun σ g => (da σ g).bind fun p g => match p with | .bl false => db σ g | .bl true => .ok (.bl true) g | _ => .stuck
def dNot (da : Den) : Den := fun σ g => (da σ g).bind fun p g => match p with | .bl b => .ok (.bl (!b)) g | _ => .stuck
theorem se_one {op} {a : Expr} {pos : Pos} {d : Den} (h : SE X Wx Wk md a d) : SE X Wx Wk md (.BoolOp op [a] pos) d := by
  obtain ⟨t, ht, hs⟩ := h
  exact ⟨t, pe_one ht, hs⟩
theorem se_and {a b : Expr} {rest : List Expr} {pos : Pos} {da db : Den} (h : SE X Wx Wk .brw a da) (h' : SE X Wx Wk .rep (.BoolOp .And (b :: rest) pos) db) : SE X Wx Wk .rep (.BoolOp .And (a :: b :: rest) pos) (dAnd da db) := by
  obtain ⟨t, ht, hs⟩ := h
  obtain ⟨t', ht', hs'⟩ := h'
  refine ⟨_, pe_and ht ht', fun ρ B W σ σc H g Q hW R p => ?_⟩
  refine hs ρ B W σ σc H g _ hW R (p.bind fun x g1 v H1 _ e1 k1 q1 p => ?_)
  cases x with
  | bl b =>
    refine ⟨b, q1.bl, ?_⟩
    cases b with
    | true => exact hs' ρ B W σ σc H1 g1 _ hW (R.ext e1 k1) p
    | false => exact p _ H1 (Ext.refl _ _) k1 rfl
  | _ => exact p.elim
theorem se_or {a b : Expr} {rest : List Expr} {pos : Pos} {da db : Den} (h : SE X Wx Wk .brw a da) (h' : SE X Wx Wk .rep (.BoolOp .Or (b :: rest) pos) db) : SE X Wx Wk .rep (.BoolOp .Or (a :: b :: rest) pos) (dOr da db) := by
  obtain ⟨t, ht, hs⟩ := h
  obtain ⟨t', ht', hs'⟩ := h'
  refine ⟨_, pe_or ht ht', fun ρ B W σ σc H g Q hW R p => ?_⟩
  refine hs ρ B W σ σc H g _ hW R (p.bind fun x g1 v H1 _ e1 k1 q1 p => ?_)
  cases x with
  | bl b =>
    refine ⟨b, q1.bl, ?_⟩
    cases b with
    | false => exact hs' ρ B W σ σc H1 g1 _ hW (R.ext e1 k1) p
    | true => exact p _ H1 (Ext.refl _ _) k1 rfl
  | _ => exact p.elim
theorem se_not {a : Expr} {pos : Pos} {da : Den} (h : SE X Wx Wk .brw a da) : SE X Wx Wk .rep (.UnaryOp .Not a pos) (dNot da) := by
  obtain ⟨t, ht, hs⟩ := h
  refine ⟨_, pe_not ht, fun ρ B W σ σc H g Q hW R p => ?_⟩
  refine hs ρ B W σ σc H g _ hW R (p.bind fun x g1 v H1 _ e1 k1 q1 p => ?_)
  cases x with
  | bl b => exact ⟨b, q1.bl, p _ H1 (Ext.refl _ _) k1 rfl⟩
  | _ => exact p.elim
def dIfE (c : DenT) (a b : Den) : Den := fun σ g => (c σ g).bind fun t g => if t = true then a σ g else b σ g
theorem se_if {c a b : Expr} {pos : Pos} {dc : DenT} {da db : Den} (hc : ST X Wx Wk c dc) (ha : SE X Wx Wk md a da) (hb : SE X Wx Wk md b db) : SE X Wx Wk md (.IfExp c a b pos) (dIfE dc da db) := by
  obtain ⟨t, ht, hs⟩ := hc
  obtain ⟨ta, pa, sa⟩ := ha
  obtain ⟨tb, pb, sb⟩ := hb
  refine ⟨_, pe_ifExp ht pa pb, fun ρ B W σ σc H g Q hW R p => ?_⟩
  refine hs ρ B W σ σc H g _ hW R (Pst.bindT p fun c g1 H1 _ e1 k1 p => ?_)
  cases c with
  | true => exact sa ρ B W σ σc H1 g1 _ hW (R.ext e1 k1) p
  | false => exact sb ρ B W σ σc H1 g1 _ hW (R.ext e1 k1) p
/-- -a -/
def dNeg (da : Den) : Den := fun σ g => (da σ g).bind fun p g => match p with | .int i => .ok (.int (-i)) g | _ => .stuck
theorem se_neg {a : Expr} {pos : Pos} {da : Den} (h : SE X Wx Wk .brw a da) : SE X Wx Wk .rep (.UnaryOp .USub a pos) (dNeg da) := by
  obtain ⟨t, ht, hs⟩ := h
  refine ⟨_, pe_un un_neg ht, fun ρ B W σ σc H g Q hW R p => ?_⟩
  refine hs ρ B W σ σc H g _ hW R (p.bind fun x g1 v H1 _ e1 k1 q1 p => ?_)
  cases x with
  | int b => exact ⟨b, q1.int, p _ H1 (Ext.refl _ _) k1 rfl⟩
  | _ => exact p.elim
end
end Tr

namespace Tr
open PySem PySem.Spec PyProof.Rows L2

/-! ### arguments -/
abbrev DenL := Sl → Rg → Res (List PV)
def RepLB (c : Ct) (H : Hp) : List PV → List V → Prop
  | [], vs => vs = []
  | p :: ps, vs => ∃ v r, vs = v :: r ∧ RepB c H p v ∧ RepLB c H ps r
theorem RepLB.ext {c : Ct} {H H' : Hp} (e : Ext c H H') (rb : ∀ b, c.R b → c.B b) : ∀ {ps : List PV} {vs : List V}, RepLB c H ps vs → RepLB c H' ps vs
  | [], _, h => h
  | p :: ps, _, ⟨v, r, h1, h2, h3⟩ => ⟨v, r, h1, h2.ext e rb, RepLB.ext e rb h3⟩
def ValL (c : Ct) (H : Hp) (ps : List PV) (vs : List V) : Md → Prop
  | .brw => RepLB c H ps vs
  | _ => RepL c H ps vs
def PstL (c : Ct) (W : Wn) (H : Hp) (md : Md) (n : Nat) (r : Res (List PV)) (Q : List V → Hp → Prop) (E : XK) : Prop :=
  match r with
  | .ok p g => ∀ v H', Ext c H H' → RgOk c H' g → ValL (c.ban W) H' p v md → p.length = n → Q v H'
  | .exc k ns ps g => ∀ cls d H', Ext c H H' → RgOk c H' g → RepX (c.ban W) H' k ns ps cls d → E cls d H'
  | .stuck => False
def SA (X : Cx) (Wx : WX) (Wk : List Nat) (md : Md) (es : List Expr) (d : DenL) : Prop :=
  ∃ t, PA X es t ∧ ∀ (ρ : Option (Addr × Addr)) (B : Addr → Prop) (W : Wn) (σ : Sl) (σc : L2.St) (H : Hp) (g : Rg) (Q : List V → Hp → Prop), W.map (·.1) = Wk →
    Rel (ct X ρ B) W σ σc H g → PstL (ct X ρ B) W H md es.length (d σ g) Q (fun cls dd H' => Wx cls dd σc H') → t σc H Q
theorem PstL.from {c : Ct} {W : Wn} {H H1 : Hp} {md : Md} {n : Nat} {r : Res (List PV)} {Q : List V → Hp → Prop} {E : XK} (e : Ext c H H1) (h : PstL c W H md n r Q E) : PstL c W H1 md n r Q E := by
  cases r with
  | ok p g' => exact fun v H' e' k' q => h v H' (e.trans e') k' q
  | exc a b cc d => exact fun cls d H' e' k' q => h cls d H' (e.trans e') k' q
  | stuck => exact h
/-- an expression, then a list -/
theorem PstL.bind1 {c : Ct} {W : Wn} {H : Hp} {m1 m2 : Md} {n : Nat} {r : Res PV} {f : PV → Rg → Res (List PV)} {Q : List V → Hp → Prop} {Q1 : VK} {E : XK} (h : PstL c W H m2 n (r.bind f) Q E)
    (k : ∀ p g1 v H1, r = .ok p g1 → Ext c H H1 → RgOk c H1 g1 → Val (c.ban W) H H1 p v m1 → PstL c W H1 m2 n (f p g1) Q E → Q1 v H1) : Pst c W H m1 r Q1 E := by
  cases r with
  | ok p g1 => exact fun v H1 e k1 q => k p g1 v H1 rfl e k1 q (PstL.from e h)
  | exc a b cc d => exact h
  | stuck => exact h
/-- a list, then a list -/
theorem PstL.bindL {c : Ct} {W : Wn} {H : Hp} {m1 m2 : Md} {n n1 : Nat} {r : Res (List PV)} {f : List PV → Rg → Res (List PV)} {Q Q1 : List V → Hp → Prop} {E : XK} (h : PstL c W H m2 n (r.bind f) Q E)
    (k : ∀ p g1 v H1, r = .ok p g1 → Ext c H H1 → RgOk c H1 g1 → ValL (c.ban W) H1 p v m1 → p.length = n1 → PstL c W H1 m2 n (f p g1) Q E → Q1 v H1) : PstL c W H m1 n1 r Q1 E := by
  cases r with
  | ok p g1 => exact fun v H1 e k1 q l => k p g1 v H1 rfl e k1 q l (PstL.from e h)
  | exc a b cc d => exact h
  | stuck => exact h
/-- a list, then a value -/
theorem Pst.bindL {c : Ct} {W : Wn} {H : Hp} {m1 m2 : Md} {n1 : Nat} {r : Res (List PV)} {f : List PV → Rg → Res PV} {Q : VK} {Q1 : List V → Hp → Prop} {E : XK} (h : Pst c W H m2 (r.bind f) Q E)
    (k : ∀ p g1 v H1, r = .ok p g1 → Ext c H H1 → RgOk c H1 g1 → ValL (c.ban W) H1 p v m1 → p.length = n1 → Pst c W H1 m2 (f p g1) Q E → Q1 v H1) : PstL c W H m1 n1 r Q1 E := by
  cases r with
  | ok p g1 => exact fun v H1 e k1 q l => k p g1 v H1 rfl e k1 q l (Pst.from e k1 h)
  | exc a b cc d => exact h
  | stuck => exact h
def dNil : DenL := fun _ g => .ok [] g
def dCons (d : Den) (ds : DenL) : DenL := fun σ g => (d σ g).bind fun p g => (ds σ g).bind fun ps g => .ok (p :: ps) g
section
variable {X : Cx} {Wx : WX} {Wk : List Nat} {md : Md}
theorem sa_nil : SA X Wx Wk md [] dNil := ⟨_, pa_nil, fun ρ B W σ σc H g Q hW R p => p [] H (Ext.refl _ _) R.rg (by cases md <;> rfl) rfl⟩
theorem sa_cons {e : Expr} {es : List Expr} {d : Den} {ds : DenL} (h : SE X Wx Wk .rep e d) (h' : SA X Wx Wk .rep es ds) (hs : starEach (e :: es) X.env = (false, eval e X.env) :: starEach es X.env := by rfl) : SA X Wx Wk .rep (e :: es) (dCons d ds) := by
  obtain ⟨t, ht, hd⟩ := h
  obtain ⟨t', ht', hd'⟩ := h'
  refine ⟨_, pa_cons ht ht' hs, fun ρ B W σ σc H g Q hW R p => ?_⟩
  refine hd ρ B W σ σc H g _ hW R (PstL.bind1 p fun x g1 v H1 _ e1 k1 q1 p => ?_)
  refine hd' ρ B W σ σc H1 g1 _ hW (R.ext e1 k1) (PstL.bindL p fun ys g2 vs H2 _ e2 k2 q2 l p => ?_)
  exact p _ H2 (Ext.refl _ _) k2 ⟨v, vs, rfl, Rep.ext (c := (ct X ρ B).ban W) e2 (Ct.ban_R R.rb) q1, q2⟩ (by simp [l])
/-- .. borrowed -/
theorem sb_cons {e : Expr} {es : List Expr} {d : Den} {ds : DenL} (h : SE X Wx Wk .brw e d) (h' : SA X Wx Wk .brw es ds) (hs : starEach (e :: es) X.env = (false, eval e X.env) :: starEach es X.env := by rfl) : SA X Wx Wk .brw (e :: es) (dCons d ds) := by
  obtain ⟨t, ht, hd⟩ := h
  obtain ⟨t', ht', hd'⟩ := h'
  refine ⟨_, pa_cons ht ht' hs, fun ρ B W σ σc H g Q hW R p => ?_⟩
  refine hd ρ B W σ σc H g _ hW R (PstL.bind1 p fun x g1 v H1 _ e1 k1 q1 p => ?_)
  refine hd' ρ B W σ σc H1 g1 _ hW (R.ext e1 k1) (PstL.bindL p fun ys g2 vs H2 _ e2 k2 q2 l p => ?_)
  exact p _ H2 (Ext.refl _ _) k2 ⟨v, vs, rfl, RepB.ext (c := (ct X ρ B).ban W) e2 (Ct.ban_R R.rb) q1, q2⟩ (by simp [l])

/-! ### displays -/
theorem small_len {n : Nat} (h : n ≤ 1000) : n ≤ sizeLine := Nat.le_trans h (by decide)
def dLst (ds : DenL) : Den := fun σ g => (ds σ g).bind fun ps g => .ok (.lst ps) g
def dTup (ds : DenL) : Den := fun σ g => (ds σ g).bind fun ps g => .ok (.tup ps) g
theorem se_lst {es : List Expr} {pos : Pos} {ds : DenL} (h : SA X Wx Wk .rep es ds) (hl : es.length ≤ 1000 := by decide) : SE X Wx Wk .frs (.List es pos) (dLst ds) := by
  obtain ⟨t, ht, hd⟩ := h
  refine ⟨_, pe_lst ht, fun ρ B W σ σc H g Q hW R p => ?_⟩
  refine hd ρ B W σ σc H g _ hW R (Pst.bindL p fun ps g1 vs H1 _ e1 k1 q1 l p => ?_)
  refine ⟨small_len (by rw [← RepL.length q1, l]; exact hl), fun z hz => ?_⟩
  exact p _ _ (Ext.of (same_new hz)) (k1.same (same_new hz)) (val_lst (c := (ct X ρ B).ban W) q1 hz)
theorem se_tup {es : List Expr} {k} {pos : Pos} {ds : DenL} (h : SA X Wx Wk .rep es ds) (hl : es.length ≤ 1000 := by decide) : SE X Wx Wk .rep (.Tuple es k pos) (dTup ds) := by
  obtain ⟨t, ht, hd⟩ := h
  refine ⟨_, pe_tup ht, fun ρ B W σ σc H g Q hW R p => ?_⟩
  refine hd ρ B W σ σc H g _ hW R (Pst.bindL p fun ps g1 vs H1 _ e1 k1 q1 l p => ?_)
  refine ⟨small_len (by rw [← RepL.length q1, l]; exact hl), fun z hz => ?_⟩
  exact p _ _ (Ext.of (same_new hz)) (k1.same (same_new hz)) (val_tup (c := (ct X ρ B).ban W) q1 hz (R.ext e1 k1).wdom)

/-! ### an item, a slice -/
def keyP : PV → Option Key
  | .int i => some (.inl i)
  | .str s => some (.inr s)
  | _ => none
theorem keyP_rep {c : Ct} {H : Hp} {p : PV} {v : V} {k : Key} (h : RepB c H p v) (e : keyP p = some k) : v = kV k := by
  cases p <;> simp only [keyP] at e <;> cases e
  · exact h.int
  · exact h.str
def valP (ks : List Key) (ps : List PV) (k : Key) : Option PV := ((ks.zip ps).find? fun kv => decide (kv.1 = k)).map (·.2)
theorem valP_rep {c : Ct} {H : Hp} {k : Key} : ∀ {ks : List Key} {ps : List PV} {vs : List V}, RepL c H ps vs → match valP ks ps k with
    | some p => ∃ v, valV (ks.zip vs) k = some v ∧ Rep c H p v
    | none => valV (ks.zip vs) k = none
  | [], ps, vs, _ => by simp [valP, valV]
  | _ :: _, [], vs, h => by have h : vs = [] := h; subst h; simp [valP, valV]
  | q :: ks, p :: ps, _, ⟨v, r, rfl, h1, h2⟩ => by
    by_cases e : q = k
    · subst e
      simp [valP, valV]
      exact h1
    · have ih := valP_rep (k := k) (ks := ks) h2
      have e1 : valP (q :: ks) (p :: ps) k = valP ks ps k := by simp [valP, e]
      have e2 : valV ((q :: ks).zip (v :: r)) k = valV (ks.zip r) k := by simp [valV, e]
      rw [e1, e2]
      exact ih
def pIxS (z : Str) (i : Int) : Option PV := if z.length ≤ sizeLine then (atI z.cps.toList i).map fun c => .str ⟨#[c]⟩ else none
def pIx (p q : PV) : Option PV := match p, q with
  | .lst l, .int i => atI l i
  | .tup l, .int i => atI l i
  | .str z, .int i => pIxS z i
  | .dct ks ps, k => (keyP k).bind fun k => valP ks ps k
  | _, _ => none
theorem atI_rep {c : Ct} {H : Hp} {l : List PV} {xs : List V} {i : Int} {w : PV} (k : RepL c H l xs) (e : atI l i = some w) : ∃ v, atI xs i = some v ∧ Rep c H w v := by
  unfold atI at e ⊢
  rw [← k.length]
  cases q : ixN l.length i with
  | none => rw [q] at e; cases e
  | some j =>
    rw [q] at e
    exact k.get e
theorem or_pe {e : Expr} {t u : TE} (h : PE X e t) (h' : PE X e u) : PE X e (fun σ H Q => t σ H Q ∨ u σ H Q) := ⟨fun pins s σ H Q I q => q.elim (h.run pins s σ H Q I) (h'.run pins s σ H Q I)⟩
def dIx (da db : Den) : Den := dBin pIx da db
theorem se_ix {k : Nat} {a b : Expr} {pos : Pos} {da db : Den} (hr : Room k X.A) (ha : SE X Wx Wk .brw a da) (hb : SE X Wx Wk .brw b db) (hs : ∀ o i, subscripted b false o i = operate [o, i] (getItem o i) := by intro _ _; rfl) : SE X Wx Wk .rep (.Subscript a b pos) (dIx da db) := by
  obtain ⟨ta, pa, sa⟩ := ha
  obtain ⟨tb, pb, sb⟩ := hb
  refine ⟨_, or_pe (pe_ix (ix_list.or (ix_tup.or ix_str)) pa pb hs) (pe_dget (hu_of hr) pa pb hs), fun ρ B W σ σc H g Q hW R p => ?_⟩
  have isD : ∀ x g1, da σ g = .ok x g1 → (∃ ks ps, x = .dct ks ps) ∨ ∀ ks ps, x ≠ .dct ks ps := fun x _ _ => by
    cases x with
    | dct ks ps => exact .inl ⟨ks, ps, rfl⟩
    | _ => exact .inr fun _ _ z => nomatch z
  have list_way : (∀ x g1, da σ g = .ok x g1 → ∀ ks ps, x ≠ .dct ks ps) → tOp (fun x y H Q => rIxL X.K x y H Q ∨ rIxT X.K x y H Q ∨ rIxS x y H Q) ta tb σc H Q := fun nd => by
    refine sa ρ B W σ σc H g _ hW R (p.bind fun x g1 v H1 hx e1 k1 q1 p => ?_)
    have R1 := R.ext e1 k1
    refine sb ρ B W σ σc H1 g1 _ hW R1 (p.bind fun y g2 u H2 _ e2 k2 q2 p => ?_)
    have q1 : RepB ((ct X ρ B).ban W) H2 x v := RepB.ext (c := (ct X ρ B).ban W) e2 (Ct.ban_R R.rb) q1
    cases ew : pIx x y with
    | none => rw [ew] at p; exact p.elim
    | some w =>
      rw [ew] at p
      have fin : ∀ z, Rep ((ct X ρ B).ban W) H2 w z → Q z H2 := fun z hz => p z H2 (Ext.refl _ _) k2 hz
      cases x with
      | dct ks ps => exact absurd rfl (nd _ _ hx ks ps)
      | lst l =>
        cases y <;> simp only [pIx] at ew <;> try (cases ew)
        obtain ⟨a', xs, rfl, h1, k⟩ := q1.lst
        obtain ⟨z, ez, rz⟩ := atI_rep k ew
        exact .inl ⟨a', xs, _, z, rfl, q2.int, .of h1, ez, fin z rz⟩
      | tup l =>
        cases y <;> simp only [pIx] at ew <;> try (cases ew)
        obtain ⟨a', xs, rfl, h1, k⟩ := q1.tup
        obtain ⟨z, ez, rz⟩ := atI_rep k ew
        exact .inr (.inl ⟨a', xs, _, z, rfl, q2.int, h1.sq, ez, fin z rz⟩)
      | str s =>
        cases y with
        | int i =>
          have ew : (if s.length ≤ sizeLine then (atI s.cps.toList i).map fun c => PV.str ⟨#[c]⟩ else none) = some w := ew
          by_cases hl : s.length ≤ sizeLine
          · rw [if_pos hl] at ew
            cases ec : atI s.cps.toList i with
            | none => rw [ec] at ew; cases ew
            | some ch =>
              rw [ec] at ew
              cases ew
              exact .inr (.inr ⟨s, i, ch, q1.str, q2.int, hl, ec, fin _ rfl⟩)
          · rw [if_neg hl] at ew; cases ew
        | _ => cases ew
      | _ => cases ew
  have dict_way : (∀ x g1, da σ g = .ok x g1 → ∃ ks ps, x = .dct ks ps) → tDGet ta tb σc H Q := fun nd => by
    refine sa ρ B W σ σc H g _ hW R (p.bind fun x g1 v H1 hx e1 k1 q1 p => ?_)
    have R1 := R.ext e1 k1
    refine sb ρ B W σ σc H1 g1 _ hW R1 (p.bind fun y g2 u H2 _ e2 k2 q2 p => ?_)
    have q1 : RepB ((ct X ρ B).ban W) H2 x v := RepB.ext (c := (ct X ρ B).ban W) e2 (Ct.ban_R R.rb) q1
    obtain ⟨ks, ps, rfl⟩ := nd x g1 hx
    cases ew : pIx (.dct ks ps) y with
    | none => rw [ew] at p; exact p.elim
    | some w =>
      rw [ew] at p
      have ew : ((keyP y).bind fun k => valP ks ps k) = some w := ew
      cases ek : keyP y with
      | none => rw [ek] at ew; cases ew
      | some k =>
        rw [ek] at ew
        have ew : valP ks ps k = some w := ew
        obtain ⟨a', vs, rfl, h1, hl, rr⟩ := q1.dct
        have q := valP_rep (k := k) (ks := ks) rr
        rw [ew] at q
        obtain ⟨z, e1, e2⟩ := q
        exact ⟨a', z, rfl, .inl ⟨_, k, .of h1, keyP_rep q2 ek, e1.symm⟩, p z H2 (Ext.refl _ _) k2 e2⟩
  cases hda : da σ g with
  | ok x g1 =>
    rcases isD x g1 hda with ⟨ks, ps, rfl⟩ | nd
    · exact .inr (dict_way fun x g1 h => by rw [hda] at h; cases h; exact ⟨_, _, rfl⟩)
    · exact .inl (list_way fun x g1 h => by rw [hda] at h; cases h; exact nd)
  | exc _ _ _ _ => exact .inl (list_way fun x g1 h => by rw [hda] at h; cases h)
  | stuck => exact .inl (list_way fun x g1 h => by rw [hda] at h; cases h)
end
end Tr

namespace Tr
open PySem PySem.Spec PyProof.Rows L2

/-! ### slices -/
def cutL {α : Type} (xs : List α) (lo hi : Option Int) : List α := (xs.drop (HT.sIx xs.length 0 lo)).take (HT.sIx xs.length xs.length hi - HT.sIx xs.length 0 lo)
theorem cutL_rep {c : Ct} {H : Hp} {l : List PV} {xs : List V} (k : RepL c H l xs) (lo hi : Option Int) : RepL c H (cutL l lo hi) (cutV xs lo hi) := by
  unfold cutL cutV
  rw [k.length]
  exact (k.drop _).take _
abbrev DenO := Sl → Rg → Res (Option Int)
def PstO (c : Ct) (W : Wn) (H : Hp) (r : Res (Option Int)) (Q : Option Int → Hp → Prop) (E : XK) : Prop :=
  match r with
  | .ok p g => ∀ H', Ext c H H' → RgOk c H' g → Q p H'
  | .exc k ns ps g => ∀ cls d H', Ext c H H' → RgOk c H' g → RepX (c.ban W) H' k ns ps cls d → E cls d H'
  | .stuck => False
def SO (X : Cx) (Wx : WX) (Wk : List Nat) (e : Option Expr) (d : DenO) : Prop :=
  ∃ t, PO X e t ∧ ∀ (ρ : Option (Addr × Addr)) (B : Addr → Prop) (W : Wn) (σ : Sl) (σc : L2.St) (H : Hp) (g : Rg) (Q : Option Int → Hp → Prop), W.map (·.1) = Wk →
    Rel (ct X ρ B) W σ σc H g → PstO (ct X ρ B) W H (d σ g) Q (fun cls dd H' => Wx cls dd σc H') → t σc H Q
theorem PstO.from {c : Ct} {W : Wn} {H H1 : Hp} {r : Res (Option Int)} {Q : Option Int → Hp → Prop} {E : XK} (e : Ext c H H1) (h : PstO c W H r Q E) : PstO c W H1 r Q E := by
  cases r with
  | ok p g' => exact fun H' e' k' => h H' (e.trans e') k'
  | exc a b cc d => exact fun cls d H' e' k' q => h cls d H' (e.trans e') k' q
  | stuck => exact h
theorem PstO.bind {c : Ct} {W : Wn} {H : Hp} {m1 : Md} {r : Res PV} {f : PV → Rg → Res (Option Int)} {Q : Option Int → Hp → Prop} {Q1 : VK} {E : XK} (h : PstO c W H (r.bind f) Q E)
    (k : ∀ p g1 v H1, r = .ok p g1 → Ext c H H1 → RgOk c H1 g1 → Val (c.ban W) H H1 p v m1 → PstO c W H1 (f p g1) Q E → Q1 v H1) : Pst c W H m1 r Q1 E := by
  cases r with
  | ok p g1 => exact fun v H1 e k1 q => k p g1 v H1 rfl e k1 q (PstO.from e h)
  | exc a b cc d => exact h
  | stuck => exact h
theorem Pst.bindO {c : Ct} {W : Wn} {H : Hp} {md : Md} {r : Res (Option Int)} {f : Option Int → Rg → Res PV} {Q : VK} {Q1 : Option Int → Hp → Prop} {E : XK} (h : Pst c W H md (r.bind f) Q E)
    (k : ∀ p g1 H1, r = .ok p g1 → Ext c H H1 → RgOk c H1 g1 → Pst c W H1 md (f p g1) Q E → Q1 p H1) : PstO c W H r Q1 E := by
  cases r with
  | ok p g1 => exact fun H1 e k1 => k p g1 H1 rfl e k1 (Pst.from e k1 h)
  | exc a b cc d => exact h
  | stuck => exact h
def dNo : DenO := fun _ g => .ok none g
def dSome (d : Den) : DenO := fun σ g => (d σ g).bind fun p g => match p with | .int i => .ok (some i) g | _ => .stuck
section
variable {X : Cx} {Wx : WX} {Wk : List Nat} {md : Md}
theorem so_none : SO X Wx Wk none dNo := ⟨_, po_none, fun ρ B W σ σc H g Q hW R p => p H (Ext.refl _ _) R.rg⟩
theorem so_some {e : Expr} {d : Den} (h : SE X Wx Wk .brw e d) : SO X Wx Wk (some e) (dSome d) := by
  obtain ⟨t, ht, hs⟩ := h
  refine ⟨_, po_some ht, fun ρ B W σ σc H g Q hW R p => ?_⟩
  refine hs ρ B W σ σc H g _ hW R (PstO.bind p fun x g1 v H1 _ e1 k1 q1 p => ?_)
  cases x with
  | int i => exact ⟨i, q1.int, p H1 (Ext.refl _ _) k1⟩
  | _ => exact p.elim
def pSl (p : PV) (lo hi : Option Int) : Option PV := match p with
  | .lst l => some (.lst (cutL l lo hi))
  | _ => none
def dSl (f : PV → Option Int → Option Int → Option PV) (d : Den) (lo hi : DenO) : Den := fun σ g => (d σ g).bind fun p g => (lo σ g).bind fun a g => (hi σ g).bind fun b g => match f p a b with | some w => .ok w g | none => .stuck
/-- xs[lo:hi] of a list -/
theorem se_slice {e : Expr} {lo hi : Option Expr} {p2 pos : Pos} {d : Den} {dl dh : DenO} (h : SE X Wx Wk .brw e d) (hl : SO X Wx Wk lo dl) (hh : SO X Wx Wk hi dh) : SE X Wx Wk .frs (.Subscript e (.Slice lo hi none p2) pos) (dSl pSl d dl dh) := by
  obtain ⟨t, ht, hs⟩ := h
  obtain ⟨tl, htl, hsl⟩ := hl
  obtain ⟨th, hth, hsh⟩ := hh
  refine ⟨_, pe_slice sl_list ht htl hth, fun ρ B W σ σc H g Q hW R p => ?_⟩
  refine hs ρ B W σ σc H g _ hW R (p.bind fun x g1 v H1 _ e1 k1 q1 p => ?_)
  have R1 := R.ext e1 k1
  refine hsl ρ B W σ σc H1 g1 _ hW R1 (p.bindO fun lo g2 H2 _ e2 k2 p => ?_)
  have R2 := R1.ext e2 k2
  refine hsh ρ B W σ σc H2 g2 _ hW R2 (p.bindO fun hi g3 H3 _ e3 k3 p => ?_)
  have q1 : RepB ((ct X ρ B).ban W) H3 x v := RepB.ext (c := (ct X ρ B).ban W) e3 (Ct.ban_R R.rb) (RepB.ext (c := (ct X ρ B).ban W) e2 (Ct.ban_R R.rb) q1)
  cases x with
  | lst l =>
    obtain ⟨a, xs, rfl, h1, k⟩ := q1.lst
    exact ⟨a, xs, rfl, .of h1, fun z hz => p _ _ (Ext.of (same_new hz)) (k3.same (same_new hz)) (val_lst (c := (ct X ρ B).ban W) (cutL_rep k lo hi) hz)⟩
  | _ => exact p.elim
/-- s[lo:hi] of a text -/
def pSlS (p : PV) (lo hi : Option Int) : Option PV := match p with
  | .str z => if z.length ≤ sizeLine then some (.str (cutS z lo hi)) else none
  | _ => none
/-- xs[::-1] -/
def dRev (d : Den) : Den := fun σ g => (d σ g).bind fun p g => match p with | .lst l => .ok (.lst l.reverse) g | _ => .stuck
theorem se_rev {e : Expr} {k : Nat} {p1 p2 p3 pos : Pos} {d : Den} (h : SE X Wx Wk .brw e d) : SE X Wx Wk .frs (.Subscript e (.Slice none none (some (.UnaryOp .USub (.Constant (.int 1) k p1) p2)) p3) pos) (dRev d) := by
  obtain ⟨t, ht, hs⟩ := h
  refine ⟨_, pe_revL ht, fun ρ B W σ σc H g Q hW R p => ?_⟩
  refine hs ρ B W σ σc H g _ hW R (p.bind fun x g1 v H1 _ e1 k1 q1 p => ?_)
  cases x with
  | lst l =>
    obtain ⟨a, xs, rfl, h1, k⟩ := q1.lst
    exact ⟨a, xs, rfl, .of h1, fun z hz => p _ _ (Ext.of (same_new hz)) (k1.same (same_new hz)) (val_lst (c := (ct X ρ B).ban W) k.reverse hz)⟩
  | _ => exact p.elim

/-! ### a field -/
def fldP (ns : List Str) (ps : List PV) (f : Str) : Option PV := (ns.zip ps).lookup f
theorem fldP_rep {c : Ct} {H : Hp} {f : Str} : ∀ {ns : List Str} {ps : List PV} {vs : List V} {p : PV}, RepL c H ps vs → fldP ns ps f = some p → ∃ v, (ns.zip vs).lookup f = some v ∧ Rep c H p v
  | [], _, _, _, _, e => by simp [fldP] at e
  | _ :: _, [], _, _, _, e => by simp [fldP] at e
  | n :: ns, q :: ps, _, p, ⟨v, r, rfl, h1, h2⟩, e => by
    unfold fldP at e
    simp only [List.zip_cons_cons, List.lookup_cons] at e ⊢
    by_cases hn : (f == n) = true
    · simp only [hn] at e ⊢
      cases e
      exact ⟨v, rfl, h1⟩
    · have hn : (f == n) = false := by simpa using hn
      simp only [hn] at e ⊢
      exact fldP_rep (f := f) h2 e
/-- what the top says of a class whose instances are read -/
structure ClF (K : PySem.W.Frag) (mg : Str → Option Value) (k : Str) : Prop where
  ex : ∃ C, mg k = some (.ref C) ∧ Cls K C
def dFld (k f : Str) (d : Den) : Den := fun σ g => (d σ g).bind fun p g => match p with
  | .ins k' ns ps => if k' = k then (match fldP ns ps f with | some w => .ok w g | none => .stuck) else .stuck
  | _ => .stuck
theorem se_fld {e : Expr} {f k : Str} {pos : Pos} {d : Den} (T : ClF X.K X.mg k) (nf : ∀ C, X.mg k = some (.ref C) → NoAttr X.K C f) (h : SE X Wx Wk .brw e d) (hb : attributeBase e f X.env (eval e X.env) = eval e X.env := by rfl) : SE X Wx Wk .rep (.Attribute e f pos) (dFld k f d) := by
  obtain ⟨t, ht, hs⟩ := h
  refine ⟨_, pe_fld ht hb, fun ρ B W σ σc H g Q hW R p => ?_⟩
  refine hs ρ B W σ σc H g _ hW R (p.bind fun x g1 v H1 _ e1 k1 q1 p => ?_)
  cases x with
  | ins k' ns ps =>
    by_cases ek : k' = k
    · subst ek
      simp only [if_pos rfl] at p
      obtain ⟨a, C, dx, vs, rfl, hm, h1, hl, rr⟩ := q1.ins
      obtain ⟨C', hm', hc⟩ := T.ex
      have : C' = C := by
        have hm : X.mg k' = some (.ref C) := hm
        rw [hm] at hm'; cases hm'; rfl
      subst this
      cases ef : fldP ns ps f with
      | none => rw [ef] at p; exact p.elim
      | some w =>
        rw [ef] at p
        obtain ⟨z, ez, rz⟩ := fldP_rep rr ef
        exact ⟨a, C', dx, _, z, rfl, h1, hc, nf _ hm', ez, p z H1 (Ext.refl _ _) k1 rz⟩
    · simp only [if_neg ek] at p
      exact p.elim
  | _ => exact p.elim

/-! ### built-ins called -/
def CallD (X : Cx) (f : Value) (md : Md) (o : List PV → Option PV) : Prop :=
  ∃ r, CallR X f r ∧ ∀ (c : Ct) (ps : List PV) (w : PV) (vs : List V) (H : Hp) (Q : VK), c.K = X.K → c.mg = X.mg → (∀ b, c.B b → H b ≠ none) → RepLB c H ps vs → o ps = some w →
    (∀ z H', Same H H' → Val c H H' w z md → Q z H') → r vs H Q
theorem callR_or {f : Value} {r r' : List V → Hp → VK → Prop} (h : CallR X f r) (h' : CallR X f r') : CallR X f (fun x H Q => r x H Q ∨ r' x H Q) := by
  intro pins s σ H xs us Q I rx q
  rcases q with q | q
  · exact h pins s σ H xs us Q I rx q
  · exact h' pins s σ H xs us Q I rx q
theorem CallD.or {f : Value} {o o' : List PV → Option PV} (h : CallD X f md o) (h' : CallD X f md o') : CallD X f md (fun p => por (o p) (o' p)) := by
  obtain ⟨r, hr, k⟩ := h
  obtain ⟨r', hr', k'⟩ := h'
  refine ⟨_, callR_or hr hr', fun c p w v H Q e1 e2 hd rp ho hq => ?_⟩
  cases e : o p with
  | some z =>
    simp only [e, por_some] at ho
    cases ho
    exact .inl (k c p _ v H Q e1 e2 hd rp e hq)
  | none =>
    simp only [e, por_none] at ho
    exact .inr (k' c p _ v H Q e1 e2 hd rp ho hq)
def dCB (o : List PV → Option PV) (ds : DenL) : Den := fun σ g => (ds σ g).bind fun ps g => match o ps with | some w => .ok w g | none => .stuck
theorem se_callB {id : String} {x : Str} {e : Expr} {es : List Expr} {p pos : Pos} {o : List PV → Option PV} {ds : DenL} (hc : CallD X (.builtin id) md o) (hm : X.mg x = none) (hv : bootBuiltins x = some (.builtin id)) (ha : SA X Wx Wk .brw (e :: es) ds) (hg : Gl X x := by rfl) (hn : x ≠ "__name__" := by decide) (hdb : (x == ("__debug__" : Str)) = false := by decide)
    (he : starEach (e :: es) X.env = (false, eval e X.env) :: starEach es X.env := by rfl) (hpl : (backTo pos (starEach es X.env)).any (·.1) = false := by rfl) : SE X Wx Wk md (.Call (.Name x p) (e :: es) [] pos) (dCB o ds) := by
  obtain ⟨r, hr, k⟩ := hc
  obtain ⟨t, ht, hs⟩ := ha
  refine ⟨_, pe_callB hr hg hm hv ht hn hdb he hpl, fun ρ B W σ σc H g Q hW R p => ?_⟩
  refine hs ρ B W σ σc H g _ hW R (p.bindL fun ps g1 vs H1 _ e1 k1 q1 l p => ?_)
  cases ew : o ps with
  | none => rw [ew] at p; exact p.elim
  | some w =>
    rw [ew] at p
    exact k ((ct X ρ B).ban W) ps w vs H1 Q rfl rfl (R.ext e1 k1).wdom q1 ew fun z H' s hz => p z H' (Ext.of s) (k1.same s) hz
theorem se_callTy {T : String} {x : Str} {e : Expr} {es : List Expr} {p pos : Pos} {o : List PV → Option PV} {ds : DenL} (hc : CallD X (.type T) md o) (hm : X.mg x = none) (hv : bootBuiltins x = some (.type T)) (ha : SA X Wx Wk .brw (e :: es) ds) (hg : Gl X x := by rfl) (hn : x ≠ "__name__" := by decide) (hdb : (x == ("__debug__" : Str)) = false := by decide)
    (he : starEach (e :: es) X.env = (false, eval e X.env) :: starEach es X.env := by rfl) (hpl : (backTo pos (starEach es X.env)).any (·.1) = false := by rfl) : SE X Wx Wk md (.Call (.Name x p) (e :: es) [] pos) (dCB o ds) := by
  obtain ⟨r, hr, k⟩ := hc
  obtain ⟨t, ht, hs⟩ := ha
  refine ⟨_, pe_callTy hr hg hm hv ht hn hdb he hpl, fun ρ B W σ σc H g Q hW R p => ?_⟩
  refine hs ρ B W σ σc H g _ hW R (p.bindL fun ps g1 vs H1 _ e1 k1 q1 l p => ?_)
  cases ew : o ps with
  | none => rw [ew] at p; exact p.elim
  | some w =>
    rw [ew] at p
    exact k ((ct X ρ B).ban W) ps w vs H1 Q rfl rfl (R.ext e1 k1).wdom q1 ew fun z H' s hz => p z H' (Ext.of s) (k1.same s) hz
end
end Tr

namespace Tr
open PySem PySem.Spec PyProof.Rows L2

theorem RepLB.one {c : Ct} {H : Hp} {p : PV} {vs : List V} (h : RepLB c H [p] vs) : ∃ v, vs = [v] ∧ RepB c H p v := by
  obtain ⟨v, r, rfl, h1, h2⟩ := h
  have h2 : r = [] := h2
  subst h2
  exact ⟨v, rfl, h1⟩
theorem RepLB.two {c : Ct} {H : Hp} {p q : PV} {vs : List V} (h : RepLB c H [p, q] vs) : ∃ v u, vs = [v, u] ∧ RepB c H p v ∧ RepB c H q u := by
  obtain ⟨v, r, rfl, h1, h2⟩ := h
  obtain ⟨u, rfl, h3⟩ := RepLB.one h2
  exact ⟨v, u, rfl, h1, h3⟩
section
variable {X : Cx} {Wx : WX} {Wk : List Nat} {md : Md}
theorem CallD.toRep {f : Value} {o : List PV → Option PV} (h : CallD X f .frs o) : CallD X f .rep o := by
  obtain ⟨r, hr, k⟩ := h
  exact ⟨r, hr, fun c p w v H Q e1 e2 hd rp ho hq => k c p w v H Q e1 e2 hd rp ho fun z H' s hz => hq z H' s (hz.rep_of_frs hd)⟩
/-! ### len -/
def oLenL : List PV → Option PV
  | [.lst l] => some (.int (l.length : Nat))
  | [.tup l] => some (.int (l.length : Nat))
  | _ => none
def oLenS : List PV → Option PV
  | [.str z] => if z.length ≤ sizeLine then some (.int (z.length : Nat)) else none
  | _ => none
def oLenD : List PV → Option PV
  | [.dct ks _] => some (.int (ks.length : Nat))
  | _ => none
theorem cd_lenL : CallD X (.builtin "len") .rep oLenL := ⟨_, call_len_seq, fun c ps w vs H Q ek _ hd rp ho hq => by
  unfold oLenL at ho
  split at ho <;> cases ho
  · obtain ⟨v, rfl, r⟩ := rp.one
    obtain ⟨a, xs, rfl, h1, k⟩ := r.lst
    exact ⟨a, xs, rfl, .inl (.of h1), by rw [← k.length]; exact hq _ _ (Same.refl _) rfl⟩
  · obtain ⟨v, rfl, r⟩ := rp.one
    obtain ⟨a, xs, rfl, h1, k⟩ := r.tup
    exact ⟨a, xs, rfl, .inr (ek ▸ h1.sq), by rw [← k.length]; exact hq _ _ (Same.refl _) rfl⟩⟩
theorem cd_lenS : CallD X (.builtin "len") .rep oLenS := ⟨_, call_len_str, fun c ps w vs H Q ek _ hd rp ho hq => by
  unfold oLenS at ho
  split at ho
  · rename_i z
    by_cases hl : z.length ≤ sizeLine
    · rw [if_pos hl] at ho
      cases ho
      obtain ⟨v, rfl, r⟩ := rp.one
      exact ⟨z, by rw [r.str], hl, hq _ _ (Same.refl _) rfl⟩
    · rw [if_neg hl] at ho; cases ho
  · cases ho⟩
theorem cd_lenD : CallD X (.builtin "len") .rep oLenD := ⟨_, call_lenD, fun c ps w vs H Q ek _ hd rp ho hq => by
  unfold oLenD at ho
  split at ho <;> cases ho
  obtain ⟨v, rfl, r⟩ := rp.one
  obtain ⟨a, xs, rfl, h1, hl, k⟩ := r.dct
  refine ⟨a, _, rfl, h1, ?_⟩
  rw [List.length_zip, ← hl, Nat.min_self]
  exact hq _ _ (Same.refl _) rfl⟩
def oLen (p : List PV) : Option PV := por (oLenL p) (por (oLenS p) (oLenD p))
theorem cd_len : CallD X (.builtin "len") .rep oLen := cd_lenL.or (cd_lenS.or cd_lenD)
/-! ### list, tuple, int, abs, min, max, sum, all, any, sorted -/
def oList : List PV → Option PV
  | [.lst l] => some (.lst l)
  | [.tup l] => some (.lst l)
  | _ => none
theorem cd_list : CallD X (.type "list") .frs oList := ⟨_, call_list_of, fun c ps w vs H Q ek _ hd rp ho hq => by
  unfold oList at ho
  split at ho <;> cases ho
  · obtain ⟨v, rfl, r⟩ := rp.one
    obtain ⟨a, xs, rfl, h1, k⟩ := r.lst
    exact ⟨a, xs, rfl, .inl (.of h1), fun z hz => hq _ _ (same_new hz) (val_lst k hz)⟩
  · obtain ⟨v, rfl, r⟩ := rp.one
    obtain ⟨a, xs, rfl, h1, k⟩ := r.tup
    exact ⟨a, xs, rfl, .inr (ek ▸ h1.sq), fun z hz => hq _ _ (same_new hz) (val_lst k hz)⟩⟩
def oTuple : List PV → Option PV
  | [.lst l] => some (.tup l)
  | [.tup l] => some (.tup l)
  | _ => none
theorem cd_tuple : CallD X (.type "tuple") .rep oTuple := ⟨_, call_tuple_of, fun c ps w vs H Q ek _ hd rp ho hq => by
  unfold oTuple at ho
  split at ho <;> cases ho
  · obtain ⟨v, rfl, r⟩ := rp.one
    obtain ⟨a, xs, rfl, h1, k⟩ := r.lst
    exact ⟨a, xs, rfl, .inl ⟨.of h1, fun z hz => hq _ _ (same_new hz) (val_tup k hz hd)⟩⟩
  · obtain ⟨v, rfl, r⟩ := rp.one
    obtain ⟨a, xs, rfl, h1, k⟩ := r.tup
    exact ⟨a, xs, rfl, .inr ⟨ek ▸ h1.sq, hq _ _ (Same.refl _) ⟨a, xs, rfl, h1, k⟩⟩⟩⟩
def oInt : List PV → Option PV
  | [.int i] => some (.int i)
  | [.bl b] => some (.int (if b then 1 else 0))
  | _ => none
theorem cd_int : CallD X (.type "int") .rep oInt := ⟨_, call_int1, fun c ps w vs H Q ek _ hd rp ho hq => by
  unfold oInt at ho
  split at ho <;> cases ho
  · obtain ⟨v, rfl, r⟩ := rp.one
    exact .inl ⟨_, by rw [r.int], hq _ _ (Same.refl _) rfl⟩
  · obtain ⟨v, rfl, r⟩ := rp.one
    exact .inr ⟨_, by rw [r.bl], hq _ _ (Same.refl _) rfl⟩⟩
def oAbs : List PV → Option PV
  | [.int i] => some (.int (if i < 0 then -i else i))
  | _ => none
theorem cd_abs : CallD X (.builtin "abs") .rep oAbs := ⟨_, call_abs, fun c ps w vs H Q ek _ hd rp ho hq => by
  unfold oAbs at ho
  split at ho <;> cases ho
  obtain ⟨v, rfl, r⟩ := rp.one
  exact ⟨_, by rw [r.int], hq _ _ (Same.refl _) rfl⟩⟩
def oMax2 : List PV → Option PV
  | [.int i, .int j] => some (.int (max i j))
  | _ => none
def oMin2 : List PV → Option PV
  | [.int i, .int j] => some (.int (min i j))
  | _ => none
theorem cd_max2 (hc : X.calm = true) : CallD X (.builtin "max") .rep oMax2 := ⟨_, call_max2 hc, fun c ps w vs H Q ek _ hd rp ho hq => by
  unfold oMax2 at ho
  split at ho <;> cases ho
  rename_i i j
  obtain ⟨v, u, rfl, r, r'⟩ := rp.two
  refine ⟨_, _, by rw [r.int, r'.int], ?_⟩
  have e : (if j > i then j else i) = max i j := by split <;> omega
  rw [e]
  exact hq _ _ (Same.refl _) rfl⟩
theorem cd_min2 (hc : X.calm = true) : CallD X (.builtin "min") .rep oMin2 := ⟨_, call_min2 hc, fun c ps w vs H Q ek _ hd rp ho hq => by
  unfold oMin2 at ho
  split at ho <;> cases ho
  rename_i i j
  obtain ⟨v, u, rfl, r, r'⟩ := rp.two
  refine ⟨_, _, by rw [r.int, r'.int], ?_⟩
  have e : (if j < i then j else i) = min i j := by split <;> omega
  rw [e]
  exact hq _ _ (Same.refl _) rfl⟩
/-- a list of intsP, of bools -/
def intsP : List PV → Option (List Int)
  | [] => some []
  | .int i :: r => (intsP r).map (i :: ·)
  | _ => none
def blsP : List PV → Option (List Bool)
  | [] => some []
  | .bl i :: r => (blsP r).map (i :: ·)
  | _ => none
theorem ints_rep {c : Ct} {H : Hp} : ∀ {l : List PV} {xs : List V} {ns : List Int}, intsP l = some ns → RepL c H l xs → xs = ns.map V.int
  | [], xs, ns, e, h => by cases e; exact h
  | p :: r, _, ns, e, ⟨v, vs, rfl, h1, h2⟩ => by
    cases p with
    | int i =>
      have e : (intsP r).map (i :: ·) = some ns := e
      cases q : intsP r with
      | none => rw [q] at e; cases e
      | some ms =>
        rw [q] at e
        cases e
        have h1 : v = .int i := h1
        rw [ints_rep q h2, h1]
        rfl
    | _ => cases e
theorem bls_rep {c : Ct} {H : Hp} : ∀ {l : List PV} {xs : List V} {ns : List Bool}, blsP l = some ns → RepL c H l xs → xs = ns.map V.bl
  | [], xs, ns, e, h => by cases e; exact h
  | p :: r, _, ns, e, ⟨v, vs, rfl, h1, h2⟩ => by
    cases p with
    | bl i =>
      have e : (blsP r).map (i :: ·) = some ns := e
      cases q : blsP r with
      | none => rw [q] at e; cases e
      | some ms =>
        rw [q] at e
        cases e
        have h1 : v = .bl i := h1
        rw [bls_rep q h2, h1]
        rfl
    | _ => cases e
theorem repL_ints {c : Ct} {H : Hp} : ∀ ns : List Int, RepL c H (ns.map PV.int) (ns.map V.int)
  | [] => rfl
  | n :: ns => ⟨_, _, rfl, rfl, repL_ints ns⟩
theorem ints_map : ∀ ns : List Int, intsP (ns.map PV.int) = some ns
  | [] => rfl
  | n :: ns => by
    show (intsP (ns.map PV.int)).map (n :: ·) = some (n :: ns)
    rw [ints_map ns]
    rfl
theorem bls_map : ∀ ns : List Bool, blsP (ns.map PV.bl) = some ns
  | [] => rfl
  | n :: ns => by
    show (blsP (ns.map PV.bl)).map (n :: ·) = some (n :: ns)
    rw [bls_map ns]
    rfl
def oAll : List PV → Option PV
  | [.lst l] => (blsP l).map fun bs => .bl (bs.all id)
  | _ => none
def oAny : List PV → Option PV
  | [.lst l] => (blsP l).map fun bs => .bl (bs.any id)
  | _ => none
def oSum : List PV → Option PV
  | [.lst l] => (intsP l).map fun bs => .int bs.sum
  | _ => none
theorem cd_all (hc : X.calm = true) : CallD X (.builtin "all") .rep oAll := ⟨_, cr_all hc, fun c ps w vs H Q ek _ hd rp ho hq => by
  unfold oAll at ho
  split at ho
  · rename_i l
    cases e : blsP l with
    | none => rw [e] at ho; cases ho
    | some bs =>
      rw [e] at ho
      cases ho
      obtain ⟨v, rfl, r⟩ := rp.one
      obtain ⟨a, xs, rfl, h1, k⟩ := r.lst
      exact ⟨a, bs, rfl, by rw [← bls_rep e k]; exact .of h1, hq _ _ (Same.refl _) rfl⟩
  · cases ho⟩
theorem cd_any (hc : X.calm = true) : CallD X (.builtin "any") .rep oAny := ⟨_, cr_any hc, fun c ps w vs H Q ek _ hd rp ho hq => by
  unfold oAny at ho
  split at ho
  · rename_i l
    cases e : blsP l with
    | none => rw [e] at ho; cases ho
    | some bs =>
      rw [e] at ho
      cases ho
      obtain ⟨v, rfl, r⟩ := rp.one
      obtain ⟨a, xs, rfl, h1, k⟩ := r.lst
      exact ⟨a, bs, rfl, by rw [← bls_rep e k]; exact .of h1, hq _ _ (Same.refl _) rfl⟩
  · cases ho⟩
theorem cd_sum (hc : X.calm = true) : CallD X (.builtin "sum") .rep oSum := ⟨_, cr_sum hc, fun c ps w vs H Q ek _ hd rp ho hq => by
  unfold oSum at ho
  split at ho
  · rename_i l
    cases e : intsP l with
    | none => rw [e] at ho; cases ho
    | some bs =>
      rw [e] at ho
      cases ho
      obtain ⟨v, rfl, r⟩ := rp.one
      obtain ⟨a, xs, rfl, h1, k⟩ := r.lst
      exact ⟨a, bs, rfl, by rw [← ints_rep e k]; exact .of h1, hq _ _ (Same.refl _) rfl⟩
  · cases ho⟩
/-- the greatest, the least of a list -/
def maxL : List Int → Option Int
  | [] => none
  | x :: r => match maxL r with | none => some x | some y => some (max x y)
def minL : List Int → Option Int
  | [] => none
  | x :: r => match minL r with | none => some x | some y => some (min x y)
theorem maxL_is : ∀ {l : List Int} {m x : Int}, maxL l = some x → m ∈ l → (∀ y ∈ l, y ≤ m) → m = x
  | [], _, _, _, h, _ => by cases h
  | a :: r, m, x, e, hm, hl => by
    unfold maxL at e
    cases q : maxL r with
    | none =>
      rw [q] at e
      cases e
      cases r with
      | nil => simpa using hm
      | cons b r => unfold maxL at q; split at q <;> cases q
    | some y =>
      rw [q] at e
      have e : max a y = x := Option.some.inj e
      have ha : a ≤ m := hl a (by simp)
      have hy : ∀ {l : List Int} {y : Int}, maxL l = some y → y ∈ l ∧ ∀ z ∈ l, z ≤ y := by
        intro l
        induction l with
        | nil => intro y h; cases h
        | cons b r ih =>
          intro y h
          unfold maxL at h
          cases q : maxL r with
          | none =>
            rw [q] at h; cases h
            have : r = [] := by cases r with
              | nil => rfl
              | cons c r => unfold maxL at q; split at q <;> cases q
            subst this
            exact ⟨by simp, fun z hz => by simp at hz; omega⟩
          | some w =>
            rw [q] at h
            have h : max b w = y := Option.some.inj h
            obtain ⟨h1, h2⟩ := ih q
            refine ⟨?_, fun z hz => ?_⟩
            · by_cases hbw : b ≤ w
              · have : y = w := by omega
                subst this; simp [h1]
              · have : y = b := by omega
                subst this; simp
            · rcases List.mem_cons.mp hz with rfl | hz
              · omega
              · have := h2 z hz; omega
      obtain ⟨h1, h2⟩ := hy q
      have : y ≤ m := hl y (List.mem_cons_of_mem _ h1)
      rcases List.mem_cons.mp hm with rfl | hm
      · omega
      · have := h2 m hm; omega
theorem minL_is : ∀ {l : List Int} {m x : Int}, minL l = some x → m ∈ l → (∀ y ∈ l, m ≤ y) → m = x
  | [], _, _, _, h, _ => by cases h
  | a :: r, m, x, e, hm, hl => by
    unfold minL at e
    cases q : minL r with
    | none =>
      rw [q] at e
      cases e
      cases r with
      | nil => simpa using hm
      | cons b r => unfold minL at q; split at q <;> cases q
    | some y =>
      rw [q] at e
      have e : min a y = x := Option.some.inj e
      have ha : m ≤ a := hl a (by simp)
      have hy : ∀ {l : List Int} {y : Int}, minL l = some y → y ∈ l ∧ ∀ z ∈ l, y ≤ z := by
        intro l
        induction l with
        | nil => intro y h; cases h
        | cons b r ih =>
          intro y h
          unfold minL at h
          cases q : minL r with
          | none =>
            rw [q] at h; cases h
            have : r = [] := by cases r with
              | nil => rfl
              | cons c r => unfold minL at q; split at q <;> cases q
            subst this
            exact ⟨by simp, fun z hz => by simp at hz; omega⟩
          | some w =>
            rw [q] at h
            have h : min b w = y := Option.some.inj h
            obtain ⟨h1, h2⟩ := ih q
            refine ⟨?_, fun z hz => ?_⟩
            · by_cases hbw : w ≤ b
              · have : y = w := by omega
                subst this; simp [h1]
              · have : y = b := by omega
                subst this; simp
            · rcases List.mem_cons.mp hz with rfl | hz
              · omega
              · have := h2 z hz; omega
      obtain ⟨h1, h2⟩ := hy q
      have : m ≤ y := hl y (List.mem_cons_of_mem _ h1)
      rcases List.mem_cons.mp hm with rfl | hm
      · omega
      · have := h2 m hm; omega
def oMaxL : List PV → Option PV
  | [.lst l] => (intsP l).bind fun ns => (maxL ns).map .int
  | _ => none
def oMinL : List PV → Option PV
  | [.lst l] => (intsP l).bind fun ns => (minL ns).map .int
  | _ => none
theorem cd_maxL (hc : X.calm = true) : CallD X (.builtin "max") .rep oMaxL := ⟨_, cr_max hc, fun c ps w vs H Q ek _ hd rp ho hq => by
  unfold oMaxL at ho
  split at ho
  · rename_i l
    cases e : intsP l with
    | none => rw [e] at ho; cases ho
    | some bs =>
      rw [e] at ho
      have ho : (maxL bs).map PV.int = some w := ho
      cases e2 : maxL bs with
      | none => rw [e2] at ho; cases ho
      | some x =>
        rw [e2] at ho
        cases ho
        obtain ⟨v, rfl, r⟩ := rp.one
        obtain ⟨a, xs, rfl, h1, k⟩ := r.lst
        refine ⟨a, bs, rfl, by rw [← ints_rep e k]; exact .of h1, ?_, fun m hm hl => ?_⟩
        · cases bs with
          | nil => cases e2
          | cons _ _ => simp
        · rw [maxL_is e2 hm hl]
          exact hq _ _ (Same.refl _) rfl
  · cases ho⟩
theorem cd_minL (hc : X.calm = true) : CallD X (.builtin "min") .rep oMinL := ⟨_, cr_min hc, fun c ps w vs H Q ek _ hd rp ho hq => by
  unfold oMinL at ho
  split at ho
  · rename_i l
    cases e : intsP l with
    | none => rw [e] at ho; cases ho
    | some bs =>
      rw [e] at ho
      have ho : (minL bs).map PV.int = some w := ho
      cases e2 : minL bs with
      | none => rw [e2] at ho; cases ho
      | some x =>
        rw [e2] at ho
        cases ho
        obtain ⟨v, rfl, r⟩ := rp.one
        obtain ⟨a, xs, rfl, h1, k⟩ := r.lst
        refine ⟨a, bs, rfl, by rw [← ints_rep e k]; exact .of h1, ?_, fun m hm hl => ?_⟩
        · cases bs with
          | nil => cases e2
          | cons _ _ => simp
        · rw [minL_is e2 hm hl]
          exact hq _ _ (Same.refl _) rfl
  · cases ho⟩
def oMax (p : List PV) : Option PV := por (oMax2 p) (oMaxL p)
def oMin (p : List PV) : Option PV := por (oMin2 p) (oMinL p)
theorem cd_max (hc : X.calm = true) : CallD X (.builtin "max") .rep oMax := (cd_max2 hc).or (cd_maxL hc)
theorem cd_min (hc : X.calm = true) : CallD X (.builtin "min") .rep oMin := (cd_min2 hc).or (cd_minL hc)
/-- sorted, intsP: by insertion -/
def insI (x : Int) : List Int → List Int
  | [] => [x]
  | y :: r => if x ≤ y then x :: y :: r else y :: insI x r
def sortI : List Int → List Int
  | [] => []
  | x :: r => insI x (sortI r)
theorem insI_perm (x : Int) : ∀ l, (insI x l).Perm (x :: l)
  | [] => .refl _
  | y :: r => by
    unfold insI
    split
    · exact .refl _
    · exact ((insI_perm x r).cons y).trans (.swap x y r)
theorem sortI_perm : ∀ l, (sortI l).Perm l
  | [] => .refl _
  | x :: r => (insI_perm x _).trans ((sortI_perm r).cons x)
theorem insI_sorted (x : Int) : ∀ {l : List Int}, l.Pairwise (· ≤ ·) → (insI x l).Pairwise (· ≤ ·)
  | [], _ => List.pairwise_singleton _ _
  | y :: r, h => by
    unfold insI
    have h' := List.pairwise_cons.mp h
    split
    · rename_i hxy
      refine List.pairwise_cons.mpr ⟨fun z hz => ?_, h⟩
      rcases List.mem_cons.mp hz with rfl | hz
      · exact hxy
      · exact Int.le_trans hxy (h'.1 z hz)
    · rename_i hxy
      refine List.pairwise_cons.mpr ⟨fun z hz => ?_, insI_sorted x h'.2⟩
      rcases List.mem_cons.mp ((insI_perm x r).mem_iff.mp hz) with rfl | hz
      · omega
      · exact h'.1 z hz
theorem sortI_sorted : ∀ l, (sortI l).Pairwise (· ≤ ·)
  | [] => .nil
  | x :: r => insI_sorted x (sortI_sorted r)
theorem sorted_unique : ∀ {l m : List Int}, l.Perm m → l.Pairwise (· ≤ ·) → m.Pairwise (· ≤ ·) → l = m
  | [], m, h, _, _ => by rw [List.Perm.nil_eq h]
  | x :: l, [], h, _, _ => by exact absurd h.length_eq (by simp)
  | x :: l, y :: m, h, h1, h2 => by
    have a := List.pairwise_cons.mp h1
    have b := List.pairwise_cons.mp h2
    have hx : x ∈ y :: m := h.mem_iff.mp (by simp)
    have hy : y ∈ x :: l := h.mem_iff.mpr (by simp)
    have e : x = y := by
      rcases List.mem_cons.mp hx with e | hx
      · exact e
      · rcases List.mem_cons.mp hy with e | hy
        · exact e.symm
        · have := a.1 y hy; have := b.1 x hx; omega
    subst e
    rw [sorted_unique (List.Perm.cons_inv h) a.2 b.2]
def oSortI : List PV → Option PV
  | [.lst l] => (intsP l).map fun ns => .lst ((sortI ns).map .int)
  | _ => none
theorem cd_sortI : CallD X (.builtin "sorted") .frs oSortI := ⟨_, cr_sortedI, fun c ps w vs H Q ek _ hd rp ho hq => by
  unfold oSortI at ho
  split at ho
  · rename_i l
    cases e : intsP l with
    | none => rw [e] at ho; cases ho
    | some ns =>
      rw [e] at ho
      cases ho
      obtain ⟨v, rfl, r⟩ := rp.one
      obtain ⟨a, xs, rfl, h1, k⟩ := r.lst
      refine ⟨a, ns, rfl, by rw [← ints_rep e k]; exact .of h1, fun ns' z hp hs hz => ?_⟩
      have : ns' = sortI ns := sorted_unique (hp.trans (sortI_perm ns).symm) hs (sortI_sorted ns)
      subst this
      exact hq _ _ (same_new hz) (val_lst (repL_ints _) hz)
  · cases ho⟩
end
end Tr

namespace Tr
open PySem PySem.Spec PyProof.Rows L2

section
variable {X : Cx} {Wx : WX} {Wk : List Nat} {md : Md}
/-! ### isinstance -/
/-- the name of a value's built-in type -/
def tyP : PV → Option String
  | .non => some "NoneType"
  | .bl _ => some "bool"
  | .int _ => some "int"
  | .str _ => some "str"
  | .tup _ => some "tuple"
  | .lst _ => some "list"
  | .dct _ _ => some "dict"
  | _ => none
theorem tyP_x {c : Ct} {H : Hp} {p : PV} {v : V} {t : String} (h : RepB c H p v) (e : tyP p = some t) : TyX c.K H v (.type t) := by
  cases p with
  | non => cases e; rw [h.non]; exact .base .non
  | bl b => cases e; rw [h.bl]; exact .base (.bl b)
  | int b => cases e; rw [h.int]; exact .base (.int b)
  | str b => cases e; rw [h.str]; exact .base (.str b)
  | tup l =>
    cases e
    obtain ⟨a, xs, rfl, h1, _⟩ := h.tup
    rcases h1 with h1 | h1
    · exact .base (.tup h1.2)
    · exact h1.elim
  | lst l =>
    cases e
    obtain ⟨a, xs, rfl, h1, _⟩ := h.lst
    exact .base (.lst h1)
  | dct ks ps =>
    cases e
    obtain ⟨a, xs, rfl, h1, _⟩ := h.dct
    exact .base (.dK h1)
  | ins k ns ps => cases e
  | rng => cases e
/-- the built-in type names of the kit, each against each -/
def isaT (t n : String) : Bool := t == n || (t == "bool" && n == "int")
theorem kit_all : ∀ t ∈ ["NoneType", "bool", "int", "str", "tuple", "list", "dict"], ∀ n ∈ ["bool", "int", "str", "tuple", "list", "dict"], kitB t n = some (isaT t n) := by decide +kernel
theorem tyP_mem {p : PV} {t : String} (e : tyP p = some t) : t ∈ ["NoneType", "bool", "int", "str", "tuple", "list", "dict"] := by
  cases p <;> simp only [tyP] at e <;> cases e <;> simp
def dIsa (n : String) (d : Den) : Den := fun σ g => (d σ g).bind fun p g => match tyP p with | some t => .ok (.bl (isaT t n)) g | none => .stuck
theorem se_isa {n : String} {e : Expr} {x : Str} {p p2 pos : Pos} {d : Den} (h : SE X Wx Wk .brw e d) (hm : X.mg "isinstance" = none) (hx : X.mg x = none) (hv : bootBuiltins x = some (.type n)) (hmem : n ∈ ["bool", "int", "str", "tuple", "list", "dict"] := by decide)
    (hg : Gl X "isinstance" := by rfl) (hgx : Gl X x := by rfl) (hn : x ≠ "__name__" := by decide) (hd : (x == ("__debug__" : Str)) = false := by decide)
    (hs1 : starEach [e, .Name x p2] X.env = (false, eval e X.env) :: starEach [.Name x p2] X.env := by rfl) (hs2 : starEach [.Name x p2] X.env = (false, eval (.Name x p2) X.env) :: starEach [] X.env := by rfl)
    (hpl : (backTo pos (starEach [.Name x p2] X.env)).any (·.1) = false := by rfl) : SE X Wx Wk .rep (.Call (.Name "isinstance" p) [e, .Name x p2] [] pos) (dIsa n d) := by
  obtain ⟨t, ht, hs⟩ := h
  refine ⟨_, pe_callB call_isi hg hm PyProof.Rows.boot_isinstance (pa_cons ht (pa_cons (pe_bltn (v := .ty n) hgx hx hv rfl hn hd) pa_nil hs2) hs1) (by decide) (by decide) hs1 hpl, fun ρ B W σ σc H g Q hW R p => ?_⟩
  refine hs ρ B W σ σc H g _ hW R (p.bind fun x g1 v H1 _ e1 k1 q1 p => ?_)
  cases et : tyP x with
  | none => rw [et] at p; exact p.elim
  | some t =>
    rw [et] at p
    exact ⟨v, .ty n, .type t, .type n, isaT t n, rfl, .ty n, tyP_x q1 et, kit_ty (kit_all t (tyP_mem et) n hmem), p _ H1 (Ext.refl _ _) k1 rfl⟩
/-- isinstance(x, (T, U)) -/
def dIsa2 (n m : String) (d : Den) : Den := fun σ g => (d σ g).bind fun p g => match tyP p with | some t => .ok (.bl (isaT t n || isaT t m)) g | none => .stuck
theorem se_isa2 {n m : String} {e : Expr} {x y : Str} {p p2 p3 p4 pos : Pos} {kk} {d : Den} (h : SE X Wx Wk .brw e d) (hm : X.mg "isinstance" = none) (hx : X.mg x = none) (hv : bootBuiltins x = some (.type n)) (hy : X.mg y = none) (hvy : bootBuiltins y = some (.type m))
    (hmem : n ∈ ["bool", "int", "str", "tuple", "list", "dict"] := by decide) (hmem2 : m ∈ ["bool", "int", "str", "tuple", "list", "dict"] := by decide)
    (hg : Gl X "isinstance" := by rfl) (hgx : Gl X x := by rfl) (hgy : Gl X y := by rfl) (hn : x ≠ "__name__" := by decide) (hd : (x == ("__debug__" : Str)) = false := by decide) (hn' : y ≠ "__name__" := by decide) (hd' : (y == ("__debug__" : Str)) = false := by decide)
    (hs1 : starEach [e, .Tuple [.Name x p2, .Name y p3] kk p4] X.env = (false, eval e X.env) :: starEach [.Tuple [.Name x p2, .Name y p3] kk p4] X.env := by rfl) (hs2 : starEach [.Tuple [.Name x p2, .Name y p3] kk p4] X.env = (false, eval (.Tuple [.Name x p2, .Name y p3] kk p4) X.env) :: starEach [] X.env := by rfl)
    (hs3 : starEach [.Name x p2, .Name y p3] X.env = (false, eval (.Name x p2) X.env) :: starEach [.Name y p3] X.env := by rfl) (hs4 : starEach [.Name y p3] X.env = (false, eval (.Name y p3) X.env) :: starEach [] X.env := by rfl)
    (hpl : (backTo pos (starEach [.Tuple [.Name x p2, .Name y p3] kk p4] X.env)).any (·.1) = false := by rfl) : SE X Wx Wk .rep (.Call (.Name "isinstance" p) [e, .Tuple [.Name x p2, .Name y p3] kk p4] [] pos) (dIsa2 n m d) := by
  obtain ⟨t, ht, hs⟩ := h
  refine ⟨_, pe_callB call_isiT hg hm PyProof.Rows.boot_isinstance (pa_cons ht (pa_cons (pe_tup (pa_cons (pe_bltn (v := .ty n) hgx hx hv rfl hn hd) (pa_cons (pe_bltn (v := .ty m) hgy hy hvy rfl hn' hd') pa_nil hs4) hs3)) pa_nil hs2) hs1) (by decide) (by decide) hs1 hpl, fun ρ B W σ σc H g Q hW R p => ?_⟩
  refine hs ρ B W σ σc H g _ hW R (p.bind fun x g1 v H1 _ e1 k1 q1 p => ?_)
  refine ⟨show 2 ≤ sizeLine by decide, fun z hz => ?_⟩
  cases et : tyP x with
  | none => rw [et] at p; exact p.elim
  | some t =>
    rw [et] at p
    have k : PySem.W.kitAny X.K (.type t) [.type n, .type m] = some (isaT t n || isaT t m) := by
      have h1 := kit_ty (K := X.K) (kit_all t (tyP_mem et) n hmem)
      have h2 := kit_ty (K := X.K) (kit_all t (tyP_mem et) m hmem2)
      refine kitAny_cons h1 (fun e => ?_) fun e => by rw [e]; rfl
      rw [e]
      exact kitAny_cons h2 (fun e => by rw [e]; rfl) fun e => e
    have s := same_new (o := .tup [.ty n, .ty m]) hz
    refine ⟨v, z, [.ty n, .ty m], .type t, [.type n, .type m], isaT t n || isaT t m, rfl, upd_same, .cons (.ty n) (.cons (.ty m) .nil), ?_, k, p _ _ (Ext.of s) (k1.same s) rfl⟩
    exact tyP_x (c := (ct X ρ B).ban W) (RepB.ext (c := (ct X ρ B).ban W) (Ext.of s) (Ct.ban_R R.rb) q1) et
end
end Tr

namespace Tr
open PySem PySem.Spec PyProof.Rows L2

/-! ### defs -/
abbrev DDen := List PV → Rg → Res PV
/-- what a def promises -/
def PstD (c : Ct) (H : Hp) (md : Md) (r : Res PV) (Q : VK) (E : XK) : Prop :=
  match r with
  | .ok p g => ∀ v H', Ext c H H' → RgOk c H' g → Val c H H' p v md → Q v H'
  | .exc k ns ps g => ∀ cls d H', Ext c H H' → RgOk c H' g → RepX c H' k ns ps cls d → E cls d H'
  | .stuck => False
structure Start (c : Ct) (H : Hp) (g : Rg) : Prop where
  rg : RgOk c H g
  rb : ∀ b, c.R b → c.B b
  dom : ∀ b, c.B b → H b ≠ none
def spD (K : PySem.W.Frag) (mg : Str → Option Value) (n : Nat) (md : Md) (D : DDen) : Sp := fun vs H Q E =>
  vs.length = n ∧ ∃ (ρ : Option (Addr × Addr)) (B : Addr → Prop) (ps : List PV) (g : Rg), Start ⟨K, mg, ρ, B⟩ H g ∧ RepL ⟨K, mg, ρ, B⟩ H ps vs ∧ PstD ⟨K, mg, ρ, B⟩ H md (D ps g) Q E
/-- the def x of the module -/
structure FOk (P : Program) (w : World) (K : PySem.W.Frag) (mg : Str → Option Value) (base : Heap) (x : Str) (n k : Nat) (md : Md) (D : DDen) : Prop where
  ex : ∃ (f : Addr) (fd : FuncData) (ps : List Str), mg x = some (.ref f) ∧ PySem.W.keepIn K (.ref f) = true ∧ Binds K fd ps [] ∧ ps.length = n ∧ FnOk P w K mg base (L2.CX P w) k f fd ps (spD K mg n md D)
def dCall (D : DDen) (ds : DenL) : Den := fun σ g => (ds σ g).bind fun ps g => D ps g
section
variable {X : Cx} {Wx : WX} {Wk : List Nat} {md : Md}
theorem se_call {x : Str} {n j k : Nat} {D : DDen} {e : Expr} {es : List Expr} {p pos : Pos} {ds : DenL} (F : FOk X.prog X.w X.K X.mg X.base x n j md D) (hr : Room k X.A) (hj : j ≤ k) (tk : Takes X Wx) (ha : SA X Wx Wk .rep (e :: es) ds) (hn : (e :: es).length = n := by rfl)
    (hg : Gl X x := by rfl) (hdb : (x == ("__debug__" : Str)) = false := by decide) (he : starEach (e :: es) X.env = (false, eval e X.env) :: starEach es X.env := by rfl) (hpl : (backTo pos (starEach es X.env)).any (·.1) = false := by rfl) :
    SE X Wx Wk md (.Call (.Name x p) (e :: es) [] pos) (dCall D ds) := by
  obtain ⟨f, fd, ps, hm, hk, hb, hl, F⟩ := F.ex
  obtain ⟨t, ht, hs⟩ := ha
  refine ⟨_, pe_callS F (hr.mono hj) hg hm hk hb (fun σ => passAt tk σ) ht hdb he hpl, fun ρ B W σ σc H g Q hW R p => ?_⟩
  refine hs ρ B W σ σc H g _ hW R (p.bindL fun ps g1 vs H1 _ e1 k1 q1 l p => ?_)
  have R1 := R.ext e1 k1
  refine ⟨by rw [← RepL.length q1, l, hn], ρ, ((ct X ρ B).ban W).B, ps, g1, ⟨k1, Ct.ban_R R.rb, R1.wdom⟩, q1, ?_⟩
  exact p
/-- a call without arguments -/
theorem se_call0 {x : Str} {j k : Nat} {D : DDen} {p pos : Pos} (F : FOk X.prog X.w X.K X.mg X.base x 0 j md D) (hr : Room k X.A) (hj : j ≤ k) (hW0 : Wx = fun _ _ _ _ => False)
    (hg : Gl X x := by rfl) (hdb : (x == ("__debug__" : Str)) = false := by decide) :
    SE X Wx Wk md (.Call (.Name x p) [] [] pos) (dCall D dNil) := by
  obtain ⟨f, fd, ps, hm, hk, hb, hl, F⟩ := F.ex
  subst hW0
  refine ⟨_, pe_call0 F (hr.mono hj) hg hm hk hb .nil passL hdb, fun ρ B W σ σc H g Q hW R p => ?_⟩
  exact ⟨rfl, ρ, ((ct X ρ B).ban W).B, [], g, ⟨R.rg, Ct.ban_R R.rb, R.wdom⟩, rfl, p⟩

/-! ### methods -/
/-- no exception comes out -/
def noX {α : Type} : Res α → Res α
  | .ok a g => .ok a g
  | _ => .stuck
/-- the method m of the class k, the instance ahead of its arguments -/
structure MOk (P : Program) (w : World) (K : PySem.W.Frag) (mg : Str → Option Value) (base : Heap) (k m : Str) (n j : Nat) (md : Md) (D : DDen) : Prop where
  ex : ∃ (C f : Addr) (fd : FuncData) (ps : List Str), mg k = some (.ref C) ∧ Cls K C ∧ Meth K C m f ∧ Binds K fd ps [] ∧ ps.length = n ∧ FnOk P w K mg base (L2.CX P w) j f fd ps (spD K mg n md D)
def dMeth (k m : Str) (D : DDen) (d : Den) (ds : DenL) : Den := fun σ g => (d σ g).bind fun p g => match p with
  | .ins k' ns qs => if k' = k ∧ (ns.zip qs).lookup m = none then (ds σ g).bind fun ps g => noX (D (.ins k' ns qs :: ps) g) else .stuck
  | _ => .stuck
theorem look_none {c : Ct} {H : Hp} {f : Str} : ∀ {ns : List Str} {ps : List PV} {vs : List V}, RepL c H ps vs → (ns.zip ps).lookup f = none → (ns.zip vs).lookup f = none
  | [], _, _, _, _ => by simp
  | _ :: _, [], _, h, _ => by have h : _ = [] := h; subst h; simp
  | n :: ns, q :: ps, _, ⟨v, r, rfl, h1, h2⟩, e => by
    simp only [List.zip_cons_cons, List.lookup_cons] at e ⊢
    by_cases hn : (f == n) = true
    · simp only [hn] at e
      cases e
    · have hn : (f == n) = false := by simpa using hn
      simp only [hn] at e ⊢
      exact look_none (f := f) h2 e
theorem PstD.nox {c : Ct} {H : Hp} {md : Md} {r : Res PV} {Q : VK} {E : XK} (h : PstD c H md (noX r) Q E) : PstD c H md r Q E0 := by
  cases r with
  | ok p g => exact h
  | exc a b cc d => exact h.elim
  | stuck => exact h
theorem se_meth0 {k m : Str} {j kk : Nat} {D : DDen} {o : Expr} {apos pos : Pos} {d : Den} {pl : Sem Bool} (M : MOk X.prog X.w X.K X.mg X.base k m 1 j md D) (hr : Room kk X.A) (hj : j ≤ kk) (h : SE X Wx Wk .rep o d)
    (ht : eval (.Call (.Attribute o m apos) [] [] pos) X.env = (do
      let ov ← eval o X.env
      standAt apos.atName
      let (f, first) ← holding [ov] (getMethod ov m pl)
      callWith pos f first (backTo pos (starEach [] X.env)) (backToKw pos (keywordEach [] X.env))) := by rfl) :
    SE X Wx Wk md (.Call (.Attribute o m apos) [] [] pos) (dMeth k m D d dNil) := by
  obtain ⟨C, f, fd, ps, hm, hc, hM, hb, hl, F⟩ := M.ex
  obtain ⟨t, hto, hs⟩ := h
  refine ⟨_, pe_meth0 hto hc hM F (hr.mono hj) hb .nil passL ht, fun ρ B W σ σc H g Q hW R p => ?_⟩
  refine hs ρ B W σ σc H g _ hW R (p.bind fun x g1 v H1 _ e1 k1 q1 pp => ?_)
  cases x with
  | ins k' ns qs =>
    by_cases ek : k' = k ∧ (ns.zip qs).lookup m = none
    · simp only [if_pos ek] at pp
      obtain ⟨rfl, el⟩ := ek
      have q1 : Rep ((ct X ρ B).ban W) H1 (.ins k' ns qs) v := q1
      obtain ⟨a, C', dx, vs, rfl, nb, hm', h1, hl', rr⟩ := id q1
      have : C' = C := by
        have hm' : X.mg k' = some (.ref C') := hm'
        rw [hm] at hm'; cases hm'; rfl
      subst this
      have p : Pst (ct X ρ B) W H1 md (noX (D [.ins k' ns qs] g1)) Q (fun cls dd H' => Wx cls dd σc H') := pp
      refine ⟨a, dx, _, rfl, h1, look_none rr el, rfl, ρ, ((ct X ρ B).ban W).B, [.ins k' ns qs], g1, ⟨k1, Ct.ban_R R.rb, (R.ext e1 k1).wdom⟩, ⟨_, _, rfl, q1, rfl⟩, ?_⟩
      exact PstD.nox p
    · simp only [if_neg ek] at pp
      exact pp.elim
  | _ => exact pp.elim
theorem se_meth {k m : Str} {n j kk : Nat} {D : DDen} {o e : Expr} {es : List Expr} {apos pos : Pos} {d : Den} {ds : DenL} {pl : Sem Bool} (M : MOk X.prog X.w X.K X.mg X.base k m n j md D) (hr : Room kk X.A) (hj : j ≤ kk) (h : SE X Wx Wk .rep o d) (ha : SA X Wx Wk .rep (e :: es) ds) (hn : (e :: es).length + 1 = n := by rfl)
    (ht : eval (.Call (.Attribute o m apos) (e :: es) [] pos) X.env = (do
      let ov ← eval o X.env
      standAt apos.atName
      let (f, first) ← holding [ov] (getMethod ov m pl)
      callWith pos f first (backTo pos (starEach (e :: es) X.env)) (backToKw pos (keywordEach [] X.env))) := by rfl)
    (he : starEach (e :: es) X.env = (false, eval e X.env) :: starEach es X.env := by rfl) (hpl : (backTo pos (starEach es X.env)).any (·.1) = false := by rfl) :
    SE X Wx Wk md (.Call (.Attribute o m apos) (e :: es) [] pos) (dMeth k m D d ds) := by
  obtain ⟨C, f, fd, ps, hm, hc, hM, hb, hl, F⟩ := M.ex
  obtain ⟨t, hto, hs⟩ := h
  obtain ⟨ta, hta, hsa⟩ := ha
  refine ⟨_, pe_meth hto hc hM F (hr.mono hj) hb .nil passL hta he hpl ht, fun ρ B W σ σc H g Q hW R p => ?_⟩
  refine hs ρ B W σ σc H g _ hW R (p.bind fun x g1 v H1 _ e1 k1 q1 pp => ?_)
  cases x with
  | ins k' ns qs =>
    by_cases ek : k' = k ∧ (ns.zip qs).lookup m = none
    · simp only [if_pos ek] at pp
      obtain ⟨rfl, el⟩ := ek
      have q1 : Rep ((ct X ρ B).ban W) H1 (.ins k' ns qs) v := q1
      obtain ⟨a, C', dx, vs, rfl, nb, hm', h1, hl', rr⟩ := id q1
      have : C' = C := by
        have hm' : X.mg k' = some (.ref C') := hm'
        rw [hm] at hm'; cases hm'; rfl
      subst this
      have R1 := R.ext e1 k1
      refine ⟨a, dx, _, rfl, h1, look_none rr el, ?_⟩
      refine hsa ρ B W σ σc H1 g1 _ hW R1 (pp.bindL fun ps g2 us H2 _ e2 k2 q2 l pp => ?_)
      refine ⟨by simp [← RepL.length q2, l, ← hn], ρ, ((ct X ρ B).ban W).B, .ins k' ns qs :: ps, g2, ⟨k2, Ct.ban_R R.rb, (R1.ext e2 k2).wdom⟩, ⟨_, _, rfl, Rep.ext (c := (ct X ρ B).ban W) e2 (Ct.ban_R R.rb) q1, by rw [List.append_nil]; exact q2⟩, ?_⟩
      have p : Pst (ct X ρ B) W H2 md (noX (D (.ins k' ns qs :: ps) g2)) Q (fun cls dd H' => Wx cls dd σc H') := pp
      exact PstD.nox p
    · simp only [if_neg ek] at pp
      exact pp.elim
  | _ => exact pp.elim
/-! ### an instance made -/
/-- __init__: from the arguments the new instance -/
def spI (K : PySem.W.Frag) (mg : Str → Option Value) (n : Nat) (k : Str) (D : DDen) : Sp := fun vs H Q E =>
  vs.length = n ∧ ∃ (ρ : Option (Addr × Addr)) (B : Addr → Prop) (ps : List PV) (g : Rg) (a C dx : Addr) (us : List V), vs = .ref a :: us ∧ mg k = some (.ref C) ∧ H a = some (.ins C dx []) ∧ ¬ B a ∧
    Start ⟨K, mg, ρ, B⟩ H g ∧ RepL ⟨K, mg, ρ, fun b => B b ∨ b = a⟩ H ps us ∧
    (match D ps g with
    | .ok p g' => ∀ H', (∀ b o, H b = some o → b ≠ a → ¬ (⟨K, mg, ρ, B⟩ : Ct).R b → H' b = some o) → RgOk ⟨K, mg, ρ, B⟩ H' g' → Own ⟨K, mg, ρ, fun b => B b ∨ b = a⟩ H' a p → Q .non H'
    | _ => False)
structure IOk (P : Program) (w : World) (K : PySem.W.Frag) (mg : Str → Option Value) (base : Heap) (k : Str) (n j : Nat) (D : DDen) : Prop where
  ex : ∃ (C f : Addr) (fd : FuncData) (ps : List Str), mg k = some (.ref C) ∧ Mk K C f ∧ Binds K fd ps [] ∧ ps.length = n ∧ FnOk P w K mg base (L2.CX P w) j f fd ps (spI K mg n k D)
def dMake (D : DDen) (ds : DenL) : Den := fun σ g => (ds σ g).bind fun ps g => noX (D ps g)
theorem se_make {k : Str} {n j kk : Nat} {D : DDen} {e : Expr} {es : List Expr} {p pos : Pos} {ds : DenL} (M : IOk X.prog X.w X.K X.mg X.base k n j D) (hr : Room kk X.A) (hj : j + 1 ≤ kk) (ha : SA X Wx Wk .rep (e :: es) ds) (hn : (e :: es).length + 1 = n := by rfl)
    (hg : Gl X k := by rfl) (hdb : (k == ("__debug__" : Str)) = false := by decide) (he : starEach (e :: es) X.env = (false, eval e X.env) :: starEach es X.env := by rfl) (hpl : (backTo pos (starEach es X.env)).any (·.1) = false := by rfl) :
    SE X Wx Wk .frs (.Call (.Name k p) (e :: es) [] pos) (dMake D ds) := by
  obtain ⟨C, f, fd, ps, hm, hM, hb, hl, F⟩ := M.ex
  obtain ⟨t, ht, hs⟩ := ha
  refine ⟨_, pe_make hM F (hr.mono hj) hg hm hb .nil passL ht hdb he hpl, fun ρ B W σ σc H g Q hW R p => ?_⟩
  refine hs ρ B W σ σc H g _ hW R (p.bindL fun ps g1 vs H1 _ e1 k1 q1 l p => ?_)
  have R1 := R.ext e1 k1
  intro x dx hx hdx hne
  have s1 := same_new (o := .own x) hdx
  have hx1 : (upd H1 dx (.own x)) x = none := by rw [upd_ne hne.symm]; exact hx
  have s2 := s1.trans (same_new (o := .ins C dx []) hx1)
  have nb : ¬ ((ct X ρ B).ban W).B x := fun z => R1.wdom x z hx
  refine ⟨by simp [← RepL.length q1, l, ← hn], ρ, ((ct X ρ B).ban W).B, ps, g1, x, C, dx, vs, by rw [List.append_nil], hm, upd_same, nb, ⟨k1.same s2, Ct.ban_R R.rb, fun b hb => dom_ext (c := ct X ρ B) (Ext.of s2) (k1.same s2) (R1.wdom b hb)⟩, ?_, ?_⟩
  · exact replSame (c := ((ct X ρ B).ban W).ban1 x) s2 (RepL.ban (c := (ct X ρ B).ban W) (fun b h => h.elim .inl fun e => .inr (by rw [e]; exact hx)) q1)
  · cases hD : D ps g1 with
    | ok p' g' =>
      rw [hD] at p
      exact fun H' e k o => ⟨rfl, p (.ref x) H' (fun b u hb nr => e b u (s2 b u hb) (ne_of_none hb hx) nr) k ⟨x, rfl, hx, o⟩⟩
    | exc _ _ _ _ => rw [hD] at p; exact p.elim
    | stuck => rw [hD] at p; exact p.elim
end
end Tr

namespace Tr
open PySem PySem.Spec PyProof.Rows L2

/-! ### statements -/
inductive SRes where
  | next (σ : Sl) (g : Rg)
  | ret (p : PV) (g : Rg)
  | exc (k : Str) (ns : List Str) (ps : List PV) (g : Rg)
  | stuck
abbrev DenS := Sl → Rg → SRes
def Res.bindS {α : Type} : Res α → (α → Rg → SRes) → SRes
  | .ok a g, f => f a g
  | .exc k ns ps g, _ => .exc k ns ps g
  | .stuck, _ => .stuck
@[simp] theorem Res.bindS_ok {α : Type} (a : α) (g : Rg) (f : α → Rg → SRes) : (Res.ok a g).bindS f = f a g := rfl
@[simp] theorem Res.bindS_exc {α : Type} (k : Str) (ns : List Str) (ps : List PV) (g : Rg) (f : α → Rg → SRes) : (Res.exc k ns ps g : Res α).bindS f = .exc k ns ps g := rfl
@[simp] theorem Res.bindS_stuck {α : Type} (f : α → Rg → SRes) : (Res.stuck : Res α).bindS f = .stuck := rfl
def ExtW (c : Ct) (W : Wn) (H H' : Hp) : Prop := ∀ b o, H b = some o → ¬ c.R b → b ∉ W.map (·.2) → H' b = some o
def NewW (W : Wn) (H : Hp) (W' : Wn) : Prop := ∀ b ∈ W'.map (·.2), b ∈ W.map (·.2) ∨ H b = none
def ValR (c : Ct) (W : Wn) (H H' : Hp) (p : PV) (v : V) : Md → Prop
  | .frs => ∃ a, v = .ref a ∧ (H a = none ∨ a ∈ W.map (·.2)) ∧ Own (c.ban1 a) H' a p ∧ ¬ c.B a
  | _ => Rep c H' p v
def PstS (c : Ct) (W : Wn) (H : Hp) (Wk' : List Nat) (md : Md) (r : SRes) (D : Ends) (E : XK) : Prop :=
  match r with
  | .next σ' g' => ∀ W' σc' H', W'.map (·.1) = Wk' → ExtW c W H H' → NewW W H W' → Rel c W' σ' σc' H' g' → D.nx σc' H'
  | .ret p g' => ∀ v H', ExtW c W H H' → RgOk c H' g' → ValR c W H H' p v md → D.rt v H'
  | .exc k ns ps g' => ∀ cls d H', ExtW c W H H' → RgOk c H' g' → RepX c H' k ns ps cls d → E cls d H'
  | .stuck => False
/-- a fact of the slots that goes along -/
def JC (fz : List Nat) (J : L2.St → Prop) : Prop := ∀ σ σ' : L2.St, σ'.length = σ.length → (∀ i ∈ fz, σ'[i]? = σ[i]?) → J σ → J σ'
theorem JC.set {fz : List Nat} {J : L2.St → Prop} (jc : JC fz J) {i : Nat} {v : Option V} {σ : L2.St} (h : i ∉ fz) (j : J σ) : J (σ.set i v) := jc σ _ (by simp) (fun k hk => List.getElem?_set_ne fun e => h (by rw [show i = k from e]; exact hk)) j
abbrev jD (D : Ends) (J : L2.St → Prop) : Ends := { D with nx := fun σ H => J σ → D.nx σ H }
/-- the wish is the same at all slots -/
abbrev WE0 (E : XK) : WX := fun cls d _ H => E cls d H
def SS (X : Cx) (E : XK) (fz Wk Wk' : List Nat) (md : Md) (st : Stmt) (d : DenS) : Prop :=
  ∃ t, PS X st t ∧ ∀ (ρ : Option (Addr × Addr)) (B : Addr → Prop) (W : Wn) (σ : Sl) (σc : L2.St) (H : Hp) (g : Rg) (D : Ends) (J : L2.St → Prop), W.map (·.1) = Wk →
    Rel (ct X ρ B) W σ σc H g → JC fz J → J σc → PstS (ct X ρ B) W H Wk' md (d σ g) (jD D J) E → t D σc H
def SSs (X : Cx) (E : XK) (fz Wk Wk' : List Nat) (md : Md) (st : List Stmt) (d : DenS) : Prop :=
  ∃ t, PSs X st t ∧ ∀ (ρ : Option (Addr × Addr)) (B : Addr → Prop) (W : Wn) (σ : Sl) (σc : L2.St) (H : Hp) (g : Rg) (D : Ends) (J : L2.St → Prop), W.map (·.1) = Wk →
    Rel (ct X ρ B) W σ σc H g → JC fz J → J σc → PstS (ct X ρ B) W H Wk' md (d σ g) (jD D J) E → t D σc H

theorem Ext.w {c : Ct} {W : Wn} {H H' : Hp} (e : Ext c H H') : ExtW c W H H' := fun b o h n _ => e b o h n
theorem NewW.refl (W : Wn) (H : Hp) : NewW W H W := fun b h => .inl h
theorem NewW.back {c : Ct} {W W1 : Wn} {H H1 : Hp} {g : Rg} (e : ExtW c W H H1) (k : RgOk c H1 g) (n : NewW W H W1) {b : Addr} (h : H1 b = none ∨ b ∈ W1.map (·.2)) : H b = none ∨ b ∈ W.map (·.2) := by
  rcases h with h | h
  · by_cases hw : b ∈ W.map (·.2)
    · exact .inr hw
    · refine .inl ?_
      cases q : H b with
      | none => rfl
      | some o =>
        by_cases hr : c.R b
        · obtain ⟨p, hp, hb⟩ := hr
          obtain ⟨_, _, h1, h2⟩ := k p hp
          rcases hb with rfl | rfl
          · rw [h1] at h; cases h
          · rw [h2] at h; cases h
        · rw [e b o q hr hw] at h; cases h
  · exact (n b h).symm
theorem ExtW.trans {c : Ct} {W W1 : Wn} {H H1 H2 : Hp} (e : ExtW c W H H1) (n : NewW W H W1) (e2 : ExtW c W1 H1 H2) : ExtW c W H H2 := fun b o h nr nw =>
  e2 b o (e b o h nr nw) nr fun z => (n b z).elim nw fun q => by rw [h] at q; cases q
theorem NewW.trans {c : Ct} {W W1 W2 : Wn} {H H1 : Hp} {g : Rg} (e : ExtW c W H H1) (k : RgOk c H1 g) (n : NewW W H W1) (n2 : NewW W1 H1 W2) : NewW W H W2 := fun b h =>
  (NewW.back e k n ((n2 b h).symm)).symm
theorem ValR.back {c : Ct} {W W1 : Wn} {H H1 H2 : Hp} {g : Rg} {p : PV} {v : V} {md : Md} (e : ExtW c W H H1) (k : RgOk c H1 g) (n : NewW W H W1) (h : ValR c W1 H1 H2 p v md) : ValR c W H H2 p v md := by
  cases md with
  | frs =>
    obtain ⟨a, rfl, q, o⟩ := h
    exact ⟨a, rfl, NewW.back e k n q, o⟩
  | brw => exact h
  | rep => exact h
/-- the rest of a block -/
theorem PstS.from {c : Ct} {W W1 : Wn} {H H1 : Hp} {g : Rg} {Wk' : List Nat} {md : Md} {r : SRes} {D : Ends} {E : XK} (e : ExtW c W H H1) (k : RgOk c H1 g) (n : NewW W H W1) (h : PstS c W H Wk' md r D E) : PstS c W1 H1 Wk' md r D E := by
  cases r with
  | next σ' g' => exact fun W' σc' H' hk e2 n2 R => h W' σc' H' hk (e.trans n e2) (NewW.trans e k n n2) R
  | ret p g' => exact fun v H' e2 k2 q => h v H' (e.trans n e2) k2 (ValR.back e k n q)
  | exc a b cc d => exact fun cls d H' e2 k2 q => h cls d H' (e.trans n e2) k2 q
  | stuck => exact h
theorem PstS.bind {c : Ct} {W : Wn} {H : Hp} {m1 : Md} {Wk' : List Nat} {md : Md} {r : Res PV} {f : PV → Rg → SRes} {D : Ends} {Q1 : VK} {E : XK} (h : PstS c W H Wk' md (r.bindS f) D E)
    (k : ∀ p g1 v H1, r = .ok p g1 → Ext c H H1 → RgOk c H1 g1 → Val (c.ban W) H H1 p v m1 → PstS c W H1 Wk' md (f p g1) D E → Q1 v H1) : Pst c W H m1 r Q1 E := by
  cases r with
  | ok p g1 => exact fun v H1 e k1 q => k p g1 v H1 rfl e k1 q (PstS.from e.w k1 (fun b hb => .inl hb) h)
  | exc a b cc d =>
    refine fun cls dd H' e k1 q => h cls dd H' e.w k1 ?_
    obtain ⟨C, d', vs, h1, h2, h3, h4, h5, h6, h7⟩ := q
    exact ⟨C, d', vs, h1, h2, h3, fun z => h4 (.inl z), h5, h6, RepL.ban (c := c.ban W) (fun b z => .inl (.inl z)) h7⟩
  | stuck => exact h
theorem RepX.unban {c : Ct} {W : Wn} {H : Hp} {k : Str} {ns : List Str} {ps : List PV} {cls : Value} {d : Option Addr} (q : RepX (c.ban W) H k ns ps cls d) : RepX c H k ns ps cls d := by
  obtain ⟨C, d', vs, h1, h2, h3, h4, h5, h6, h7⟩ := q
  exact ⟨C, d', vs, h1, h2, h3, fun z => h4 (.inl z), h5, h6, RepL.ban (c := c.ban W) (fun b z => .inl (.inl z)) h7⟩
theorem PstS.bindT {c : Ct} {W : Wn} {H : Hp} {Wk' : List Nat} {md : Md} {r : Res Bool} {f : Bool → Rg → SRes} {D : Ends} {Q1 : Bool → Hp → Prop} {E : XK} (h : PstS c W H Wk' md (r.bindS f) D E)
    (k : ∀ p g1 H1, r = .ok p g1 → Ext c H H1 → RgOk c H1 g1 → PstS c W H1 Wk' md (f p g1) D E → Q1 p H1) : PstT c H W r Q1 E := by
  cases r with
  | ok p g1 => exact fun H1 e k1 => k p g1 H1 rfl e k1 (PstS.from e.w k1 (fun b hb => .inl hb) h)
  | exc a b cc d => exact fun cls dd H' e k1 q => h cls dd H' e.w k1 q.unban
  | stuck => exact h
/-- some owned ones are let go -/
theorem Rel.drop {c : Ct} {W : Wn} {σ : Sl} {σc : L2.St} {H : Hp} {g : Rg} (f : Nat → Bool) (r : Rel c W σ σc H g) : Rel c (W.filter fun w => f w.1) σ σc H g := by
  have sub : (W.filter fun w => f w.1).Sublist W := List.filter_sublist
  have banS : ∀ b, (c.ban (W.filter fun w => f w.1)).B b → (c.ban W).B b ∨ H b = none := fun b h => by
    rcases h with h | h
    · exact .inl (.inl h)
    · exact .inl (.inr ((sub.map _).mem h))
  refine ⟨r.len, r.rg, r.rb, r.dom, r.ndk.sublist (sub.map _), r.nda.sublist (sub.map _), fun p hp => r.wb p (sub.mem hp), fun i p h n => ?_, fun w hw => ?_⟩
  · by_cases hi : i ∈ W.map (·.1)
    · obtain ⟨w, hw, rfl⟩ := List.mem_map.mp hi
      obtain ⟨q, h1, h2, h3⟩ := r.own w hw
      rw [h] at h1; cases h1
      refine ⟨_, h2, (Own.ban (c := c.ban W) banS h3).rep ?_⟩
      rintro (z | z)
      · exact r.wb w hw z
      · obtain ⟨w', hw', e⟩ := List.mem_map.mp z
        have hw'W : w' ∈ W := sub.mem hw'
        have : w' = w := by
          have nd := r.nda
          have : ∀ {l : Wn}, (l.map (·.2)).Nodup → ∀ {x y}, x ∈ l → y ∈ l → x.2 = y.2 → x = y := by
            intro l
            induction l with
            | nil => intro _ x y hx; cases hx
            | cons a l ih =>
              intro hn x y hx hy he
              have hn' := List.nodup_cons.mp (show (a.2 :: l.map (·.2)).Nodup from hn)
              rcases List.mem_cons.mp hx with e1 | hx1
              · rcases List.mem_cons.mp hy with e2 | hy1
                · rw [e1, e2]
                · exact absurd (List.mem_map.mpr ⟨y, hy1, by rw [← he, e1]⟩) hn'.1
              · rcases List.mem_cons.mp hy with e2 | hy1
                · exact absurd (List.mem_map.mpr ⟨x, hx1, by rw [he, e2]⟩) hn'.1
                · exact ih hn'.2 hx1 hy1 he
          exact this nd hw'W hw e
        subst this
        exact n (List.mem_map.mpr ⟨w', hw', rfl⟩)
    · obtain ⟨v, h1, h2⟩ := r.val i p h hi
      exact ⟨v, h1, Rep.ban (c := c.ban W) banS h2⟩
  · obtain ⟨q, h1, h2, h3⟩ := r.own w (sub.mem hw)
    exact ⟨q, h1, h2, Own.ban (c := c.ban W) banS h3⟩
theorem filter_keys (f : Nat → Bool) : ∀ (W : Wn), (W.filter fun w => f w.1).map (·.1) = (W.map (·.1)).filter f
  | [] => rfl
  | w :: W => by
    simp only [List.filter_cons, List.map_cons]
    cases h : f w.1 with
    | true => simp [filter_keys f W]
    | false => simp [filter_keys f W]
theorem PstS.drop {c : Ct} {W : Wn} {H : Hp} {Wk' : List Nat} {md : Md} {r : SRes} {D : Ends} {E : XK} (f : Nat → Bool) (h : PstS c W H Wk' md r D E) : PstS c (W.filter fun w => f w.1) H Wk' md r D E := by
  have sub : ∀ b, b ∈ (W.filter fun w => f w.1).map (·.2) → b ∈ W.map (·.2) := fun b hb => ((List.filter_sublist).map _).mem hb
  have e1 : ∀ {H'}, ExtW c (W.filter fun w => f w.1) H H' → ExtW c W H H' := fun e b o h n nw => e b o h n fun z => nw (sub b z)
  cases r with
  | next σ' g' => exact fun W' σc' H' hk e2 n2 R => h W' σc' H' hk (e1 e2) (fun b hb => (n2 b hb).imp (sub b) id) R
  | ret p g' =>
    refine fun v H' e2 k2 q => h v H' (e1 e2) k2 ?_
    cases md with
    | frs => obtain ⟨a, rfl, q, o⟩ := q; exact ⟨a, rfl, q.imp id (sub a), o⟩
    | brw => exact q
    | rep => exact q
  | exc a b cc d => exact fun cls d H' e2 k2 q => h cls d H' (e1 e2) k2 q
  | stuck => exact h
section
variable {X : Cx} {E : XK} {fz Wk Wk' Wk1 : List Nat} {md : Md}
theorem ss_drop (f : Nat → Bool) {st : Stmt} {d : DenS} (h : SS X E fz Wk1 Wk' md st d) (e : Wk.filter f = Wk1 := by rfl) : SS X E fz Wk Wk' md st d := by
  obtain ⟨t, ht, hs⟩ := h
  refine ⟨t, ht, fun ρ B W σ σc H g D J hW R jc j p => ?_⟩
  exact hs ρ B (W.filter fun w => f w.1) σ σc H g D J (by rw [filter_keys, hW, e]) (R.drop f) jc j (p.drop f)
theorem sss_drop (f : Nat → Bool) {st : List Stmt} {d : DenS} (h : SSs X E fz Wk1 Wk' md st d) (e : Wk.filter f = Wk1 := by rfl) : SSs X E fz Wk Wk' md st d := by
  obtain ⟨t, ht, hs⟩ := h
  refine ⟨t, ht, fun ρ B W σ σc H g D J hW R jc j p => ?_⟩
  exact hs ρ B (W.filter fun w => f w.1) σ σc H g D J (by rw [filter_keys, hW, e]) (R.drop f) jc j (p.drop f)
/-! ### blocks -/
def dSkip : DenS := fun σ g => .next σ g
def dSeq (a b : DenS) : DenS := fun σ g => match a σ g with
  | .next σ' g' => b σ' g'
  | r => r
theorem sss_nil : SSs X E fz Wk Wk md [] dSkip := ⟨_, pss_nil, fun ρ B W σ σc H g D J hW R jc j p => p W σc H hW (Ext.refl _ _).w (.refl W H) R j⟩
theorem sss_one {st : Stmt} {d : DenS} (h : SS X E fz Wk Wk' md st d) : SSs X E fz Wk Wk' md [st] d := by
  obtain ⟨t, ht, hs⟩ := h
  exact ⟨t, pss_one ht, hs⟩
theorem sss_cons {st : Stmt} {rest : List Stmt} {d ds : DenS} (h : SS X E fz Wk Wk1 md st d) (h' : SSs X E fz Wk1 Wk' md rest ds) : SSs X E fz Wk Wk' md (st :: rest) (dSeq d ds) := by
  obtain ⟨t, ht, hs⟩ := h
  obtain ⟨t', ht', hs'⟩ := h'
  refine ⟨_, pss_cons ht ht', fun ρ B W σ σc H g D J hW R jc j p => ?_⟩
  refine hs ρ B W σ σc H g _ J hW R jc j ?_
  have p : PstS (ct X ρ B) W H Wk' md (match d σ g with | .next σ' g' => ds σ' g' | r => r) (jD D J) E := p
  cases q : d σ g with
  | next σ' g' =>
    rw [q] at p
    exact fun W1 σc1 H1 hk e n R1 j1 => hs' ρ B W1 σ' σc1 H1 g' D J hk R1 jc j1 (p.from e R1.rg n)
  | ret _ _ => rw [q] at p; exact p
  | exc _ _ _ _ => rw [q] at p; exact p
  | stuck => rw [q] at p; exact p
/-- what the proof never comes to -/
def dNever : DenS := fun _ _ => .stuck
theorem ss_never {st : Stmt} : SS X E fz Wk Wk' md st dNever := ⟨_, ps_never, fun ρ B W σ σc H g D J hW R jc j p => p.elim⟩
theorem sss_never {st : List Stmt} : SSs X E fz Wk Wk' md st dNever := ⟨_, pss_never, fun ρ B W σ σc H g D J hW R jc j p => p.elim⟩
theorem ss_pass {pos : Pos} : SS X E fz Wk Wk md (.Pass pos) dSkip := ⟨_, ps_pass, fun ρ B W σ σc H g D J hW R jc j p => p W σc H hW (Ext.refl _ _).w (.refl W H) R j⟩
/-! ### if, return, an expression, a name stored -/
def dIf (c : DenT) (a b : DenS) : DenS := fun σ g => (c σ g).bindS fun t g => if t = true then a σ g else b σ g
theorem ss_if {c : Expr} {a b : List Stmt} {pos : Pos} {dc : DenT} {da db : DenS} (hc : ST X (WE0 E) Wk c dc) (ha : SSs X E fz Wk Wk' md a da) (hb : SSs X E fz Wk Wk' md b db) : SS X E fz Wk Wk' md (.If c a b pos) (dIf dc da db) := by
  obtain ⟨t, ht, hs⟩ := hc
  obtain ⟨ta, pa, sa⟩ := ha
  obtain ⟨tb, pb, sb⟩ := hb
  refine ⟨_, ps_if ht pa pb, fun ρ B W σ σc H g D J hW R jc j p => ?_⟩
  refine hs ρ B W σ σc H g _ hW R (PstS.bindT p fun c g1 H1 _ e1 k1 p => ?_)
  cases c with
  | true => exact sa ρ B W σ σc H1 g1 _ J hW (R.ext e1 k1) jc j p
  | false => exact sb ρ B W σ σc H1 g1 _ J hW (R.ext e1 k1) jc j p
def dRet (d : Den) : DenS := fun σ g => (d σ g).bindS fun p g => .ret p g
def dRetN : DenS := fun σ g => .ret .non g
theorem ss_ret {e : Expr} {pos : Pos} {d : Den} (h : SE X (WE0 E) Wk .rep e d) : SS X E fz Wk Wk' .rep (.Return (some e) pos) (dRet d) := by
  obtain ⟨t, ht, hs⟩ := h
  refine ⟨_, ps_ret ht, fun ρ B W σ σc H g D J hW R jc j p => ?_⟩
  refine hs ρ B W σ σc H g _ hW R (PstS.bind p fun x g1 v H1 _ e1 k1 q1 p => ?_)
  exact p v H1 (Ext.refl _ _).w k1 (Rep.ban (c := (ct X ρ B).ban W) (fun b z => .inl (.inl z)) q1)
theorem ss_retF {e : Expr} {pos : Pos} {d : Den} (h : SE X (WE0 E) Wk .frs e d) : SS X E fz Wk Wk' .frs (.Return (some e) pos) (dRet d) := by
  obtain ⟨t, ht, hs⟩ := h
  refine ⟨_, ps_ret ht, fun ρ B W σ σc H g D J hW R jc j p => ?_⟩
  have key : Pst (ct X ρ B) W H .frs (d σ g) D.rt (fun cls dd H' => E cls dd H') := by
    cases hd : d σ g with
    | ok x g1 =>
      have p : PstS (ct X ρ B) W H Wk' .frs ((d σ g).bindS fun p g => .ret p g) (jD D J) E := p
      rw [hd] at p
      rintro v H1 e1 k1 ⟨a, rfl, hn, o⟩
      exact p _ H1 e1.w k1 ⟨a, rfl, .inl hn, Own.ban (c := ((ct X ρ B).ban W).ban1 a) (fun b z => .inl (z.elim (fun z => .inl (.inl z)) .inr)) o, fun z => R.dom a z hn⟩
    | exc k ns ps g1 =>
      have p : PstS (ct X ρ B) W H Wk' .frs ((d σ g).bindS fun p g => .ret p g) (jD D J) E := p
      rw [hd] at p
      exact fun cls dd H' e k1 q => p cls dd H' e.w k1 q.unban
    | stuck =>
      have p : PstS (ct X ρ B) W H Wk' .frs ((d σ g).bindS fun p g => .ret p g) (jD D J) E := p
      rw [hd] at p
      exact p
  exact hs ρ B W σ σc H g _ hW R key
/-- return of an owned name -/
theorem ss_retW (i : Nat) {x : Str} {pos pos' : Pos} (hi : i ∈ Wk := by decide) (hN : X.N[i]? = some x := by rfl) (hv : Vis X.env.scope x := by first | exact Or.inl rfl | exact Or.inr (Or.inl rfl) | exact Or.inr (Or.inr rfl)) (hd : (x == ("__debug__" : Str)) = false := by decide)
    (hcd : (x == ("__classdict__" : Str)) = false := by decide) : SS X E fz Wk Wk' .frs (.Return (some (.Name x pos)) pos') (dRet (dV i)) := by
  refine ⟨_, ps_ret (pe_var hN hv hd hcd), fun ρ B W σ σc H g D J hW R jc j p => ?_⟩
  rw [← hW] at hi
  obtain ⟨w, hw, rfl⟩ := List.mem_map.mp hi
  obtain ⟨q, h1, h2, h3⟩ := R.own w hw
  refine ⟨_, h2, ?_⟩
  have p : PstS (ct X ρ B) W H Wk' .frs ((dV w.1 σ g).bindS fun p g => .ret p g) (jD D J) E := p
  unfold dV at p
  rw [h1] at p
  exact p _ H (Ext.refl _ _).w R.rg ⟨w.2, rfl, .inr (List.mem_map.mpr ⟨w, hw, rfl⟩), Own.ban (c := (ct X ρ B).ban W) (fun b z => .inl (z.elim .inl fun e => .inr (List.mem_map.mpr ⟨w, hw, e.symm⟩))) h3, R.wb w hw⟩
theorem ss_retN {pos : Pos} : SS X E fz Wk Wk' .rep (.Return none pos) dRetN := ⟨_, ps_retN, fun ρ B W σ σc H g D J hW R jc j p => p .non H (Ext.refl _ _).w R.rg rfl⟩
def dExpr (d : Den) : DenS := fun σ g => (d σ g).bindS fun _ g => .next σ g
theorem ss_expr {m : Md} {e : Expr} {pos : Pos} {d : Den} (h : SE X (WE0 E) Wk m e d) (hs : swapsWith e none pos.line X.env = pure false := by rfl) : SS X E fz Wk Wk md (.Expr e pos) (dExpr d) := by
  obtain ⟨t, ht, hh⟩ := h
  refine ⟨_, ps_expr ht hs, fun ρ B W σ σc H g D J hW R jc j p => ?_⟩
  refine hh ρ B W σ σc H g _ hW R (PstS.bind p fun x g1 v H1 _ e1 k1 q1 p => ?_)
  exact p W σc H1 hW (Ext.refl _ _).w (.refl _ _) (R.ext e1 k1) j
end
end Tr

namespace Tr
open PySem PySem.Spec PyProof.Rows L2

mutual
theorem Rep.away {c : Ct} {H H' : Hp} (s : ∀ b o, H b = some o → ¬ c.B b → H' b = some o) : ∀ {p : PV} {v : V}, Rep c H p v → Rep c H' p v
  | .non, _, h => h
  | .bl _, _, h => h
  | .int _, _, h => h
  | .str _, _, h => h
  | .tup l, _, ⟨a, xs, h1, h2, h3⟩ => ⟨a, xs, h1, h2.elim (fun h => .inl ⟨h.1, s _ _ h.2 h.1⟩) .inr, RepL.away s h3⟩
  | .lst l, _, ⟨a, xs, h1, h2, h3⟩ => ⟨a, xs, h1, ⟨h2.1, s _ _ h2.2 h2.1⟩, RepL.away s h3⟩
  | .dct ks ps, _, ⟨a, vs, h1, h2, h3, h4, h5⟩ => ⟨a, vs, h1, h2, s _ _ h3 h2, h4, RepL.away s h5⟩
  | .ins k ns ps, _, ⟨a, C, dx, vs, h1, h2, h3, h4, h5, h6⟩ => ⟨a, C, dx, vs, h1, h2, h3, s _ _ h4 h2, h5, RepL.away s h6⟩
  | .rng, _, h => h
theorem RepL.away {c : Ct} {H H' : Hp} (s : ∀ b o, H b = some o → ¬ c.B b → H' b = some o) : ∀ {ps : List PV} {vs : List V}, RepL c H ps vs → RepL c H' ps vs
  | [], _, h => h
  | p :: ps, _, ⟨v, r, h1, h2, h3⟩ => ⟨v, r, h1, Rep.away s h2, RepL.away s h3⟩
end
theorem Own.away {c : Ct} {H H' : Hp} {a : Addr} {p : PV} (s : ∀ b o, H b = some o → ¬ c.B b → H' b = some o) (e : H' a = H a) (h : Own c H a p) : Own c H' a p := by
  cases p with
  | lst l => obtain ⟨xs, h, k⟩ := h; exact ⟨xs, e.trans h, k.away s⟩
  | dct ks ps => obtain ⟨xs, h, l, k⟩ := h; exact ⟨xs, e.trans h, l, k.away s⟩
  | ins k ns ps => obtain ⟨C, dx, vs, m, h, l, k⟩ := h; exact ⟨C, dx, vs, m, e.trans h, l, k.away s⟩
  | _ => exact h.elim
/-- a slot that is not owned is set -/
theorem Rel.set {c : Ct} {W : Wn} {σ : Sl} {σc : L2.St} {H : Hp} {g : Rg} {i : Nat} {p : PV} {v : V} (r : Rel c W σ σc H g) (hi : i ∉ W.map (·.1)) (h : Rep (c.ban W) H p v) : Rel c W (σ.set i (some p)) (σc.set i (some v)) H g where
  len := by simp [r.len]
  rg := r.rg
  rb := r.rb
  dom := r.dom
  ndk := r.ndk
  nda := r.nda
  wb := r.wb
  val := fun j q hq n => by
    by_cases hj : j = i
    · subst hj
      by_cases hl : j < σ.length
      · rw [List.getElem?_set_self hl] at hq
        cases hq
        exact ⟨v, by rw [List.getElem?_set_self (by rw [← r.len]; exact hl)], h⟩
      · rw [List.getElem?_eq_none (by simpa using hl)] at hq
        cases hq
    · rw [List.getElem?_set_ne (Ne.symm hj)] at hq
      obtain ⟨u, h1, h2⟩ := r.val j q hq n
      exact ⟨u, by rw [List.getElem?_set_ne (Ne.symm hj)]; exact h1, h2⟩
  own := fun w hw => by
    have hne : i ≠ w.1 := fun e => hi (List.mem_map.mpr ⟨w, hw, e.symm⟩)
    obtain ⟨q, h1, h2, h3⟩ := r.own w hw
    exact ⟨q, by rw [List.getElem?_set_ne hne]; exact h1, by rw [List.getElem?_set_ne hne]; exact h2, h3⟩
/-- a slot gets a new object, owned from now on -/
theorem Rel.setW {c : Ct} {W : Wn} {σ : Sl} {σc : L2.St} {H H' : Hp} {g g' : Rg} {i : Nat} {p : PV} {a : Addr} (r : Rel c W σ σc H g) (e : Ext c H H') (k : RgOk c H' g') (hi : i ∉ W.map (·.1)) (hl : i < σ.length) (ha : H a = none) (h : Own ((c.ban W).ban1 a) H' a p) :
    Rel c ((i, a) :: W) (σ.set i (some p)) (σc.set i (some (.ref a))) H' g' := by
  have r' := r.ext e k
  have bn : ∀ b, (c.ban ((i, a) :: W)).B b → (c.ban W).B b ∨ H b = none := fun b hb => by
    rcases hb with hb | hb
    · exact .inl (.inl hb)
    · rcases List.mem_cons.mp hb with rfl | hb
      · exact .inr ha
      · exact .inl (.inr hb)
  refine ⟨by simp [r.len], k, r.rb, r'.dom, List.nodup_cons.mpr ⟨hi, r.ndk⟩, List.nodup_cons.mpr ⟨fun z => r.wdom a (.inr z) ha, r.nda⟩, fun w hw => ?_, fun j q hq n => ?_, fun w hw => ?_⟩
  · rcases List.mem_cons.mp hw with rfl | hw
    · exact fun z => r.dom a z ha
    · exact r.wb w hw
  · have hj : i ≠ j := fun z => n (by simp [z])
    have n' : j ∉ W.map (·.1) := fun z => n (List.mem_cons_of_mem _ z)
    rw [List.getElem?_set_ne hj] at hq
    obtain ⟨u, h1, h2⟩ := r.val j q hq n'
    refine ⟨u, by rw [List.getElem?_set_ne hj]; exact h1, ?_⟩
    exact Rep.ext (c := c.ban ((i, a) :: W)) e (fun b hb => .inl (r.rb b hb)) (Rep.ban (c := c.ban W) bn h2)
  · rcases List.mem_cons.mp hw with rfl | hw
    · refine ⟨p, List.getElem?_set_self hl, List.getElem?_set_self (by rw [← r.len]; exact hl), Own.ban (c := (c.ban W).ban1 a) (fun b hb => .inl ?_) h⟩
      rcases hb with hb | hb
      · exact .inl (.inl hb)
      · rcases List.mem_cons.mp hb with rfl | hb
        · exact .inr rfl
        · exact .inl (.inr hb)
    · have hne : i ≠ w.1 := fun e => hi (List.mem_map.mpr ⟨w, hw, e.symm⟩)
      obtain ⟨q, h1, h2, h3⟩ := r.own w hw
      refine ⟨q, by rw [List.getElem?_set_ne hne]; exact h1, by rw [List.getElem?_set_ne hne]; exact h2, ?_⟩
      exact Own.ext (c := c.ban ((i, a) :: W)) e (fun b hb => .inl (r.rb b hb)) (fun z => r.wb w hw (r.rb _ z)) (Own.ban (c := c.ban W) bn h3)
/-- what an owned slot holds is changed -/
theorem Rel.upd {c : Ct} {W : Wn} {σ : Sl} {σc : L2.St} {H : Hp} {g : Rg} {w : Nat × Addr} {p : PV} {o : HO} (r : Rel c W σ σc H g) (hw : w ∈ W) (h : Own (c.ban W) (L2.upd H w.2 o) w.2 p) : Rel c W (σ.set w.1 (some p)) σc (L2.upd H w.2 o) g := by
  have ban_w : (c.ban W).B w.2 := .inr (List.mem_map.mpr ⟨w, hw, rfl⟩)
  have aw : ∀ b u, H b = some u → ¬ (c.ban W).B b → L2.upd H w.2 o b = some u := fun b u hb n => by
    have : b ≠ w.2 := fun e => n (by rw [e]; exact ban_w)
    rw [upd_ne this]; exact hb
  have nr : ¬ c.R w.2 := fun z => r.wb w hw (r.rb _ z)
  have keyi : ∀ {w'}, w' ∈ W → w'.1 = w.1 → w' = w := fun {w'} hw' e => by
    have : ∀ {l : Wn}, (l.map (·.1)).Nodup → ∀ {x y}, x ∈ l → y ∈ l → x.1 = y.1 → x = y := by
      intro l
      induction l with
      | nil => intro _ x y hx; cases hx
      | cons a l ih =>
        intro hn x y hx hy he
        have hn' := List.nodup_cons.mp (show (a.1 :: l.map (·.1)).Nodup from hn)
        rcases List.mem_cons.mp hx with e1 | hx1
        · rcases List.mem_cons.mp hy with e2 | hy1
          · rw [e1, e2]
          · exact absurd (List.mem_map.mpr ⟨y, hy1, by rw [← he, e1]⟩) hn'.1
        · rcases List.mem_cons.mp hy with e2 | hy1
          · exact absurd (List.mem_map.mpr ⟨x, hx1, by rw [he, e2]⟩) hn'.1
          · exact ih hn'.2 hx1 hy1 he
    exact this r.ndk hw' hw e
  have addr : ∀ {w'}, w' ∈ W → w' ≠ w → w'.2 ≠ w.2 := fun {w'} hw' ne e => by
    have : ∀ {l : Wn}, (l.map (·.2)).Nodup → ∀ {x y}, x ∈ l → y ∈ l → x.2 = y.2 → x = y := by
      intro l
      induction l with
      | nil => intro _ x y hx; cases hx
      | cons a l ih =>
        intro hn x y hx hy he
        have hn' := List.nodup_cons.mp (show (a.2 :: l.map (·.2)).Nodup from hn)
        rcases List.mem_cons.mp hx with e1 | hx1
        · rcases List.mem_cons.mp hy with e2 | hy1
          · rw [e1, e2]
          · exact absurd (List.mem_map.mpr ⟨y, hy1, by rw [← he, e1]⟩) hn'.1
        · rcases List.mem_cons.mp hy with e2 | hy1
          · exact absurd (List.mem_map.mpr ⟨x, hx1, by rw [he, e2]⟩) hn'.1
          · exact ih hn'.2 hx1 hy1 he
    exact ne (this r.nda hw' hw e)
  refine ⟨by simp [r.len], fun q hq => ?_, r.rb, fun b hb => ?_, r.ndk, r.nda, r.wb, fun j q hq n => ?_, fun w' hw' => ?_⟩
  · obtain ⟨h1, h2, h3, h4⟩ := r.rg q hq
    refine ⟨h1, h2, ?_, ?_⟩
    · rw [upd_ne (fun e => nr ⟨q, hq, .inl e.symm⟩)]; exact h3
    · rw [upd_ne (fun e => nr ⟨q, hq, .inr e.symm⟩)]; exact h4
  · by_cases e : b = w.2
    · rw [e, upd_same]; exact fun z => nomatch z
    · rw [upd_ne e]; exact r.dom b hb
  · have hj : w.1 ≠ j := fun z => n (by rw [← z]; exact List.mem_map.mpr ⟨w, hw, rfl⟩)
    rw [List.getElem?_set_ne hj] at hq
    obtain ⟨u, h1, h2⟩ := r.val j q hq n
    exact ⟨u, h1, Rep.away (c := c.ban W) aw h2⟩
  · obtain ⟨q, h1, h2, h3⟩ := r.own w' hw'
    by_cases e : w' = w
    · subst e
      have hl : w'.1 < σ.length := (List.getElem?_eq_some_iff.mp h1).1
      exact ⟨p, List.getElem?_set_self hl, h2, h⟩
    · have hj : w.1 ≠ w'.1 := fun z => e (keyi hw' z.symm)
      refine ⟨q, by rw [List.getElem?_set_ne hj]; exact h1, h2, Own.away (c := c.ban W) aw (upd_ne (addr hw' e)) h3⟩

section
variable {X : Cx} {E : XK} {fz Wk Wk' Wk1 : List Nat} {md : Md}
/-! ### targets -/
abbrev DenG := PV → Sl → Option Sl
/-- the same slots but for some -/
def Agree (gs : List Nat) (σ σ' : L2.St) : Prop := σ'.length = σ.length ∧ ∀ j, j ∉ gs → σ'[j]? = σ[j]?
def SG (X : Cx) (Wk gs : List Nat) (tg : Expr) (gd : DenG) : Prop :=
  ∃ t, PG X tg t ∧ ∀ (ρ : Option (Addr × Addr)) (B : Addr → Prop) (W : Wn) (σ σ' : Sl) (σc : L2.St) (H : Hp) (g : Rg) (p : PV) (v : V) (Q : L2.St → Hp → Prop), W.map (·.1) = Wk →
    Rel (ct X ρ B) W σ σc H g → Rep ((ct X ρ B).ban W) H p v → gd p σ = some σ' → (∀ σc', Rel (ct X ρ B) W σ' σc' H g → Agree gs σc σc' → Q σc' H) → t v σc H Q
abbrev DenGs := List PV → Sl → Option Sl
def SGs (X : Cx) (Wk gs : List Nat) (tg : List Expr) (gd : DenGs) : Prop :=
  ∃ t, PGs X tg t ∧ ∀ (ρ : Option (Addr × Addr)) (B : Addr → Prop) (W : Wn) (σ σ' : Sl) (σc : L2.St) (H : Hp) (g : Rg) (p : List PV) (v : List V) (Q : L2.St → Hp → Prop), W.map (·.1) = Wk →
    Rel (ct X ρ B) W σ σc H g → RepL ((ct X ρ B).ban W) H p v → gd p σ = some σ' → (∀ σc', Rel (ct X ρ B) W σ' σc' H g → Agree gs σc σc' → Q σc' H) → t v σc H Q
def gdName (i : Nat) : DenG := fun p σ => some (σ.set i (some p))
theorem sg_name (i : Nat) {x : Str} {pos : Pos} (hN : X.N.Nodup) (hw : i ∉ Wk := by decide) (hi : X.N[i]? = some x := by rfl) (hx : Loc X.env.scope x := by first | exact Or.inl rfl | exact Or.inr rfl) (hf : X.fn x = true ∨ X.env.scope.names.lookup x = some .local := by first | exact .inl rfl | exact .inr rfl) : SG X Wk [i] (.Name x pos) (gdName i) := by
  refine ⟨_, pg_name hN hi hx hf, fun ρ B W σ σ' σc H g p v Q hW R h e k => ?_⟩
  cases e
  exact k _ (R.set (by rw [hW]; exact hw) h) ⟨by simp, fun j hj => List.getElem?_set_ne fun z => hj (by simp [z])⟩
def gdNil : DenGs := fun l σ => match l with | [] => some σ | _ => none
def gdCons (a : DenG) (b : DenGs) : DenGs := fun l σ => match l with | p :: r => (a p σ).bind (b r) | [] => none
theorem sgs_nil : SGs X Wk [] [] gdNil := by
  refine ⟨_, pgs_nil, fun ρ B W σ σ' σc H g p v Q hW R h e k => ?_⟩
  cases p with
  | nil => cases e; exact ⟨h, k _ R ⟨rfl, fun _ _ => rfl⟩⟩
  | cons _ _ => cases e
theorem sgs_cons {e : Expr} {es : List Expr} {a : DenG} {b : DenGs} {g1 g2 : List Nat} (h : SG X Wk g1 e a) (h' : SGs X Wk g2 es b) (hs : (assignEach (e :: es) X.env).map (·.2) = assign e X.env :: (assignEach es X.env).map (·.2) := by rfl) : SGs X Wk (g1 ++ g2) (e :: es) (gdCons a b) := by
  obtain ⟨t, ht, hh⟩ := h
  obtain ⟨t', ht', hh'⟩ := h'
  refine ⟨_, pgs_cons ht ht' hs, fun ρ B W σ σ' σc H g p v Q hW R h e k => ?_⟩
  cases p with
  | nil => cases e
  | cons p ps =>
    obtain ⟨v, r, rfl, h1, h2⟩ := h
    have e : (a p σ).bind (b ps) = some σ' := e
    cases ea : a p σ with
    | none => rw [ea] at e; cases e
    | some σ1 =>
      rw [ea] at e
      exact ⟨v, r, rfl, hh ρ B W σ σ1 σc H g p v _ hW R h1 ea fun σc1 R1 s1 => hh' ρ B W σ1 σ' σc1 H g ps r Q hW R1 h2 e fun σc' R' s' => k σc' R' ⟨s'.1.trans s1.1, fun j hj => (s'.2 j fun z => hj (List.mem_append_right _ z)).trans (s1.2 j fun z => hj (List.mem_append_left _ z))⟩⟩
def gdTup (n : Nat) (b : DenGs) : DenG := fun p σ => match p with | .tup l => if l.length = n then b l σ else none | _ => none
theorem sg_tup {es : List Expr} {k : Nat} {pos : Pos} {b : DenGs} {n : Nat} {gs : List Nat} (hc : X.calm = true) (h : SGs X Wk gs es b) (hn : (assignEach es X.env).length = n := by rfl) (hst : (assignEach es X.env).findIdx? (·.1) = none := by rfl) : SG X Wk gs (.Tuple es k pos) (gdTup n b) := by
  obtain ⟨t, ht, hh⟩ := h
  refine ⟨_, pg_tup hc ht hn hst, fun ρ B W σ σ' σc H g p v Q hW R h e k => ?_⟩
  cases p with
  | tup l =>
    obtain ⟨a, xs, rfl, h1, h2⟩ := h
    have e : (if l.length = n then b l σ else none) = some σ' := e
    by_cases hl : l.length = n
    · rw [if_pos hl] at e
      exact ⟨a, xs, rfl, h1.sq, by rw [← h2.length]; exact hl, hh ρ B W σ σ' σc H g l xs Q hW R h2 e k⟩
    · rw [if_neg hl] at e; cases e
  | _ => cases e
theorem JC.agree {fz gs : List Nat} {J : L2.St → Prop} {σ σ' : L2.St} (jc : JC fz J) (ag : Agree gs σ σ') (hz : ∀ i ∈ fz, i ∉ gs) (j : J σ) : J σ' := jc σ σ' ag.1 (fun i hi => ag.2 i (hz i hi)) j
/-! ### stores -/
def dSet (i : Nat) (d : Den) : DenS := fun σ g => (d σ g).bindS fun p g => .next (σ.set i (some p)) g
theorem ss_set (i : Nat) {x : Str} {e : Expr} {pos pos' : Pos} {d : Den} (hN : X.N.Nodup) (h : SE X (WE0 E) Wk .rep e d) (hw : i ∉ Wk := by decide) (hz : i ∉ fz := by decide) (hi : X.N[i]? = some x := by rfl) (hx : Loc X.env.scope x := by first | exact Or.inl rfl | exact Or.inr rfl) (hs : swapsWith e (some (.Name x pos')) pos.line X.env = pure false := by rfl) (hf : X.fn x = true ∨ X.env.scope.names.lookup x = some .local := by first | exact .inl rfl | exact .inr rfl) :
    SS X E fz Wk Wk md (.Assign [.Name x pos'] e pos) (dSet i d) := by
  obtain ⟨t, ht, hh⟩ := h
  refine ⟨_, ps_set hN hi hx ht hs hf, fun ρ B W σ σc H g D J hW R jc j p => ?_⟩
  refine hh ρ B W σ σc H g _ hW R (PstS.bind p fun x g1 v H1 _ e1 k1 q1 p => ?_)
  exact p W _ H1 hW (Ext.refl _ _).w (.refl _ _) ((R.ext e1 k1).set (by rw [hW]; exact hw) q1) (jc.set hz j)
def dSetW (i : Nat) (d : Den) : DenS := fun σ g => (d σ g).bindS fun p g => if i < σ.length then .next (σ.set i (some p)) g else .stuck
theorem setW_post {c : Ct} {W : Wn} {σ : Sl} {σc : L2.St} {H : Hp} {g : Rg} {i : Nat} {D : Ends} {r : Res PV} {J : L2.St → Prop} (jc : JC fz J) (hz : i ∉ fz) (j : J σc) (hW : W.map (·.1) = Wk) (hw : i ∉ Wk) (R : Rel c W σ σc H g) (p : PstS c W H (i :: Wk) md (r.bindS fun p g => if i < σ.length then .next (σ.set i (some p)) g else .stuck) (jD D J) E) :
    Pst c W H .frs r (fun x H1 => gName i x σc H1 D.nx) (fun cls dd H' => E cls dd H') := by
  cases r with
  | ok x g1 =>
    have p : PstS c W H (i :: Wk) md (if i < σ.length then .next (σ.set i (some x)) g1 else .stuck) (jD D J) E := p
    by_cases hl : i < σ.length
    · rw [if_pos hl] at p
      rintro v H1 e1 k1 ⟨a, rfl, hn, o⟩
      exact p ((i, a) :: W) _ H1 (by simp [hW]) e1.w (fun b hb => (List.mem_cons.mp hb).elim (fun e => .inr (by rw [e]; exact hn)) .inl) (R.setW e1 k1 (by rw [hW]; exact hw) hl hn o) (jc.set hz j)
    · rw [if_neg hl] at p; exact p.elim
  | exc k ns ps g1 => exact fun cls dd H' e k1 q => p cls dd H' e.w k1 q.unban
  | stuck => exact p
theorem ss_setW (i : Nat) {x : Str} {e : Expr} {pos pos' : Pos} {d : Den} (hN : X.N.Nodup) (h : SE X (WE0 E) Wk .frs e d) (hw : i ∉ Wk := by decide) (hz : i ∉ fz := by decide) (hi : X.N[i]? = some x := by rfl) (hx : Loc X.env.scope x := by first | exact Or.inl rfl | exact Or.inr rfl) (hs : swapsWith e (some (.Name x pos')) pos.line X.env = pure false := by rfl) (hf : X.fn x = true ∨ X.env.scope.names.lookup x = some .local := by first | exact .inl rfl | exact .inr rfl) :
    SS X E fz Wk (i :: Wk) md (.Assign [.Name x pos'] e pos) (dSetW i d) := by
  obtain ⟨t, ht, hh⟩ := h
  refine ⟨_, ps_set hN hi hx ht hs hf, fun ρ B W σ σc H g D J hW R jc j p => ?_⟩
  exact hh ρ B W σ σc H g _ hW R (setW_post jc hz j hW hw R p)
/-- a, b = e -/
def dAsg (gd : DenG) (d : Den) : DenS := fun σ g => (d σ g).bindS fun p g => match gd p σ with | some σ' => .next σ' g | none => .stuck
theorem ss_asg {tg e : Expr} {pos : Pos} {gd : DenG} {d : Den} {gs : List Nat} (h : SE X (WE0 E) Wk .rep e d) (hg : SG X Wk gs tg gd) (hz : ∀ i ∈ fz, i ∉ gs := by decide) (hs : swapsWithSole [tg] e pos.line X.env = pure false := by rfl) (hw : swappedStores [tg] e X.env = pure none := by rfl)
    (h1 : (assignEach [tg] X.env).map (·.2) = [assign tg X.env] := by rfl) : SS X E fz Wk Wk md (.Assign [tg] e pos) (dAsg gd d) := by
  obtain ⟨t, ht, hh⟩ := h
  obtain ⟨t', ht', hh'⟩ := hg
  refine ⟨_, ps_asg ht ht' hs hw h1, fun ρ B W σ σc H g D J hW R jc j p => ?_⟩
  refine hh ρ B W σ σc H g _ hW R (PstS.bind p fun x g1 v H1 _ e1 k1 q1 p => ?_)
  cases eg : gd x σ with
  | none => rw [eg] at p; exact p.elim
  | some σ' =>
    rw [eg] at p
    exact hh' ρ B W σ σ' σc H1 g1 x v _ hW (R.ext e1 k1) q1 eg fun σc' R' ag => p W σc' H1 hW (Ext.refl _ _).w (.refl _ _) R' (jc.agree ag hz j)
/-- a, b = x, y of local names -/
def dPar (i j : Nat) (da db : Den) : DenS := fun σ g => (da σ g).bindS fun p g => (db σ g).bindS fun q g => .next ((σ.set i (some p)).set j (some q)) g
theorem ss_par (i j : Nat) {x y : Str} {a b : Expr} {da db : Den} {px py pt pos : Pos} {kt k2 pt2} (hc : X.calm = true) (hN : X.N.Nodup) (ha : SE X (WE0 E) Wk .rep a da) (hb : SE X (WE0 E) Wk .rep b db) (hwi : i ∉ Wk := by decide) (hwj : j ∉ Wk := by decide) (hzi : i ∉ fz := by decide) (hzj : j ∉ fz := by decide) (hi : X.N[i]? = some x := by rfl) (hj : X.N[j]? = some y := by rfl) (hij : i ≠ j := by decide)
    (hx : X.env.scope.names.lookup x = some .local := by rfl) (hy : X.env.scope.names.lookup y = some .local := by rfl) (hw : swappedStores [.Tuple [.Name x px, .Name y py] kt pt] (.Tuple [a, b] k2 pt2) X.env = pure (some [x, y]) := by rfl)
    (hs : swapsWithSole [.Tuple [.Name x px, .Name y py] kt pt] (.Tuple [a, b] k2 pt2) pos.line X.env = pure false := by rfl)
    (hs1 : starEach [a, b] X.env = (false, eval a X.env) :: starEach [b] X.env := by rfl) (hs2 : starEach [b] X.env = (false, eval b X.env) :: starEach [] X.env := by rfl) :
    SS X E fz Wk Wk md (.Assign [.Tuple [.Name x px, .Name y py] kt pt] (.Tuple [a, b] k2 pt2) pos) (dPar i j da db) := by
  obtain ⟨ta, hta, hha⟩ := ha
  obtain ⟨tb, htb, hhb⟩ := hb
  refine ⟨_, ps_par hc hN hi hj hij hx hy (pa_cons hta (pa_cons htb pa_nil hs2) hs1) hw hs, fun ρ B W σ σc H g D J hW R jc jj p => ?_⟩
  refine hha ρ B W σ σc H g _ hW R (PstS.bind p fun x g1 v H1 _ e1 k1 q1 p => ?_)
  have R1 := R.ext e1 k1
  refine hhb ρ B W σ σc H1 g1 _ hW R1 (PstS.bind p fun y g2 u H2 _ e2 k2 q2 p => ?_)
  have R2 := R1.ext e2 k2
  refine ⟨v, u, rfl, ?_⟩
  exact p W _ H2 hW (Ext.refl _ _).w (.refl _ _) ((R2.set (by rw [hW]; exact hwi) (Rep.ext (c := (ct X ρ B).ban W) e2 (Ct.ban_R R.rb) q1)).set (by rw [hW]; exact hwj) q2) (jc.set hzj (jc.set hzi jj))
/-! ### an owned list changed -/
theorem own_lst {c : Ct} {W : Wn} {σ : Sl} {σc : L2.St} {H : Hp} {g : Rg} {w : Nat × Addr} {l : List PV} (R : Rel c W σ σc H g) (hw : w ∈ W) (e : σ[w.1]? = some (some (.lst l))) : ∃ xs, σc[w.1]? = some (some (.ref w.2)) ∧ H w.2 = some (.lst xs) ∧ RepL (c.ban W) H l xs := by
  obtain ⟨q, h1, h2, h3⟩ := R.own w hw
  rw [e] at h1; cases h1
  obtain ⟨xs, h4, h5⟩ := h3
  exact ⟨xs, h2, h4, h5⟩
/-- the new content -/
theorem new_lst {c : Ct} {W : Wn} {σ : Sl} {σc : L2.St} {H : Hp} {g : Rg} {w : Nat × Addr} {l : List PV} {xs : List V} (R : Rel c W σ σc H g) (hw : w ∈ W) (k : RepL (c.ban W) H l xs) : Rel c W (σ.set w.1 (some (.lst l))) σc (L2.upd H w.2 (.lst xs)) g := by
  refine R.upd hw ⟨xs, upd_same, RepL.away (c := c.ban W) (fun b u hb n => ?_) k⟩
  have : b ≠ w.2 := fun e => n (by rw [e]; exact .inr (List.mem_map.mpr ⟨w, hw, rfl⟩))
  rw [upd_ne this]; exact hb
theorem upd_w {c : Ct} {W : Wn} {H : Hp} {w : Nat × Addr} {o : HO} (hw : w ∈ W) : ExtW c W H (L2.upd H w.2 o) := fun b u hb _ n => by
  have : b ≠ w.2 := fun e => n (by rw [e]; exact List.mem_map.mpr ⟨w, hw, rfl⟩)
  rw [upd_ne this]; exact hb
def onLst (i : Nat) (σ : Sl) (f : List PV → SRes) : SRes := match σ[i]? with
  | some (some (.lst l)) => f l
  | _ => .stuck
theorem onLst_lst {i : Nat} {σ : Sl} {f : List PV → SRes} {l : List PV} (h : σ[i]? = some (some (.lst l))) : onLst i σ f = f l := by unfold onLst; rw [h]
theorem onLst_not {i : Nat} {σ : Sl} {f : List PV → SRes} (h : ∀ l, σ[i]? ≠ some (some (.lst l))) : onLst i σ f = .stuck := by
  unfold onLst
  split
  · rename_i l e; exact absurd e (h l)
  · rfl
theorem onLst_cases {c : Ct} {W : Wn} {H : Hp} {Wk' : List Nat} {md : Md} {D : Ends} {E : XK} {i : Nat} {σ : Sl} {f : List PV → SRes} (p : PstS c W H Wk' md (onLst i σ f) D E) : ∃ l, σ[i]? = some (some (.lst l)) ∧ PstS c W H Wk' md (f l) D E := by
  by_cases h : ∃ l, σ[i]? = some (some (.lst l))
  · obtain ⟨l, h⟩ := h
    rw [onLst_lst h] at p
    exact ⟨l, h, p⟩
  · rw [onLst_not fun l e => h ⟨l, e⟩] at p
    exact p.elim
def dApp (i : Nat) (d : Den) : DenS := fun σ g => onLst i σ fun l => (d σ g).bindS fun p g => if l.length < sizeLine then .next (σ.set i (some (.lst (l ++ [p])))) g else .stuck
theorem ss_append (i : Nat) {x : Str} {e : Expr} {px apos cpos pos : Pos} {d : Den} (h : SE X (WE0 E) Wk .rep e d) (hi : i ∈ Wk := by decide) (hN : X.N[i]? = some x := by rfl) (hv : Vis X.env.scope x := by first | exact Or.inl rfl | exact Or.inr (Or.inl rfl) | exact Or.inr (Or.inr rfl)) (hd : (x == ("__debug__" : Str)) = false := by decide)
    (hcd : (x == ("__classdict__" : Str)) = false := by decide) (hbase : attributeBase (.Name x px) "append" X.env (eval (.Name x px) X.env) = eval (.Name x px) X.env := by rfl)
    (hfew : ((backTo cpos (starEach [e] X.env)).all (fun x => !x.1) && (backToKw cpos (keywordEach [] X.env)).all (fun x => x.1.isSome) && decide ([e].length + ([] : List Keyword).length + (if ([] : List Keyword).isEmpty then 0 else 1) < 30)) = true := by rfl)
    (hline : (apos.endLine == cpos.line) = true := by rfl) (hs : starEach [e] X.env = (false, eval e X.env) :: starEach [] X.env := by rfl) (hplain : (backTo cpos (starEach [] X.env)).any (·.1) = false := by rfl)
    (hsw : swapsWith (.Call (.Attribute (.Name x px) "append" apos) [e] [] cpos) none pos.line X.env = pure false := by rfl) :
    SS X E fz Wk Wk md (.Expr (.Call (.Attribute (.Name x px) "append" apos) [e] [] cpos) pos) (dApp i d) := by
  obtain ⟨t, ht, hh⟩ := h
  refine ⟨_, ps_expr (pe_bm PySem.F.plainAttrs_list PySem.F.slot_list_append PySem.F.type_list_append mt_append (pe_var hN hv hd hcd) (pa_cons ht pa_nil hs) hbase hfew hline hs hplain) hsw, fun ρ B W σ σc H g D J hW R jc j p => ?_⟩
  rw [← hW] at hi
  obtain ⟨w, hw, rfl⟩ := List.mem_map.mp hi
  obtain ⟨l, h1, p⟩ := onLst_cases p
  obtain ⟨xs, h2, h4, h5⟩ := own_lst R hw h1
  refine ⟨_, h2, .inl ⟨rfl, xs, .of h4⟩, ?_⟩
  refine hh ρ B W σ σc H g _ hW R (PstS.bind p fun x g1 v H1 _ e1 k1 q1 p => ?_)
  have R1 := R.ext e1 k1
  have h6 := e1 _ _ h4 (fun z => R.wb w hw (R.rb _ z))
  by_cases hl : l.length < sizeLine
  · rw [if_pos hl] at p
    refine ⟨w.2, xs, v, rfl, rfl, h6, by rw [← h5.length]; exact hl, ?_⟩
    exact p W σc _ hW (upd_w hw) (.refl _ _) (new_lst R1 hw (RepL.append (RepL.ext (c := (ct X ρ B).ban W) e1 (Ct.ban_R R.rb) h5) ⟨v, [], rfl, q1, rfl⟩)) j
  · rw [if_neg hl] at p; exact p.elim
def dExt (i : Nat) (d : Den) : DenS := fun σ g => onLst i σ fun l => (d σ g).bindS fun p g => match p with
  | .lst m => if l.length + m.length ≤ sizeLine then .next (σ.set i (some (.lst (l ++ m)))) g else .stuck
  | _ => .stuck
theorem ss_extend (i : Nat) {x : Str} {e : Expr} {px apos cpos pos : Pos} {d : Den} (h : SE X (WE0 E) Wk .rep e d) (hi : i ∈ Wk := by decide) (hN : X.N[i]? = some x := by rfl) (hv : Vis X.env.scope x := by first | exact Or.inl rfl | exact Or.inr (Or.inl rfl) | exact Or.inr (Or.inr rfl)) (hd : (x == ("__debug__" : Str)) = false := by decide)
    (hcd : (x == ("__classdict__" : Str)) = false := by decide) (hbase : attributeBase (.Name x px) "extend" X.env (eval (.Name x px) X.env) = eval (.Name x px) X.env := by rfl)
    (hfew : ((backTo cpos (starEach [e] X.env)).all (fun x => !x.1) && (backToKw cpos (keywordEach [] X.env)).all (fun x => x.1.isSome) && decide ([e].length + ([] : List Keyword).length + (if ([] : List Keyword).isEmpty then 0 else 1) < 30)) = true := by rfl)
    (hline : (apos.endLine == cpos.line) = true := by rfl) (hs : starEach [e] X.env = (false, eval e X.env) :: starEach [] X.env := by rfl) (hplain : (backTo cpos (starEach [] X.env)).any (·.1) = false := by rfl)
    (hsw : swapsWith (.Call (.Attribute (.Name x px) "extend" apos) [e] [] cpos) none pos.line X.env = pure false := by rfl) :
    SS X E fz Wk Wk md (.Expr (.Call (.Attribute (.Name x px) "extend" apos) [e] [] cpos) pos) (dExt i d) := by
  obtain ⟨t, ht, hh⟩ := h
  refine ⟨_, ps_expr (pe_bm PySem.F.plainAttrs_list PySem.F.slot_list_extend PySem.F.type_list_extend mt_extend (pe_var hN hv hd hcd) (pa_cons ht pa_nil hs) hbase hfew hline hs hplain) hsw, fun ρ B W σ σc H g D J hW R jc j p => ?_⟩
  rw [← hW] at hi
  obtain ⟨w, hw, rfl⟩ := List.mem_map.mp hi
  obtain ⟨l, h1, p⟩ := onLst_cases p
  obtain ⟨xs, h2, h4, h5⟩ := own_lst R hw h1
  refine ⟨_, h2, .inl ⟨rfl, xs, .of h4⟩, ?_⟩
  refine hh ρ B W σ σc H g _ hW R (PstS.bind p fun x g1 v H1 _ e1 k1 q1 p => ?_)
  have R1 := R.ext e1 k1
  have h6 := e1 _ _ h4 (fun z => R.wb w hw (R.rb _ z))
  cases x with
  | lst m =>
    obtain ⟨b, ys, rfl, hb, hk⟩ := q1
    have p : PstS (ct X ρ B) W H1 Wk md (if l.length + m.length ≤ sizeLine then .next (σ.set w.1 (some (.lst (l ++ m)))) g1 else .stuck) (jD D J) E := p
    by_cases hl : l.length + m.length ≤ sizeLine
    · rw [if_pos hl] at p
      refine ⟨w.2, b, xs, ys, rfl, rfl, h6, hb.2, by rw [← h5.length, ← hk.length]; exact hl, ?_⟩
      exact p W σc _ hW (upd_w hw) (.refl _ _) (new_lst R1 hw (RepL.append (RepL.ext (c := (ct X ρ B).ban W) e1 (Ct.ban_R R.rb) h5) hk)) j
    · rw [if_neg hl] at p; exact p.elim
  | _ => exact p.elim
/-- x[k] = e -/
def dPut (i : Nat) (dk d : Den) : DenS := fun σ g => onLst i σ fun l => (d σ g).bindS fun p g => (dk σ g).bindS fun q g => match q with
  | .int k => (match ixN l.length k with | some j => .next (σ.set i (some (.lst (l.set j p)))) g | none => .stuck)
  | _ => .stuck
theorem ss_put (i : Nat) {x : Str} {e ek : Expr} {px spos pos : Pos} {d dk : Den} (h : SE X (WE0 E) Wk .rep e d) (hk : SE X (WE0 E) Wk .brw ek dk) (hi : i ∈ Wk := by decide) (hN : X.N[i]? = some x := by rfl) (hv : Vis X.env.scope x := by first | exact Or.inl rfl | exact Or.inr (Or.inl rfl) | exact Or.inr (Or.inr rfl)) (hd : (x == ("__debug__" : Str)) = false := by decide)
    (hcd : (x == ("__classdict__" : Str)) = false := by decide)
    (ha : ∀ v, assign (.Subscript (.Name x px) ek spos) X.env v = (do
      let ov ← holding [v] (eval (.Name x px) X.env)
      let iv ← holding [v, ov] (eval ek X.env)
      standAt spos
      holding [v, ov, iv] (setItem ov iv v)
      release [v, ov, iv] []) := by intro _; rfl)
    (hs : swapsWithSole [.Subscript (.Name x px) ek spos] e pos.line X.env = pure false := by rfl) (hw' : swappedStores [.Subscript (.Name x px) ek spos] e X.env = pure none := by rfl)
    (h1 : (assignEach [.Subscript (.Name x px) ek spos] X.env).map (·.2) = [assign (.Subscript (.Name x px) ek spos) X.env] := by rfl) :
    SS X E fz Wk Wk md (.Assign [.Subscript (.Name x px) ek spos] e pos) (dPut i dk d) := by
  obtain ⟨t, ht, hh⟩ := h
  obtain ⟨tk, htk, hhk⟩ := hk
  refine ⟨_, ps_asg ht (pg_sub (pe_var hN hv hd hcd) htk set_list ha) hs hw' h1, fun ρ B W σ σc H g D J hW R jc j p => ?_⟩
  rw [← hW] at hi
  obtain ⟨w, hw, rfl⟩ := List.mem_map.mp hi
  obtain ⟨l, h1, p⟩ := onLst_cases p
  obtain ⟨xs, h2, h4, h5⟩ := own_lst R hw h1
  refine hh ρ B W σ σc H g _ hW R (PstS.bind p fun x g1 v H1 _ e1 k1 q1 p => ?_)
  have R1 := R.ext e1 k1
  have h6 := e1 _ _ h4 (fun z => R.wb w hw (R.rb _ z))
  refine ⟨_, h2, ?_⟩
  refine hhk ρ B W σ σc H1 g1 _ hW R1 (PstS.bind p fun y g2 u H2 _ e2 k2 q2 p => ?_)
  have R2 := R1.ext e2 k2
  have h7 := e2 _ _ h6 (fun z => R.wb w hw (R.rb _ z))
  cases y with
  | int k =>
    have p : PstS (ct X ρ B) W H2 Wk md (match ixN l.length k with | some j => .next (σ.set w.1 (some (.lst (l.set j x)))) g2 | none => .stuck) (jD D J) E := p
    cases ej : ixN l.length k with
    | none => rw [ej] at p; exact p.elim
    | some jx =>
      rw [ej] at p
      refine ⟨w.2, xs, k, jx, rfl, q2.int, h7, by rw [← h5.length]; exact ej, ?_⟩
      exact p W σc _ hW (upd_w hw) (.refl _ _) (new_lst R2 hw (RepL.set (Rep.ext (c := (ct X ρ B).ban W) e2 (Ct.ban_R R.rb) q1) jx (RepL.ext (c := (ct X ρ B).ban W) e2 (Ct.ban_R R.rb) (RepL.ext (c := (ct X ρ B).ban W) e1 (Ct.ban_R R.rb) h5)))) j
  | _ => exact p.elim
end
end Tr

namespace Tr
open PySem PySem.Spec PyProof.Rows L2

/-! ### what is walked -/
def Stay (c : Ct) (H0 H : Hp) : Prop := ∀ b o, H0 b = some o → ¬ c.B b → H b = some o
mutual
theorem Rep.later {c : Ct} {B' : Addr → Prop} {H0 H : Hp} (s : Stay c H0 H) (k : ∀ b, B' b → c.B b ∨ H0 b = none) : ∀ {p : PV} {v : V}, Rep c H0 p v → Rep { c with B := B' } H p v
  | .non, _, h => h
  | .bl _, _, h => h
  | .int _, _, h => h
  | .str _, _, h => h
  | .tup l, _, ⟨a, xs, h1, h2, h3⟩ => ⟨a, xs, h1, h2.elim (fun h => .inl ⟨fun z => (k _ z).elim h.1 (some_ne h.2), s _ _ h.2 h.1⟩) .inr, RepL.later s k h3⟩
  | .lst l, _, ⟨a, xs, h1, h2, h3⟩ => ⟨a, xs, h1, ⟨fun z => (k _ z).elim h2.1 (some_ne h2.2), s _ _ h2.2 h2.1⟩, RepL.later s k h3⟩
  | .dct ks ps, _, ⟨a, vs, h1, h2, h3, h4, h5⟩ => ⟨a, vs, h1, fun z => (k _ z).elim h2 (some_ne h3), s _ _ h3 h2, h4, RepL.later s k h5⟩
  | .ins x ns ps, _, ⟨a, C, dx, vs, h1, h2, h3, h4, h5, h6⟩ => ⟨a, C, dx, vs, h1, fun z => (k _ z).elim h2 (some_ne h4), h3, s _ _ h4 h2, h5, RepL.later s k h6⟩
  | .rng, _, h => h
theorem RepL.later {c : Ct} {B' : Addr → Prop} {H0 H : Hp} (s : Stay c H0 H) (k : ∀ b, B' b → c.B b ∨ H0 b = none) : ∀ {ps : List PV} {vs : List V}, RepL c H0 ps vs → RepL { c with B := B' } H ps vs
  | [], _, h => h
  | p :: ps, _, ⟨v, r, h1, h2, h3⟩ => ⟨v, r, h1, Rep.later s k h2, RepL.later s k h3⟩
end
structure Walks (c : Ct) (H0 : Hp) (J : It) (items : List PV) : Prop where
  go : ∀ H i, Stay c H0 H → i < items.length → J.go i H
  yld : ∀ H i x H' (B' : Addr → Prop), Stay c H0 H → i < items.length → J.yld i H x H' → (∀ b, B' b → H b ≠ none) → (∀ b, B' b → c.B b ∨ H0 b = none) → Same H H' ∧ ∃ p, items[i]? = some p ∧ Rep { c with B := B' } H' p x
  stop : ∀ H i, Stay c H0 H → items.length ≤ i → J.stop i H
def PstI (c : Ct) (W : Wn) (H : Hp) (r : Res (List PV)) (R : It → Hp → Prop) (E : XK) : Prop :=
  match r with
  | .ok items g => ∀ J H', Ext c H H' → RgOk c H' g → Walks (c.ban W) H' J items → R J H'
  | .exc k ns ps g => ∀ cls d H', Ext c H H' → RgOk c H' g → RepX (c.ban W) H' k ns ps cls d → E cls d H'
  | .stuck => False
def SI (X : Cx) (Wx : WX) (Wk : List Nat) (tg iter : Expr) (d : DenL) : Prop :=
  ∃ wi, PI X tg iter wi ∧ ∀ (ρ : Option (Addr × Addr)) (B : Addr → Prop) (W : Wn) (σ : Sl) (σc : L2.St) (H : Hp) (g : Rg) (R : It → Hp → Prop), W.map (·.1) = Wk →
    Rel (ct X ρ B) W σ σc H g → PstI (ct X ρ B) W H (d σ g) R (fun cls dd H' => Wx cls dd σc H') → wi σc H R
theorem PstI.from {c : Ct} {W : Wn} {H H1 : Hp} {r : Res (List PV)} {R : It → Hp → Prop} {E : XK} (e : Ext c H H1) (h : PstI c W H r R E) : PstI c W H1 r R E := by
  cases r with
  | ok p g' => exact fun J H' e' k' q => h J H' (e.trans e') k' q
  | exc a b cc d => exact fun cls d H' e' k' q => h cls d H' (e.trans e') k' q
  | stuck => exact h
theorem PstI.bind {c : Ct} {W : Wn} {H : Hp} {m1 : Md} {r : Res PV} {f : PV → Rg → Res (List PV)} {R : It → Hp → Prop} {Q1 : VK} {E : XK} (h : PstI c W H (r.bind f) R E)
    (k : ∀ p g1 v H1, r = .ok p g1 → Ext c H H1 → RgOk c H1 g1 → Val (c.ban W) H H1 p v m1 → PstI c W H1 (f p g1) R E → Q1 v H1) : Pst c W H m1 r Q1 E := by
  cases r with
  | ok p g1 => exact fun v H1 e k1 q => k p g1 v H1 rfl e k1 q (PstI.from e h)
  | exc a b cc d => exact h
  | stuck => exact h
theorem PstI.bindL {c : Ct} {W : Wn} {H : Hp} {m1 : Md} {n1 : Nat} {r : Res (List PV)} {f : List PV → Rg → Res (List PV)} {R : It → Hp → Prop} {Q1 : List V → Hp → Prop} {E : XK} (h : PstI c W H (r.bind f) R E)
    (k : ∀ p g1 v H1, r = .ok p g1 → Ext c H H1 → RgOk c H1 g1 → ValL (c.ban W) H1 p v m1 → p.length = n1 → PstI c W H1 (f p g1) R E → Q1 v H1) : PstL c W H m1 n1 r Q1 E := by
  cases r with
  | ok p g1 => exact fun v H1 e k1 q l => k p g1 v H1 rfl e k1 q l (PstI.from e h)
  | exc a b cc d => exact h
  | stuck => exact h
/-- the items of a list -/
theorem RepL.at {c : Ct} {H : Hp} {l : List PV} {xs : List V} (k : RepL c H l xs) {i : Nat} (hi : i < l.length) : ∃ p v, l[i]? = some p ∧ xs[i]? = some v ∧ Rep c H p v := by
  obtain ⟨v, e, r⟩ := k.get (List.getElem?_eq_getElem hi)
  exact ⟨_, v, List.getElem?_eq_getElem hi, e, r⟩
theorem walks_list {c : Ct} {H : Hp} {K : PySem.W.Frag} {a : Addr} {l : List PV} {xs : List V} (h : LAt c H a xs) (k : RepL c H l xs) : Walks c H (Itl K a) l where
  go := fun H' i s hi => by
    obtain ⟨p, v, e1, e2, r⟩ := k.at hi
    exact ⟨xs, v, .of (s _ _ h.2 h.1), e2⟩
  yld := fun H' i x H2 B' s hi y hd hb => by
    obtain ⟨rfl, y⟩ := y
    obtain ⟨p, v, e1, e2, r⟩ := k.at hi
    have := y xs (.of (s _ _ h.2 h.1))
    rw [e2] at this; cases this
    exact ⟨.refl _, p, e1, r.later s hb⟩
  stop := fun H' i s hi => ⟨xs, .of (s _ _ h.2 h.1), by rw [← k.length]; exact hi⟩
theorem tat_stay {c : Ct} {H H' : Hp} {a : Addr} {xs : List V} (h : TAt c H a xs) (s : Stay c H H') : SqT c.K H' a xs := h.elim (fun h => .of (s _ _ h.2 h.1)) False.elim
theorem walks_tup {c : Ct} {H : Hp} {a : Addr} {l : List PV} {xs : List V} (h : TAt c H a xs) (k : RepL c H l xs) : Walks c H (Itt c.K a) l where
  go := fun H' i s hi => by
    obtain ⟨p, v, e1, e2, r⟩ := k.at hi
    exact ⟨xs, v, tat_stay h s, e2⟩
  yld := fun H' i x H2 B' s hi y hd hb => by
    obtain ⟨rfl, y⟩ := y
    obtain ⟨p, v, e1, e2, r⟩ := k.at hi
    have := y xs (tat_stay h s)
    rw [e2] at this; cases this
    exact ⟨.refl _, p, e1, r.later s hb⟩
  stop := fun H' i s hi => ⟨xs, tat_stay h s, by rw [← k.length]; exact hi⟩
def rngP (lo : Int) (n : Nat) : List PV := (List.range n).map fun i => .int (lo + (i : Nat))
theorem walks_range {c : Ct} {H : Hp} {lo : Int} {n : Nat} : Walks c H (Itr lo n) (rngP lo n) where
  go := fun H' i s hi => show i < n by simpa [rngP] using hi
  yld := fun H' i x H2 B' s hi y hd hb => by
    obtain ⟨rfl, rfl⟩ := y
    have hi : i < n := by simpa [rngP] using hi
    exact ⟨.refl _, .int (lo + i), by simp [rngP, hi], rfl⟩
  stop := fun H' i s hi => show n ≤ i by simpa [rngP] using hi
def enumP (l : List PV) : List PV := l.mapIdx fun i p => .tup [.int (i : Nat), p]
theorem walks_enum {c : Ct} {H : Hp} {K : PySem.W.Frag} {a : Addr} {l : List PV} {xs : List V} (h : LAt c H a xs) (k : RepL c H l xs) : Walks c H (Ite K a) (enumP l) where
  go := fun H' i s hi => by
    obtain ⟨p, v, e1, e2, r⟩ := k.at (by simpa [enumP] using hi)
    exact ⟨xs, v, .of (s _ _ h.2 h.1), e2⟩
  yld := fun H' i x H2 B' s hi y hd hb => by
    obtain ⟨T, z, rfl, hT, rfl, y⟩ := y
    obtain ⟨p, v, e1, e2, r⟩ := k.at (show i < l.length by simpa [enumP] using hi)
    have := y xs (.of (s _ _ h.2 h.1))
    rw [e2] at this; cases this
    refine ⟨same_new hT, .tup [.int (i : Nat), p], by simp [enumP, e1], T, _, rfl, .inl ⟨fun z => hd _ z hT, upd_same⟩, _, _, rfl, rfl, _, _, rfl, ?_, rfl⟩
    exact repSame (same_new hT) (r.later s hb)
  stop := fun H' i s hi => ⟨xs, .of (s _ _ h.2 h.1), by rw [← k.length]; simpa [enumP] using hi⟩
def zipP (l m : List PV) : List PV := (l.zip m).map fun q => .tup [q.1, q.2]
theorem walks_zip {c : Ct} {H : Hp} {K : PySem.W.Frag} {a b : Addr} {l m : List PV} {xs ys : List V} (h : LAt c H a xs) (k : RepL c H l xs) (h' : LAt c H b ys) (k' : RepL c H m ys) : Walks c H (Itz K a b) (zipP l m) where
  go := fun H' i s hi => by
    have hi : i < l.length ∧ i < m.length := by simp [zipP, List.length_zip] at hi; omega
    obtain ⟨p, v, e1, e2, r⟩ := k.at hi.1
    obtain ⟨p', v', e1', e2', r'⟩ := k'.at hi.2
    exact ⟨xs, ys, v, v', .of (s _ _ h.2 h.1), .of (s _ _ h'.2 h'.1), e2, e2'⟩
  yld := fun H' i x H2 B' s hi y hd hb => by
    obtain ⟨T, z, z', rfl, hT, rfl, y, y'⟩ := y
    have hi : i < l.length ∧ i < m.length := by simp [zipP, List.length_zip] at hi; omega
    obtain ⟨p, v, e1, e2, r⟩ := k.at hi.1
    obtain ⟨p', v', e1', e2', r'⟩ := k'.at hi.2
    have := y xs (.of (s _ _ h.2 h.1))
    rw [e2] at this; cases this
    have := y' ys (.of (s _ _ h'.2 h'.1))
    rw [e2'] at this; cases this
    refine ⟨same_new hT, .tup [p, p'], ?_, T, _, rfl, .inl ⟨fun z => hd _ z hT, upd_same⟩, _, _, rfl, repSame (same_new hT) (r.later s hb), _, _, rfl, repSame (same_new hT) (r'.later s hb), rfl⟩
    simp only [zipP, List.getElem?_map]
    rw [List.getElem?_zip_eq_some (z := (p, p')) |>.mpr ⟨e1, e1'⟩]
    rfl
  stop := fun H' i s hi => ⟨xs, ys, .of (s _ _ h.2 h.1), .of (s _ _ h'.2 h'.1), by
    rw [← k.length, ← k'.length]
    simp [zipP, List.length_zip] at hi
    omega⟩
section
variable {X : Cx} {Wx : WX} {Wk : List Nat} {tg : Expr}
def dItL (d : Den) : DenL := fun σ g => (d σ g).bind fun p g => match p with | .lst l => .ok l g | _ => .stuck
def dItT (d : Den) : DenL := fun σ g => (d σ g).bind fun p g => match p with | .tup l => .ok l g | _ => .stuck
theorem si_list {e : Expr} {d : Den} (h : SE X Wx Wk .rep e d) : SI X Wx Wk tg e (dItL d) := by
  obtain ⟨t, ht, hs⟩ := h
  refine ⟨_, pi_list ht, fun ρ B W σ σc H g R hW Rl p => ?_⟩
  refine hs ρ B W σ σc H g _ hW Rl (PstI.bind p fun x g1 v H1 _ e1 k1 q1 p => ?_)
  cases x with
  | lst l =>
    obtain ⟨a, xs, rfl, h1, k⟩ := q1
    exact ⟨a, rfl, ⟨xs, h1.sq⟩, p _ H1 (Ext.refl _ _) k1 (walks_list (c := (ct X ρ B).ban W) h1 k)⟩
  | _ => exact p.elim
theorem si_tup {e : Expr} {d : Den} (h : SE X Wx Wk .rep e d) : SI X Wx Wk tg e (dItT d) := by
  obtain ⟨t, ht, hs⟩ := h
  refine ⟨_, pi_tup ht, fun ρ B W σ σc H g R hW Rl p => ?_⟩
  refine hs ρ B W σ σc H g _ hW Rl (PstI.bind p fun x g1 v H1 _ e1 k1 q1 p => ?_)
  cases x with
  | tup l =>
    obtain ⟨a, xs, rfl, h1, k⟩ := q1
    exact ⟨a, rfl, ⟨xs, h1.sq⟩, p _ H1 (Ext.refl _ _) k1 (walks_tup (c := (ct X ρ B).ban W) h1 k)⟩
  | _ => exact p.elim
theorem or_pi {e : Expr} {t u : TI} (h : PI X tg e t) (h' : PI X tg e u) : PI X tg e (fun σ H Q => t σ H Q ∨ u σ H Q) := ⟨fun pins s σ H Q I q => q.elim (h.run pins s σ H Q I) (h'.run pins s σ H Q I)⟩
/-- a list or a tuple -/
def dIt (d : Den) : DenL := fun σ g => (d σ g).bind fun p g => match p with | .lst l => .ok l g | .tup l => .ok l g | _ => .stuck
theorem si_seq {e : Expr} {d : Den} (h : SE X Wx Wk .rep e d) : SI X Wx Wk tg e (dIt d) := by
  obtain ⟨t1, h1, s1⟩ := si_list (tg := tg) h
  obtain ⟨t2, h2, s2⟩ := si_tup (tg := tg) h
  refine ⟨_, or_pi h1 h2, fun ρ B W σ σc H g R hW Rl p => ?_⟩
  by_cases ht : ∃ l g1, d σ g = .ok (.tup l) g1
  · obtain ⟨l, g1, ht⟩ := ht
    refine .inr (s2 ρ B W σ σc H g R hW Rl ?_)
    have e : dItT d σ g = dIt d σ g := by unfold dItT dIt; rw [ht]; rfl
    rw [e]; exact p
  · refine .inl (s1 ρ B W σ σc H g R hW Rl ?_)
    have e : dItL d σ g = dIt d σ g := by
      unfold dItL dIt
      cases hd : d σ g with
      | ok x g1 =>
        cases x with
        | tup l => exact absurd ⟨l, g1, hd⟩ ht
        | _ => rfl
      | exc _ _ _ _ => rfl
      | stuck => rfl
    rw [e]; exact p
def dRng1 (d : DenL) : DenL := fun σ g => (d σ g).bind fun ps g => match ps with
  | [.int j] => if j ≤ 1000 ∧ -1000 ≤ j then .ok (rngP 0 j.toNat) g else .stuck
  | _ => .stuck
theorem si_range1 {a : Expr} {d : DenL} {p pos : Pos} (hm : X.mg "range" = none) (ha : SA X Wx Wk .brw [a] d) (hg : Gl X "range" := by rfl) (hs : starEach [a] X.env = [(false, eval a X.env)] := by rfl) : SI X Wx Wk tg (.Call (.Name "range" p) [a] [] pos) (dRng1 d) := by
  obtain ⟨t, ht, hh⟩ := ha
  refine ⟨_, pi_range1 hg hm ht hs, fun ρ B W σ σc H g R hW Rl p => ?_⟩
  refine hh ρ B W σ σc H g _ hW Rl (PstI.bindL p fun ps g1 vs H1 _ e1 k1 q1 l p => ?_)
  cases ps with
  | nil => exact p.elim
  | cons x r =>
    cases r with
    | cons _ _ => cases x <;> exact p.elim
    | nil =>
      cases x with
      | int j =>
        have p : PstI (ct X ρ B) W H1 (if j ≤ 1000 ∧ -1000 ≤ j then .ok (rngP 0 j.toNat) g1 else .stuck) R _ := p
        by_cases hj : j ≤ 1000 ∧ -1000 ≤ j
        · rw [if_pos hj] at p
          obtain ⟨v, rfl, q⟩ := RepLB.one q1
          exact ⟨j, by rw [q.int], by omega, by omega, p _ H1 (Ext.refl _ _) k1 walks_range⟩
        · rw [if_neg hj] at p; exact p.elim
      | _ => exact p.elim
def dRng2 (d : DenL) : DenL := fun σ g => (d σ g).bind fun ps g => match ps with
  | [.int i, .int j] => if i ≤ 1000 ∧ -1000 ≤ i ∧ j ≤ 1000 ∧ -1000 ≤ j then .ok (rngP i (j - i).toNat) g else .stuck
  | _ => .stuck
theorem si_range2 {a b : Expr} {d : DenL} {p pos : Pos} (hm : X.mg "range" = none) (ha : SA X Wx Wk .brw [a, b] d) (hg : Gl X "range" := by rfl) (hs : starEach [a, b] X.env = [(false, eval a X.env), (false, eval b X.env)] := by rfl) (hs2 : starEach [b] X.env = [(false, eval b X.env)] := by rfl) : SI X Wx Wk tg (.Call (.Name "range" p) [a, b] [] pos) (dRng2 d) := by
  obtain ⟨t, ht, hh⟩ := ha
  refine ⟨_, pi_range2 hg hm ht hs hs2, fun ρ B W σ σc H g R hW Rl p => ?_⟩
  refine hh ρ B W σ σc H g _ hW Rl (PstI.bindL p fun ps g1 vs H1 _ e1 k1 q1 l p => ?_)
  by_cases hp : ∃ i j, ps = [.int i, .int j]
  · obtain ⟨i, j, rfl⟩ := hp
    have p : PstI (ct X ρ B) W H1 (if i ≤ 1000 ∧ -1000 ≤ i ∧ j ≤ 1000 ∧ -1000 ≤ j then .ok (rngP i (j - i).toNat) g1 else .stuck) R _ := p
    by_cases hj : i ≤ 1000 ∧ -1000 ≤ i ∧ j ≤ 1000 ∧ -1000 ≤ j
    · rw [if_pos hj] at p
      obtain ⟨v, u, rfl, q, q'⟩ := RepLB.two q1
      exact ⟨i, j, by rw [q.int, q'.int], ⟨by omega, by omega, by omega, by omega⟩, p _ H1 (Ext.refl _ _) k1 walks_range⟩
    · rw [if_neg hj] at p; exact p.elim
  · exfalso
    split at p
    · exact hp ⟨_, _, rfl⟩
    · exact p.elim
def dEnum (d : DenL) : DenL := fun σ g => (d σ g).bind fun ps g => match ps with
  | [.lst l] => .ok (enumP l) g
  | _ => .stuck
theorem si_enum {e : Expr} {elts : List Expr} {kk} {tpos p pos : Pos} {d : DenL} (hm : X.mg "enumerate" = none) (ha : SA X Wx Wk .rep [e] d) (hg : Gl X "enumerate" := by rfl) (hs : starEach [e] X.env = [(false, eval e X.env)] := by rfl) :
    SI X Wx Wk (.Tuple elts kk tpos) (.Call (.Name "enumerate" p) [e] [] pos) (dEnum d) := by
  obtain ⟨t, ht, hh⟩ := ha
  refine ⟨_, pi_enum hg hm ht hs, fun ρ B W σ σc H g R hW Rl p => ?_⟩
  refine hh ρ B W σ σc H g _ hW Rl (PstI.bindL p fun ps g1 vs H1 _ e1 k1 q1 l p => ?_)
  by_cases hp : ∃ l, ps = [.lst l]
  · obtain ⟨l, rfl⟩ := hp
    obtain ⟨v, r, rfl, ⟨a, xs, rfl, h1, k⟩, h2⟩ := q1
    have h2 : r = [] := h2
    subst h2
    exact ⟨a, xs, rfl, h1.sq, p _ H1 (Ext.refl _ _) k1 (walks_enum (c := (ct X ρ B).ban W) h1 k)⟩
  · exfalso
    split at p
    · exact hp ⟨_, rfl⟩
    · exact p.elim
def dZip (d : DenL) : DenL := fun σ g => (d σ g).bind fun ps g => match ps with
  | [.lst l, .lst m] => .ok (zipP l m) g
  | _ => .stuck
theorem si_zip {e e2 : Expr} {elts : List Expr} {kk} {tpos p pos : Pos} {d : DenL} (hm : X.mg "zip" = none) (ha : SA X Wx Wk .rep [e, e2] d) (hg : Gl X "zip" := by rfl) (hs : starEach [e, e2] X.env = (false, eval e X.env) :: starEach [e2] X.env := by rfl) (hpl : (backTo pos (starEach [e2] X.env)).any (·.1) = false := by rfl) :
    SI X Wx Wk (.Tuple elts kk tpos) (.Call (.Name "zip" p) [e, e2] [] pos) (dZip d) := by
  obtain ⟨t, ht, hh⟩ := ha
  refine ⟨_, pi_zip hg hm ht hs hpl, fun ρ B W σ σc H g R hW Rl p => ?_⟩
  refine hh ρ B W σ σc H g _ hW Rl (PstI.bindL p fun ps g1 vs H1 _ e1 k1 q1 l p => ?_)
  by_cases hp : ∃ l m, ps = [.lst l, .lst m]
  · obtain ⟨l, m, rfl⟩ := hp
    obtain ⟨v, r, rfl, ⟨a, xs, rfl, h1, k⟩, v', r', rfl, ⟨b, ys, rfl, h1', k'⟩, h2⟩ := q1
    have h2 : r' = [] := h2
    subst h2
    exact ⟨a, b, xs, ys, rfl, h1.sq, h1'.sq, p _ H1 (Ext.refl _ _) k1 (walks_zip (c := (ct X ρ B).ban W) h1 k h1' k')⟩
  · exfalso
    split at p
    · exact hp ⟨_, _, rfl⟩
    · exact p.elim
end
end Tr

namespace Tr
open PySem PySem.Spec PyProof.Rows L2

section
variable {X : Cx} {E : XK} {fz Wk Wk' Wk1 : List Nat} {md : Md}
/-! ### for -/
def loopS (gd : DenG) (body : DenS) : List PV → Sl → Rg → SRes
  | [], σ, g => .next σ g
  | p :: r, σ, g => match gd p σ with
    | some σ1 => (match body σ1 g with
      | .next σ2 g2 => loopS gd body r σ2 g2
      | x => x)
    | none => .stuck
def dFor (di : DenL) (gd : DenG) (body : DenS) : DenS := fun σ g => (di σ g).bindS fun items g => loopS gd body items σ g
theorem PstS.bindI {c : Ct} {W : Wn} {H : Hp} {Wk' : List Nat} {md : Md} {r : Res (List PV)} {f : List PV → Rg → SRes} {D : Ends} {R : It → Hp → Prop} {E : XK} (h : PstS c W H Wk' md (r.bindS f) D E)
    (k : ∀ p g1 J H1, r = .ok p g1 → Ext c H H1 → RgOk c H1 g1 → Walks (c.ban W) H1 J p → PstS c W H1 Wk' md (f p g1) D E → R J H1) : PstI c W H r R E := by
  cases r with
  | ok p g1 => exact fun J H1 e k1 q => k p g1 J H1 rfl e k1 q (PstS.from e.w k1 (fun b hb => .inl hb) h)
  | exc a b cc d => exact fun cls dd H' e k1 q => h cls dd H' e.w k1 q.unban
  | stuck => exact h
theorem ss_for {tg iter : Expr} {body : List Stmt} {pos : Pos} {di : DenL} {gd : DenG} {db : DenS} {gs : List Nat} (hp : PassesOwn (model X.prog X.w) X.A X.env X.xe) (hc : X.calm = true) (hi : SI X (WE0 E) Wk tg iter di) (hg : SG X Wk gs tg gd) (hb : SSs X E fz Wk Wk md body db)
    (hz : ∀ i ∈ fz, i ∉ gs := by decide) (hs : ∀ x, foldedSetIterable iter X.env x = pure x := by intro _; rfl) : SS X E fz Wk Wk md (.For tg iter body [] pos) (dFor di gd db) := by
  obtain ⟨wi, hwi, hdi⟩ := hi
  obtain ⟨t, ht, hh⟩ := hg
  obtain ⟨tb, htb, hhb⟩ := hb
  refine ⟨_, ps_for hp hc hwi ht htb hs, fun ρ B W0 σ0 σc0 H0 g0 D J' hW0 R0 jc j0 p => ?_⟩
  refine hdi ρ B W0 σ0 σc0 H0 g0 _ hW0 R0 (PstS.bindI p fun items g1 J H1 _ e1 k1 wk p => ?_)
  have R1 := R0.ext e1 k1
  refine ⟨fun i m σc H => m = items.length - i ∧ i ≤ items.length ∧ J' σc ∧ ∃ W σ g, W.map (·.1) = Wk ∧ Rel (ct X ρ B) W σ σc H g ∧ ExtW (ct X ρ B) W0 H1 H ∧ NewW W0 H1 W ∧ PstS (ct X ρ B) W H Wk md (loopS gd db (items.drop i) σ g) (jD D J') E,
    ⟨items.length, by simp, Nat.zero_le _, j0, W0, σ0, g1, hW0, R1, (Ext.refl _ _).w, .refl _ _, by simpa using p⟩, ?_⟩
  rintro i m σc H ⟨rfl, hi, j, W, σ, g, hW, R, ex, nw, p⟩
  have stay : Stay ((ct X ρ B).ban W0) H1 H := fun b o h n => ex b o h (fun z => n (.inl (R0.rb _ z))) fun z => n (.inr z)
  by_cases hlt : i < items.length
  · refine .inr ⟨wk.go H i stay hlt, fun σ' H' => ∃ m', m' < items.length - i ∧ (m' = items.length - (i + 1) ∧ i + 1 ≤ items.length ∧ J' σ' ∧ ∃ W σ g, W.map (·.1) = Wk ∧ Rel (ct X ρ B) W σ σ' H' g ∧ ExtW (ct X ρ B) W0 H1 H' ∧ NewW W0 H1 W ∧ PstS (ct X ρ B) W H' Wk md (loopS gd db (items.drop (i + 1)) σ g) (jD D J') E), fun σ' H' h => h, fun x H' y => ?_⟩
    obtain ⟨sm, q, eq, rq⟩ := wk.yld H i x H' ((ct X ρ B).ban W).B stay hlt y R.wdom (fun b hb => hb.elim (fun z => .inl (.inl z)) fun z => (nw b z).elim (fun z => .inl (.inr z)) .inr)
    have R' := R.ext (Ext.of sm) (R.rg.same sm)
    have ed : items.drop i = q :: items.drop (i + 1) := by
      rw [List.drop_eq_getElem_cons hlt]
      rw [List.getElem?_eq_getElem hlt] at eq
      cases eq
      rfl
    rw [ed] at p
    have p : PstS (ct X ρ B) W H Wk md (match gd q σ with | some σ1 => (match db σ1 g with | .next σ2 g2 => loopS gd db (items.drop (i + 1)) σ2 g2 | x => x) | none => .stuck) (jD D J') E := p
    cases eg : gd q σ with
    | none => rw [eg] at p; exact p.elim
    | some σ1 =>
      rw [eg] at p
      have p : PstS (ct X ρ B) W H Wk md (match db σ1 g with | .next σ2 g2 => loopS gd db (items.drop (i + 1)) σ2 g2 | x => x) (jD D J') E := p
      have p := PstS.from (W1 := W) (Ext.of sm).w R'.rg (.refl _ _) p
      refine hh ρ B W σ σ1 σc H' g q x _ hW R' rq eg fun σc1 R1' ag => ?_
      refine hhb ρ B W σ1 σc1 H' g _ J' hW R1' jc (jc.agree ag hz j) ?_
      cases eb : db σ1 g with
      | next σ2 g2 =>
        rw [eb] at p
        intro W2 σc2 H2 hW2 e2 n2 R2 j2
        have ex' : ExtW (ct X ρ B) W0 H1 H' := fun b o h n1 n2 => sm _ _ (ex b o h n1 n2)
        have nw' : NewW W0 H1 W := nw
        refine ⟨items.length - (i + 1), by omega, rfl, hlt, j2, W2, σ2, g2, hW2, R2, ex'.trans nw' e2, NewW.trans ex' R'.rg nw' n2, ?_⟩
        exact PstS.from e2 R2.rg n2 p
      | ret _ _ => rw [eb] at p; exact p
      | exc _ _ _ _ => rw [eb] at p; exact p
      | stuck => rw [eb] at p; exact p
  · have e : i = items.length := by omega
    subst e
    refine .inl ⟨wk.stop H _ stay (Nat.le_refl _), ?_⟩
    rw [List.drop_length] at p
    exact p W σc H hW (Ext.refl _ _).w (.refl _ _) R j
/-! ### while -/
def whileS (c : DenT) (body : DenS) : Nat → Sl → Rg → SRes
  | 0, _, _ => .stuck
  | n + 1, σ, g => (c σ g).bindS fun t g => if t = true then (match body σ g with
    | .next σ2 g2 => whileS c body n σ2 g2
    | x => x) else .next σ g
def dWhile (n : Nat) (c : DenT) (body : DenS) : DenS := fun σ g => whileS c body n σ g
theorem ss_while {n : Nat} {c : Expr} {body : List Stmt} {pos : Pos} {dc : DenT} {db : DenS} (hp : PassesOwn (model X.prog X.w) X.A X.env X.xe) (hc : ST X (WE0 E) Wk c dc) (hb : SSs X E fz Wk Wk md body db) : SS X E fz Wk Wk md (.While c body [] pos) (dWhile n dc db) := by
  obtain ⟨t, ht, hh⟩ := hc
  obtain ⟨tb, htb, hhb⟩ := hb
  refine ⟨_, ps_while hp ht htb, fun ρ B W0 σ0 σc0 H0 g0 D J hW0 R0 jc j0 p => ?_⟩
  refine ⟨fun m σc H => J σc ∧ ∃ W σ g, W.map (·.1) = Wk ∧ Rel (ct X ρ B) W σ σc H g ∧ PstS (ct X ρ B) W H Wk md (whileS dc db m σ g) (jD D J) E, ⟨n, j0, W0, σ0, g0, hW0, R0, p⟩, ?_⟩
  rintro m σc H ⟨j, W, σ, g, hW, R, p⟩
  cases m with
  | zero => exact p.elim
  | succ m =>
    refine hh ρ B W σ σc H g _ hW R (PstS.bindT p fun b g1 H1 _ e1 k1 p => ?_)
    have R1 := R.ext e1 k1
    cases b with
    | false => exact p W σc H1 hW (Ext.refl _ _).w (.refl _ _) R1 j
    | true =>
      refine ⟨fun σ' H' => ∃ m', m' < m + 1 ∧ J σ' ∧ ∃ W σ g, W.map (·.1) = Wk ∧ Rel (ct X ρ B) W σ σ' H' g ∧ PstS (ct X ρ B) W H' Wk md (whileS dc db m' σ g) (jD D J) E, fun σ' H' h => h, ?_⟩
      refine hhb ρ B W σ σc H1 g1 _ J hW R1 jc j ?_
      have p : PstS (ct X ρ B) W H1 Wk md (match db σ g1 with | .next σ2 g2 => whileS dc db m σ2 g2 | x => x) (jD D J) E := p
      cases eb : db σ g1 with
      | next σ2 g2 =>
        rw [eb] at p
        intro W2 σc2 H2 hW2 e2 n2 R2 j2
        exact ⟨m, Nat.lt_succ_self m, j2, W2, σ2, g2, hW2, R2, PstS.from e2 R2.rg n2 p⟩
      | ret _ _ => rw [eb] at p; exact p
      | exc _ _ _ _ => rw [eb] at p; exact p
      | stuck => rw [eb] at p; exact p
end
/-! ### comprehensions -/
def wipeP (σ : Sl) : List Nat → Sl
  | [] => σ
  | v :: vs => (wipeP σ vs).set v none
theorem wipeP_len (σ : Sl) : ∀ vs, (wipeP σ vs).length = σ.length
  | [] => rfl
  | v :: vs => by unfold wipeP; rw [List.length_set, wipeP_len σ vs]
theorem wipeP_some {σ : Sl} {i : Nat} {p : PV} : ∀ {vs : List Nat}, (wipeP σ vs)[i]? = some (some p) → σ[i]? = some (some p) ∧ i ∉ vs
  | [], h => ⟨h, by simp⟩
  | v :: vs, h => by
    unfold wipeP at h
    by_cases hi : v = i
    · subst hi
      by_cases hv : v < (wipeP σ vs).length
      · rw [List.getElem?_set_self hv] at h; cases h
      · rw [List.getElem?_eq_none (by simpa using hv)] at h; cases h
    · rw [List.getElem?_set_ne hi] at h
      obtain ⟨h1, h2⟩ := wipeP_some h
      exact ⟨h1, by simp only [List.mem_cons, not_or]; exact ⟨fun e => hi e.symm, h2⟩⟩
theorem wipe_keep {σ : L2.St} {i : Nat} : ∀ {vs : List Nat}, i ∉ vs → (wipe σ vs)[i]? = σ[i]?
  | [], _ => rfl
  | v :: vs, h => by
    simp only [List.mem_cons, not_or] at h
    unfold wipe
    rw [List.getElem?_set_ne (fun e => h.1 e.symm)]
    exact wipe_keep h.2
theorem wipeP_keep {σ : Sl} {i : Nat} : ∀ {vs : List Nat}, i ∉ vs → (wipeP σ vs)[i]? = σ[i]?
  | [], _ => rfl
  | v :: vs, h => by
    simp only [List.mem_cons, not_or] at h
    unfold wipeP
    rw [List.getElem?_set_ne (fun e => h.1 e.symm)]
    exact wipeP_keep h.2
theorem wipe_none {σ : L2.St} {i : Nat} (hi : i < σ.length) : ∀ {vs : List Nat}, i ∈ vs → (wipe σ vs)[i]? = some none
  | [], h => by cases h
  | v :: vs, h => by
    unfold wipe
    by_cases hv : v = i
    · subst hv; rw [List.getElem?_set_self (by rw [wipe_length]; exact hi)]
    · rw [List.getElem?_set_ne hv]
      exact wipe_none hi ((List.mem_cons.mp h).resolve_left fun e => hv e.symm)
theorem wipe_eq {σ σ' : L2.St} {vs : List Nat} (hl : σ'.length = σ.length) (h : ∀ j, j ∉ vs → σ'[j]? = σ[j]?) : wipe σ' vs = wipe σ vs := by
  refine List.ext_getElem? fun j => ?_
  by_cases hj : j ∈ vs
  · by_cases hs : j < σ.length
    · rw [wipe_none hs hj, wipe_none (by rw [hl]; exact hs) hj]
    · rw [List.getElem?_eq_none (by rw [wipe_length]; omega), List.getElem?_eq_none (by rw [wipe_length]; omega)]
  · rw [wipe_keep hj, wipe_keep hj]; exact h j hj
theorem Rel.wipe {c : Ct} {W : Wn} {σ : Sl} {σc : L2.St} {H : Hp} {g : Rg} {vs : List Nat} (r : Rel c W σ σc H g) (hv : ∀ i ∈ vs, i ∉ W.map (·.1)) : Rel c W (wipeP σ vs) (wipe σc vs) H g where
  len := by rw [wipeP_len, wipe_length]; exact r.len
  rg := r.rg
  rb := r.rb
  dom := r.dom
  ndk := r.ndk
  nda := r.nda
  wb := r.wb
  val := fun i p h n => by
    obtain ⟨h1, h2⟩ := wipeP_some h
    obtain ⟨v, h3, h4⟩ := r.val i p h1 n
    exact ⟨v, by rw [wipe_keep h2]; exact h3, h4⟩
  own := fun w hw => by
    have hn : w.1 ∉ vs := fun z => hv _ z (List.mem_map.mpr ⟨w, hw, rfl⟩)
    obtain ⟨q, h1, h2, h3⟩ := r.own w hw
    exact ⟨q, by rw [wipeP_keep hn]; exact h1, by rw [wipe_keep hn]; exact h2, h3⟩
/-- one more address is banned, a new one -/
theorem Rel.ban1 {c : Ct} {W : Wn} {σ : Sl} {σc : L2.St} {H : Hp} {g : Rg} {D : Addr} {o : HO} (r : Rel c W σ σc H g) (hD : H D = none) : Rel (c.ban1 D) W σ σc (L2.upd H D o) g := by
  have s := same_new (o := o) hD
  have r' := r.ext (Ext.of s) (r.rg.same s)
  have bn : ∀ b, ((c.ban1 D).ban W).B b → (c.ban W).B b ∨ H b = none := fun b hb => by
    rcases hb with (hb | hb) | hb
    · exact .inl (.inl hb)
    · exact .inr (by rw [hb]; exact hD)
    · exact .inl (.inr hb)
  refine ⟨r.len, r'.rg, fun b hb => .inl (r.rb b hb), fun b hb => ?_, r.ndk, r.nda, fun w hw z => ?_, fun i p h n => ?_, fun w hw => ?_⟩
  · rcases hb with hb | hb
    · exact r'.dom b hb
    · rw [hb, upd_same]; exact fun z => nomatch z
  · rcases z with z | z
    · exact r.wb w hw z
    · exact r.wdom w.2 (.inr (List.mem_map.mpr ⟨w, hw, rfl⟩)) (by rw [z]; exact hD)
  · obtain ⟨v, h1, h2⟩ := r.val i p h n
    exact ⟨v, h1, repSame (c := (c.ban1 D).ban W) s (Rep.ban (c := c.ban W) bn h2)⟩
  · obtain ⟨q, h1, h2, h3⟩ := r.own w hw
    exact ⟨q, h1, h2, ownSame (c := (c.ban1 D).ban W) s (Own.ban (c := c.ban W) bn h3)⟩
/-- a banned object, not owned here, is changed -/
theorem Rel.updB {c : Ct} {W : Wn} {σ : Sl} {σc : L2.St} {H : Hp} {g : Rg} {D : Addr} {o : HO} (r : Rel c W σ σc H g) (hD : c.B D) (hR : ¬ c.R D) : Rel c W σ σc (L2.upd H D o) g := by
  have aw : ∀ b u, H b = some u → ¬ (c.ban W).B b → L2.upd H D o b = some u := fun b u hb n => by
    rw [upd_ne (fun e => n (by rw [e]; exact .inl hD))]; exact hb
  refine ⟨r.len, fun q hq => ?_, r.rb, fun b hb => ?_, r.ndk, r.nda, r.wb, fun i p h n => ?_, fun w hw => ?_⟩
  · obtain ⟨h1, h2, h3, h4⟩ := r.rg q hq
    refine ⟨h1, h2, ?_, ?_⟩
    · rw [upd_ne (fun e => hR ⟨q, hq, .inl e.symm⟩)]; exact h3
    · rw [upd_ne (fun e => hR ⟨q, hq, .inr e.symm⟩)]; exact h4
  · by_cases e : b = D
    · rw [e, upd_same]; exact fun z => nomatch z
    · rw [upd_ne e]; exact r.dom b hb
  · obtain ⟨v, h1, h2⟩ := r.val i p h n
    exact ⟨v, h1, Rep.away (c := c.ban W) aw h2⟩
  · obtain ⟨q, h1, h2, h3⟩ := r.own w hw
    refine ⟨q, h1, h2, Own.away (c := c.ban W) aw (upd_ne fun e => r.wb w hw (by rw [e]; exact hD)) h3⟩
/-- the tests of a comprehension -/
def STs (X : Cx) (Wx : WX) (Wk : List Nat) (es : List Expr) (d : DenT) : Prop :=
  ∃ t, PTs X es t ∧ ∀ (ρ : Option (Addr × Addr)) (B : Addr → Prop) (W : Wn) (σ : Sl) (σc : L2.St) (H : Hp) (g : Rg) (Q : Bool → Hp → Prop), W.map (·.1) = Wk →
    Rel (ct X ρ B) W σ σc H g → PstT (ct X ρ B) H W (d σ g) Q (fun cls dd H' => Wx cls dd σc H') → t σc H Q
def dYes : DenT := fun _ g => .ok true g
theorem sts_nil {X : Cx} {Wx : WX} {Wk : List Nat} : STs X Wx Wk [] dYes := ⟨_, pts_nil, fun ρ B W σ σc H g Q hW R p => p H (Ext.refl _ _) R.rg⟩
theorem sts_one {X : Cx} {Wx : WX} {Wk : List Nat} {e : Expr} {d : DenT} (h : ST X Wx Wk e d) : STs X Wx Wk [e] d := by
  obtain ⟨t, ht, hs⟩ := h
  exact ⟨t, pts_one ht, hs⟩
def compL (gd : DenG) (dt : DenT) (de : Den) (σ : Sl) : List PV → Rg → Res (List PV)
  | [], g => .ok [] g
  | p :: r, g => match gd p σ with
    | some σ1 => (noX (dt σ1 g)).bind fun b g1 => if b = true then (noX (de σ1 g1)).bind fun q g2 => (compL gd dt de σ r g2).bind fun qs g3 => .ok (q :: qs) g3
      else compL gd dt de σ r g1
    | none => .stuck
def dComp (di : DenL) (vs : List Nat) (gd : DenG) (dt : DenT) (de : Den) : Den := fun σ g => (di σ g).bind fun items g => if items.length ≤ sizeLine then (compL gd dt de (wipeP σ vs) items g).bind fun qs g => .ok (.lst qs) g else .stuck
/-- the wish that nothing is raised -/
abbrev Wx0 : WX := fun _ _ _ _ => False
theorem Pst.noX {c : Ct} {W : Wn} {H : Hp} {md : Md} {r : Res PV} {Q : VK} {E : XK} (h : Pst c W H md (noX r) Q E) : Pst c W H md r Q E0 := by
  cases r with
  | ok p g => exact h
  | exc a b cc d => exact h.elim
  | stuck => exact h
theorem PstT.noX {c : Ct} {W : Wn} {H : Hp} {r : Res Bool} {Q : Bool → Hp → Prop} {E : XK} (h : PstT c H W (noX r) Q E) : PstT c H W r Q E0 := by
  cases r with
  | ok p g => exact h
  | exc a b cc d => exact h.elim
  | stuck => exact h
section
variable {X : Cx} {E : XK} {Wx : WX} {fz Wk Wk' Wk1 : List Nat} {md : Md}
/-- the reading of a comprehension -/
theorem lc_read {vs gs : List Nat} {wi : TI} {tt : TT} {te : TE} {tg' : TG} {di : DenL} {gd : DenG} {dt : DenT} {de : Den} {ρ : Option (Addr × Addr)} {B : Addr → Prop} {W : Wn} {σ : Sl} {σc : L2.St} {H : Hp} {g : Rg} {Q : VK}
    (hdi : ∀ (ρ : Option (Addr × Addr)) (B : Addr → Prop) (W : Wn) (σ : Sl) (σc : L2.St) (H : Hp) (g : Rg) (R : It → Hp → Prop), W.map (·.1) = Wk → Rel (ct X ρ B) W σ σc H g → PstI (ct X ρ B) W H (di σ g) R (fun cls dd H' => Wx cls dd σc H') → wi σc H R)
    (hg : ∀ (ρ : Option (Addr × Addr)) (B : Addr → Prop) (W : Wn) (σ σ' : Sl) (σc : L2.St) (H : Hp) (g : Rg) (p : PV) (v : V) (Q : L2.St → Hp → Prop), W.map (·.1) = Wk → Rel (ct X ρ B) W σ σc H g → Rep ((ct X ρ B).ban W) H p v → gd p σ = some σ' → (∀ σc', Rel (ct X ρ B) W σ' σc' H g → Agree gs σc σc' → Q σc' H) → tg' v σc H Q)
    (ht : ∀ (ρ : Option (Addr × Addr)) (B : Addr → Prop) (W : Wn) (σ : Sl) (σc : L2.St) (H : Hp) (g : Rg) (Q : Bool → Hp → Prop), W.map (·.1) = Wk → Rel (ct X ρ B) W σ σc H g → PstT (ct X ρ B) H W (dt σ g) Q E0 → tt σc H Q)
    (he : ∀ (ρ : Option (Addr × Addr)) (B : Addr → Prop) (W : Wn) (σ : Sl) (σc : L2.St) (H : Hp) (g : Rg) (Q : VK), W.map (·.1) = Wk → Rel (ct X ρ B) W σ σc H g → Pst (ct X ρ B) W H .rep (de σ g) Q E0 → te σc H Q)
    (hgs : ∀ j ∈ gs, j ∈ vs) (hvs : ∀ j ∈ vs, j ∉ Wk) (hW : W.map (·.1) = Wk) (R : Rel (ct X ρ B) W σ σc H g)
    (p : Pst (ct X ρ B) W H .frs (dComp di vs gd dt de σ g) Q (fun cls dd H' => Wx cls dd σc H')) : tLc wi tg' tt te vs σc H Q := by
  have p : Pst (ct X ρ B) W H .frs ((di σ g).bind fun items g => if items.length ≤ sizeLine then (compL gd dt de (wipeP σ vs) items g).bind fun qs g => .ok (.lst qs) g else .stuck) Q (fun cls dd H' => Wx cls dd σc H') := p
  have key : PstI (ct X ρ B) W H (di σ g) (fun J H1 => ∀ D, H1 D = none → ∃ W : Nat → Nat → Hp → Prop, (∃ m, W 0 m (upd H1 D (.lst []))) ∧ ∀ i m H, W i m H →
      (J.stop i H ∧ Q (.ref D) H) ∨ (J.go i H ∧ ∃ Nx : Hp → Prop, (∀ H', Nx H' → ∃ m', m' < m ∧ W (i + 1) m' H') ∧ ∀ x H', J.yld i H x H' → tg' x (wipe σc vs) H' fun σ2 H2 => wipe σ2 vs = wipe σc vs ∧ tt σ2 H2 fun b H3 =>
        if b = true then te σ2 H3 fun y H4 => ∃ acc, H4 D = some (.lst acc) ∧ acc.length < sizeLine ∧ Nx (upd H4 D (.lst (acc ++ [y]))) else Nx H3)) (fun cls dd H' => Wx cls dd σc H') := by
    cases hdd : di σ g with
    | stuck => rw [hdd] at p; exact p
    | exc k ns ps g' => rw [hdd] at p; exact p
    | ok items g1 =>
      rw [hdd] at p
      intro J H1 e1 k1 wk D hD
      have p : Pst (ct X ρ B) W H .frs (if items.length ≤ sizeLine then (compL gd dt de (wipeP σ vs) items g1).bind fun qs g => .ok (.lst qs) g else .stuck) Q (fun cls dd H' => Wx cls dd σc H') := p
      by_cases hsz : items.length ≤ sizeLine
      · rw [if_pos hsz] at p
        have R1 := (R.ext e1 k1).ban1 (o := .lst []) hD
        have RD : ¬ (ct X ρ B).R D := fun z => R1.dom D (.inl (R.rb _ z)) (by
          have := (R.ext e1 k1).dom D (R.rb _ z)
          exact absurd hD this)
        have bD : ((ct X ρ B).ban1 D).B D := .inr rfl
        have hDH : H D = none := by
          cases q : H D with
          | none => rfl
          | some o => exact absurd hD (dom_ext e1 k1 (by rw [q]; exact fun z => nomatch z))
        refine ⟨fun i m H' => m = items.length - i ∧ i ≤ items.length ∧ ∃ g' ps acc, Rel ((ct X ρ B).ban1 D) W σ σc H' g' ∧ (∀ b o, H1 b = some o → ¬ (ct X ρ B).R b → H' b = some o) ∧ H' D = some (.lst acc) ∧ ps.length ≤ i ∧ RepL (((ct X ρ B).ban1 D).ban W) H' ps acc ∧
          Pst (ct X ρ B) W H .frs ((compL gd dt de (wipeP σ vs) (items.drop i) g').bind fun qs g => .ok (.lst (ps ++ qs)) g) Q (fun cls dd H' => Wx cls dd σc H'),
          ⟨items.length, by simp, Nat.zero_le _, g1, [], [], R1, fun b o h n => same_new hD _ _ h, upd_same, Nat.le_refl _, rfl, by simpa using p⟩, ?_⟩
        rintro i m H' ⟨rfl, hi, g', ps, acc, R', ex, hDa, hps, ra, p⟩
        have stay : Stay ((ct X ρ B).ban W) H1 H' := fun b o h n => ex b o h fun z => n (.inl (R.rb _ z))
        by_cases hlt : i < items.length
        · refine .inr ⟨wk.go H' i stay hlt, fun H'' => ∃ m', m' < items.length - i ∧ m' = items.length - (i + 1) ∧ i + 1 ≤ items.length ∧ ∃ g' ps acc, Rel ((ct X ρ B).ban1 D) W σ σc H'' g' ∧ (∀ b o, H1 b = some o → ¬ (ct X ρ B).R b → H'' b = some o) ∧ H'' D = some (.lst acc) ∧ ps.length ≤ i + 1 ∧ RepL (((ct X ρ B).ban1 D).ban W) H'' ps acc ∧
            Pst (ct X ρ B) W H .frs ((compL gd dt de (wipeP σ vs) (items.drop (i + 1)) g').bind fun qs g => .ok (.lst (ps ++ qs)) g) Q (fun cls dd H' => Wx cls dd σc H'), fun H'' h => h, fun x H2 y => ?_⟩
          obtain ⟨sm, q, eq, rq⟩ := wk.yld H' i x H2 (((ct X ρ B).ban1 D).ban W).B stay hlt y R'.wdom (fun b hb => by
            rcases hb with (hb | hb) | hb
            · exact .inl (.inl hb)
            · exact .inr (by rw [hb]; exact hD)
            · exact .inl (.inr hb))
          have R2 := (R'.ext (Ext.of sm) (R'.rg.same sm)).wipe (vs := vs) (by rw [hW]; exact hvs)
          have ed : items.drop i = q :: items.drop (i + 1) := by
            rw [List.drop_eq_getElem_cons hlt]
            rw [List.getElem?_eq_getElem hlt] at eq
            cases eq
            rfl
          rw [ed] at p
          simp only [compL] at p
          cases eg : gd q (wipeP σ vs) with
          | none => simp only [eg] at p; exact p.elim
          | some σ1 =>
            simp only [eg] at p
            refine hg ρ ((ct X ρ B).ban1 D).B W (wipeP σ vs) σ1 (wipe σc vs) H2 g' q x _ hW R2 rq eg fun σc1 R3 ag => ?_
            refine ⟨?_, ?_⟩
            · have e2 : wipe (wipe σc vs) vs = wipe σc vs := wipe_eq (wipe_length _ _) fun j hj => wipe_keep hj
              rw [← e2]
              exact wipe_eq ag.1 fun j hj => ag.2 j fun z => hj (hgs j z)
            · refine ht ρ ((ct X ρ B).ban1 D).B W σ1 σc1 H2 g' _ hW R3 ?_
              cases et : dt σ1 g' with
              | stuck => simp only [et, noX] at p; exact p.elim
              | exc _ _ _ _ => simp only [et, noX] at p; exact p.elim
              | ok b g2 =>
                simp only [et, noX, Res.bind_ok] at p
                intro H3 e3 k3
                have ex3 : ∀ b o, H' b = some o → ¬ (ct X ρ B).R b → H3 b = some o := fun b o h n => e3 b o (sm b o h) n
                have R4 := R'.ext (c := (ct X ρ B).ban1 D) ex3 k3
                cases b with
                | false =>
                  have p : Pst (ct X ρ B) W H .frs ((compL gd dt de (wipeP σ vs) (items.drop (i + 1)) g2).bind fun qs g => .ok (.lst (ps ++ qs)) g) Q (fun cls dd H' => Wx cls dd σc H') := by simpa using p
                  exact ⟨items.length - (i + 1), by omega, rfl, hlt, g2, ps, acc, R4, fun b o h n => ex3 b o (ex b o h n) n, ex3 _ _ hDa RD, by omega, RepL.ext (c := ((ct X ρ B).ban1 D).ban W) ex3 (fun b hb => .inl (.inl (R.rb b hb))) ra, p⟩
                | true =>
                  have R5 := R3.ext e3 k3
                  refine he ρ ((ct X ρ B).ban1 D).B W σ1 σc1 H3 g2 _ hW R5 ?_
                  cases ev : de σ1 g2 with
                  | stuck => simp [ev, noX] at p; exact p.elim
                  | exc _ _ _ _ => simp [ev, noX] at p; exact p.elim
                  | ok y g3 =>
                    intro v H4 e4 k4 rv
                    have ex4 : ∀ b o, H' b = some o → ¬ (ct X ρ B).R b → H4 b = some o := fun b o h n => e4 b o (ex3 b o h n) n
                    have hD4 := ex4 _ _ hDa RD
                    have p : Pst (ct X ρ B) W H .frs ((compL gd dt de (wipeP σ vs) (items.drop (i + 1)) g3).bind fun qs g => .ok (.lst ((ps ++ [y]) ++ qs)) g) Q (fun cls dd H' => Wx cls dd σc H') := by
                      simp only [ev, noX, Res.bind_ok, if_pos] at p
                      cases ec : compL gd dt de (wipeP σ vs) (items.drop (i + 1)) g3 with
                      | ok qs g4 => simp only [ec, Res.bind_ok] at p ⊢; simpa using p
                      | exc _ _ _ _ => simp only [ec, Res.bind_exc] at p ⊢; exact p
                      | stuck => simp only [ec, Res.bind_stuck] at p ⊢; exact p
                    have hal : acc.length = ps.length := ra.length.symm
                    refine ⟨acc, hD4, by omega, items.length - (i + 1), by omega, rfl, hlt, g3, ps ++ [y], acc ++ [v], ?_, ?_, upd_same, by simp; omega, ?_, p⟩
                    · exact (R'.ext (c := (ct X ρ B).ban1 D) ex4 k4).updB bD RD
                    · intro b o h n
                      rw [upd_ne (ne_of_none h hD)]
                      exact ex4 b o (ex b o h n) n
                    · have aw : ∀ b u, H4 b = some u → ¬ (((ct X ρ B).ban1 D).ban W).B b → upd H4 D (.lst (acc ++ [v])) b = some u := fun b u hb n => by
                        rw [upd_ne (fun e => n (by rw [e]; exact .inl (.inr rfl)))]; exact hb
                      exact RepL.append (RepL.away (c := ((ct X ρ B).ban1 D).ban W) aw (RepL.ext (c := ((ct X ρ B).ban1 D).ban W) ex4 (fun b hb => .inl (.inl (R.rb b hb))) ra)) ⟨v, [], rfl, Rep.away (c := ((ct X ρ B).ban1 D).ban W) aw rv, rfl⟩
        · have e : i = items.length := by omega
          subst e
          refine .inl ⟨wk.stop H' _ stay (Nat.le_refl _), ?_⟩
          rw [List.drop_length] at p
          have p : Pst (ct X ρ B) W H .frs (.ok (.lst ps) g') Q (fun cls dd H' => Wx cls dd σc H') := by simpa [compL] using p
          refine p (.ref D) H' (fun b o h n => ex b o (e1 b o h n) n) R'.rg ⟨D, rfl, hDH, acc, hDa, ?_⟩
          exact RepL.ban (c := ((ct X ρ B).ban1 D).ban W) (fun b hb => .inl (by
            rcases hb with (hb | hb) | hb
            · exact .inl (.inl hb)
            · exact .inr hb
            · exact .inl (.inr hb))) ra
      · rw [if_neg hsz] at p; exact p.elim
  exact hdi ρ B W σ σc H g _ hW R key
/-- the widest readings -/
def tE (K : PySem.W.Frag) (mg : Str → Option Value) (Wx : WX) (Wk : List Nat) (md : Md) (d : Den) : TE := fun σc H Q => ∃ (ρ : Option (Addr × Addr)) (B : Addr → Prop) (W : Wn) (σ : Sl) (g : Rg), W.map (·.1) = Wk ∧ Rel ⟨K, mg, ρ, B⟩ W σ σc H g ∧ Pst ⟨K, mg, ρ, B⟩ W H md (d σ g) Q (fun cls dd H' => Wx cls dd σc H')
def tTs (K : PySem.W.Frag) (mg : Str → Option Value) (Wx : WX) (Wk : List Nat) (d : DenT) : TT := fun σc H Q => ∃ (ρ : Option (Addr × Addr)) (B : Addr → Prop) (W : Wn) (σ : Sl) (g : Rg), W.map (·.1) = Wk ∧ Rel ⟨K, mg, ρ, B⟩ W σ σc H g ∧ PstT ⟨K, mg, ρ, B⟩ H W (d σ g) Q (fun cls dd H' => Wx cls dd σc H')
def tGt (K : PySem.W.Frag) (mg : Str → Option Value) (Wk gs : List Nat) (gd : DenG) : TG := fun v σc H Q => ∃ (ρ : Option (Addr × Addr)) (B : Addr → Prop) (W : Wn) (σ σ' : Sl) (g : Rg) (p : PV), W.map (·.1) = Wk ∧ Rel ⟨K, mg, ρ, B⟩ W σ σc H g ∧ Rep (Ct.ban ⟨K, mg, ρ, B⟩ W) H p v ∧ gd p σ = some σ' ∧
  (∀ σc', Rel ⟨K, mg, ρ, B⟩ W σ' σc' H g → Agree gs σc σc' → Q σc' H)
theorem SE.pe {e : Expr} {d : Den} (h : SE X Wx Wk md e d) : PE X e (tE X.K X.mg Wx Wk md d) := by
  obtain ⟨t, ht, hs⟩ := h
  refine ⟨fun pins s σ H Q I q => ht.run pins s σ H Q I ?_⟩
  obtain ⟨ρ, B, W, σ', g, hW, R, p⟩ := q
  exact hs ρ B W σ' σ H g Q hW R p
theorem STs.pe {es : List Expr} {d : DenT} (h : STs X Wx Wk es d) : PTs X es (tTs X.K X.mg Wx Wk d) := by
  obtain ⟨t, ht, hs⟩ := h
  refine ⟨fun pins s σ H Q I q => ht.run pins s σ H Q I ?_⟩
  obtain ⟨ρ, B, W, σ', g, hW, R, p⟩ := q
  exact hs ρ B W σ' σ H g Q hW R p
theorem SG.pe {tg : Expr} {gs : List Nat} {gd : DenG} (h : SG X Wk gs tg gd) : PG X tg (tGt X.K X.mg Wk gs gd) := by
  obtain ⟨t, ht, hs⟩ := h
  refine ⟨fun pins s σ H v u Q I r q => ht.run pins s σ H v u Q I r ?_⟩
  obtain ⟨ρ, B, W, σ1, σ2, g, p, hW, R, rp, eg, k⟩ := q
  exact hs ρ B W σ1 σ2 σ H g p v Q hW R rp eg k
/-- a comprehension's block -/
abbrev Blk (X : Cx) (scope : Scope) (s : Shared) (H : Hp) (C : Addr) (cl : List (Str × Addr)) (fp : List Addr) : Cx := X.blk s H scope (compEnvC scope cl C X.env) fp
theorem se_lc {tg iter elt : Expr} {ifs : List Expr} {scope : Scope} {own : List (Str × Nat)} {pos : Pos} {gs : List Nat} {di : DenL} {gd : DenG} {dt : DenT} {de : Den} (hc : X.calm = true) (hN : X.N.Nodup) (ok : BlkOk X.N X.env.scope scope own) (hi : SI X Wx Wk tg iter di)
    (hg : ∀ s H C cl fp, SG (Blk X scope s H C cl fp) Wk gs tg gd) (ht : ∀ s H C cl fp, STs (Blk X scope s H C cl fp) Wx0 Wk ifs dt) (he : ∀ s H C cl fp, SE (Blk X scope s H C cl fp) Wx0 Wk .rep elt de)
    (hgs : ∀ j ∈ gs, j ∈ own.map (·.2) := by decide) (hvs : ∀ j ∈ own.map (·.2), j ∉ Wk := by decide) (hs : ∀ x, foldedSetIterable iter X.env x = pure x := by intro _; rfl) :
    SE X Wx Wk .frs (.ListComp elt [⟨tg, iter, ifs, 0⟩] scope pos) (dComp di (own.map (·.2)) gd dt de) := by
  obtain ⟨wi, hwi, hdi⟩ := hi
  refine ⟨_, pe_lc (g := tGt X.K X.mg Wk gs gd) (tt := tTs X.K X.mg Wx0 Wk dt) (te := tE X.K X.mg Wx0 Wk .rep de) hc hN hwi ok (fun s H C cl fp => (hg s H C cl fp).pe) (fun s H C cl fp => (ht s H C cl fp).pe) (fun s H C cl fp => (he s H C cl fp).pe) hs, fun ρ B W σ σc H g Q hW R p => ?_⟩
  exact lc_read hdi (fun ρ B W σ σ' σc H g p v Q hW R rp eg k => ⟨ρ, B, W, σ, σ', g, p, hW, R, rp, eg, k⟩) (fun ρ B W σ σc H g Q hW R p => ⟨ρ, B, W, σ, g, hW, R, p⟩) (fun ρ B W σ σc H g Q hW R p => ⟨ρ, B, W, σ, g, hW, R, p⟩) hgs hvs hW R p
/-- name = [..] -/
theorem ss_setLc (i : Nat) {y : Str} {py : Pos} {tg iter elt : Expr} {ifs : List Expr} {scope : Scope} {own : List (Str × Nat)} {pos spos : Pos} {gs : List Nat} {di : DenL} {gd : DenG} {dt : DenT} {de : Den} (hc : X.calm = true) (hN : X.N.Nodup) (ok : BlkOk X.N X.env.scope scope own) (hi : SI X (WE0 E) Wk tg iter di)
    (hg : ∀ s H C cl fp, SG (Blk X scope s H C cl fp) Wk gs tg gd) (ht : ∀ s H C cl fp, STs (Blk X scope s H C cl fp) Wx0 Wk ifs dt) (he : ∀ s H C cl fp, SE (Blk X scope s H C cl fp) Wx0 Wk .rep elt de)
    (hsw : swapsWith (.ListComp elt [⟨tg, iter, ifs, 0⟩] scope pos) (some (.Name y py)) spos.line X.env = pure true)
    (hgs : ∀ j ∈ gs, j ∈ own.map (·.2) := by decide) (hvs : ∀ j ∈ own.map (·.2), j ∉ Wk := by decide) (hw : i ∉ Wk := by decide) (hz : i ∉ fz := by decide) (hy : X.N[i]? = some y := by rfl) (hyl : X.env.scope.names.lookup y = some .local := by rfl) (hs : ∀ x, foldedSetIterable iter X.env x = pure x := by intro _; rfl) :
    SS X E fz Wk Wk md (.Assign [.Name y py] (.ListComp elt [⟨tg, iter, ifs, 0⟩] scope pos) spos) (dSet i (dComp di (own.map (·.2)) gd dt de)) := by
  obtain ⟨wi, hwi, hdi⟩ := hi
  refine ⟨_, ps_setLc (g := tGt X.K X.mg Wk gs gd) (tt := tTs X.K X.mg Wx0 Wk dt) (te := tE X.K X.mg Wx0 Wk .rep de) hc hN hy hyl hsw hwi ok (fun s H C cl fp => (hg s H C cl fp).pe) (fun s H C cl fp => (ht s H C cl fp).pe) (fun s H C cl fp => (he s H C cl fp).pe) hs, fun ρ B W σ σc H g D J hW R jc j p => ?_⟩
  refine lc_read (Wx := WE0 E) hdi (fun ρ B W σ σ' σc H g p v Q hW R rp eg k => ⟨ρ, B, W, σ, σ', g, p, hW, R, rp, eg, k⟩) (fun ρ B W σ σc H g Q hW R p => ⟨ρ, B, W, σ, g, hW, R, p⟩) (fun ρ B W σ σc H g Q hW R p => ⟨ρ, B, W, σ, g, hW, R, p⟩) hgs hvs hW R ?_
  refine PstS.bind p fun x g1 v H1 _ e1 k1 q1 p => ?_
  exact p W _ H1 hW (Ext.refl _ _).w (.refl _ _) ((R.ext e1 k1).set (by rw [hW]; exact hw) (q1.rep_of_frs R.wdom)) (jc.set hz j)
theorem ss_setLcW (i : Nat) {y : Str} {py : Pos} {tg iter elt : Expr} {ifs : List Expr} {scope : Scope} {own : List (Str × Nat)} {pos spos : Pos} {gs : List Nat} {di : DenL} {gd : DenG} {dt : DenT} {de : Den} (hc : X.calm = true) (hN : X.N.Nodup) (ok : BlkOk X.N X.env.scope scope own) (hi : SI X (WE0 E) Wk tg iter di)
    (hg : ∀ s H C cl fp, SG (Blk X scope s H C cl fp) Wk gs tg gd) (ht : ∀ s H C cl fp, STs (Blk X scope s H C cl fp) Wx0 Wk ifs dt) (he : ∀ s H C cl fp, SE (Blk X scope s H C cl fp) Wx0 Wk .rep elt de)
    (hsw : swapsWith (.ListComp elt [⟨tg, iter, ifs, 0⟩] scope pos) (some (.Name y py)) spos.line X.env = pure true)
    (hgs : ∀ j ∈ gs, j ∈ own.map (·.2) := by decide) (hvs : ∀ j ∈ own.map (·.2), j ∉ Wk := by decide) (hw : i ∉ Wk := by decide) (hz : i ∉ fz := by decide) (hy : X.N[i]? = some y := by rfl) (hyl : X.env.scope.names.lookup y = some .local := by rfl) (hs : ∀ x, foldedSetIterable iter X.env x = pure x := by intro _; rfl) :
    SS X E fz Wk (i :: Wk) md (.Assign [.Name y py] (.ListComp elt [⟨tg, iter, ifs, 0⟩] scope pos) spos) (dSetW i (dComp di (own.map (·.2)) gd dt de)) := by
  obtain ⟨wi, hwi, hdi⟩ := hi
  refine ⟨_, ps_setLc (g := tGt X.K X.mg Wk gs gd) (tt := tTs X.K X.mg Wx0 Wk dt) (te := tE X.K X.mg Wx0 Wk .rep de) hc hN hy hyl hsw hwi ok (fun s H C cl fp => (hg s H C cl fp).pe) (fun s H C cl fp => (ht s H C cl fp).pe) (fun s H C cl fp => (he s H C cl fp).pe) hs, fun ρ B W σ σc H g D J hW R jc j p => ?_⟩
  exact lc_read (Wx := WE0 E) hdi (fun ρ B W σ σ' σc H g p v Q hW R rp eg k => ⟨ρ, B, W, σ, σ', g, p, hW, R, rp, eg, k⟩) (fun ρ B W σ σc H g Q hW R p => ⟨ρ, B, W, σ, g, hW, R, p⟩) (fun ρ B W σ σc H g Q hW R p => ⟨ρ, B, W, σ, g, hW, R, p⟩) hgs hvs hW R (setW_post jc hz j hW hw R p)
end
end Tr

namespace Tr
open PySem PySem.Spec PyProof.Rows L2

/-! ### a def from its body -/
def startP (n : Nat) (ps : List PV) : Sl := ps.map some ++ List.replicate (n - ps.length) none
def toRes : Md → SRes → Res PV
  | .frs, .next _ _ => .stuck
  | _, .next _ g => .ok .non g
  | _, .ret p g => .ok p g
  | _, .exc k ns ps g => .exc k ns ps g
  | _, .stuck => .stuck
/-- the def: n names, its body -/
def dDef (n : Nat) (md : Md) (d : DenS) : DDen := fun ps g => toRes md (d (startP n ps) g)
theorem start_at {N : List Str} {vs : List V} {i : Nat} {v : V} (h : vs[i]? = some v) : (L2.start N vs)[i]? = some (some v) := by
  unfold L2.start
  have hi : i < vs.length := (List.getElem?_eq_some_iff.mp h).1
  rw [List.getElem?_append_left (by simpa using hi)]
  simp [h]
theorem startP_some {n : Nat} {ps : List PV} {i : Nat} {p : PV} (h : (startP n ps)[i]? = some (some p)) : ps[i]? = some p := by
  unfold startP at h
  by_cases hi : i < ps.length
  · rw [List.getElem?_append_left (by simpa using hi)] at h
    simpa using h
  · rw [List.getElem?_append_right (by simp; omega)] at h
    rw [List.getElem?_replicate] at h
    split at h <;> simp at h
theorem start_len {N : List Str} {vs : List V} {n : Nat} {ps : List PV} (hn : N.length = n) (h : ps.length = vs.length) : (startP n ps).length = (L2.start N vs).length := by
  unfold startP L2.start
  simp [h, hn]
theorem ban_nil {c : Ct} : ∀ b, (c.ban []).B b → c.B b := fun b h => h.elim id fun z => by cases z
theorem rel_start {c : Ct} {N : List Str} {vs : List V} {n : Nat} {ps : List PV} {H : Hp} {g : Rg} (S : Start c H g) (r : RepL c H ps vs) (hn : N.length = n) : Rel c [] (startP n ps) (L2.start N vs) H g where
  len := start_len hn r.length
  rg := S.rg
  rb := S.rb
  dom := S.dom
  ndk := .nil
  nda := .nil
  wb := fun _ h => by cases h
  val := fun i p h _ => by
    obtain ⟨v, h1, h2⟩ := r.get (startP_some h)
    exact ⟨v, start_at h1, Rep.ban (fun b h => .inl (ban_nil b h)) h2⟩
  own := fun _ h => by cases h
section
variable {P : Program} {w : World} {K : PySem.W.Frag} {mg : Str → Option Value} {base : Heap}
theorem fnOk_of {x qual : Str} {st : Stmt} {f : Addr} {fd : FuncData} {N ps : List Str} {k n : Nat} {md : Md} {d : DenS} (F : Fun K x qual st f fd) (S : FnScope N ps (defScope st)) (hn : N.length = n)
    (hbody : ∀ (cdv : Value) (A : Around) (outer : List Env) (s : Shared) (H : Hp) (E : XK), Room k (A.deeper (envOfC qual (defScope st) s.heap.objs.size f cdv)) →
      ∃ Wk', SSs (cxOf (L2.CX P w) P w K mg base N qual (defScope st) f cdv A outer s H E) E [] [] Wk' md (defBody st) d) :
    FnOk P w K mg base (L2.CX P w) (k + 1) f fd ps (spD K mg ps.length md (dDef n md d)) := by
  refine F.okX S (fun vs H Q E h => h.1) fun cdv A outer s H vs Q E hr h => ?_
  obtain ⟨hl, ρ, B, qs, g, St, rp, p⟩ := h
  obtain ⟨Wk', t, ht, hs⟩ := hbody cdv A outer s H E hr
  refine ⟨t, ht, ?_⟩
  have R := rel_start (N := N) St rp hn
  refine hs ρ B [] (startP n qs) (L2.start N vs) H g _ (fun _ => True) rfl R (fun _ _ _ _ _ => trivial) trivial ?_
  have p : PstD ⟨K, mg, ρ, B⟩ H md (toRes md (d (startP n qs) g)) Q E := p
  have ew : ∀ {H'}, ExtW ⟨K, mg, ρ, B⟩ [] H H' → Ext ⟨K, mg, ρ, B⟩ H H' := fun e b o h n => e b o h n (by simp)
  cases hd : d (startP n qs) g with
  | next σ' g' =>
    rw [hd] at p
    intro W' σc' H' hW e nw R' _
    cases md with
    | frs => exact p.elim
    | rep => exact p .non H' (ew e) R'.rg rfl
    | brw => exact p .non H' (ew e) R'.rg (.inl rfl)
  | ret q g' =>
    rw [hd] at p
    intro v H' e k hv
    cases md with
    | frs =>
      obtain ⟨a, rfl, hn', ho, nb⟩ := hv
      exact p _ H' (ew e) k ⟨a, rfl, hn'.resolve_right (by simp), ho⟩
    | rep => exact p v H' (ew e) k hv
    | brw => exact p v H' (ew e) k (.inl hv)
  | exc kk ns ps' g' =>
    rw [hd] at p
    intro cls dd H' e k q
    cases md <;> exact p cls dd H' (ew e) k q
  | stuck =>
    rw [hd] at p
    cases md <;> exact p.elim
theorem fok_of {x qual : Str} {st : Stmt} {f : Addr} {fd : FuncData} {N ps : List Str} {k n m : Nat} {md : Md} {d : DenS} (F : Fun K x qual st f fd) (hm : mg x = some (.ref f)) (hb : Binds K fd ps []) (S : FnScope N ps (defScope st)) (hn : N.length = n) (hp : ps.length = m)
    (hbody : ∀ (cdv : Value) (A : Around) (outer : List Env) (s : Shared) (H : Hp) (E : XK), Room k (A.deeper (envOfC qual (defScope st) s.heap.objs.size f cdv)) →
      ∃ Wk', SSs (cxOf (L2.CX P w) P w K mg base N qual (defScope st) f cdv A outer s H E) E [] [] Wk' md (defBody st) d) :
    FOk P w K mg base x m (k + 1) md (dDef n md d) := by
  subst hp
  exact ⟨f, fd, ps, hm, F.kp, hb, rfl, fnOk_of F S hn hbody⟩
theorem mok_of {c x qual : Str} {st : Stmt} {f C : Addr} {fd : FuncData} {N ps : List Str} {k n m : Nat} {md : Md} {d : DenS} (F : Fun K x qual st f fd) (hm : mg c = some (.ref C)) (hc : Cls K C) (hM : Meth K C x f) (hb : Binds K fd ps []) (S : FnScope N ps (defScope st)) (hn : N.length = n) (hp : ps.length = m)
    (hbody : ∀ (cdv : Value) (A : Around) (outer : List Env) (s : Shared) (H : Hp) (E : XK), Room k (A.deeper (envOfC qual (defScope st) s.heap.objs.size f cdv)) →
      ∃ Wk', SSs (cxOf (L2.CX P w) P w K mg base N qual (defScope st) f cdv A outer s H E) E [] [] Wk' md (defBody st) d) :
    MOk P w K mg base c x m (k + 1) md (dDef n md d) := by
  subst hp
  exact ⟨C, f, fd, ps, hm, hc, hM, hb, rfl, fnOk_of F S hn hbody⟩
/-- __init__: the instance in slot 0 is its own -/
def dInit (n : Nat) (k : Str) (d : DenS) : DDen := fun ps g => match d (startP n (.ins k [] [] :: ps)) g with
  | .next σ g => (match σ[0]? with | some (some p) => .ok p g | _ => .stuck)
  | _ => .stuck
theorem rel_init {c : Ct} {N : List Str} {us : List V} {n : Nat} {ps : List PV} {H : Hp} {g : Rg} {k : Str} {a C dx : Addr} (S : Start c H g) (hm : c.mg k = some (.ref C)) (ha : H a = some (.ins C dx [])) (nb : ¬ c.B a) (r : RepL (c.ban1 a) H ps us) (hn : N.length = n) :
    Rel c [(0, a)] (startP n (.ins k [] [] :: ps)) (L2.start N (.ref a :: us)) H g where
  len := start_len hn (by simp [r.length])
  rg := S.rg
  rb := S.rb
  dom := S.dom
  ndk := by simp
  nda := by simp
  wb := fun w h => by
    have : w = (0, a) := by simpa using h
    subst this; exact nb
  val := fun i p h n => by
    cases i with
    | zero => exact absurd (by simp) n
    | succ i =>
      have h := startP_some h
      obtain ⟨v, h1, h2⟩ := r.get (by simpa using h)
      refine ⟨v, start_at (by simpa using h1), Rep.ban (c := c.ban1 a) (fun b h => .inl ?_) h2⟩
      rcases h with h | h
      · exact .inl h
      · exact .inr (by simpa using h)
  own := fun w h => by
    have : w = (0, a) := by simpa using h
    subst this
    exact ⟨_, rfl, rfl, C, dx, [], hm, ha, rfl, rfl⟩
theorem iok_of {c x qual : Str} {st : Stmt} {f C : Addr} {fd : FuncData} {N ps : List Str} {k n m : Nat} {d : DenS} (F : Fun K x qual st f fd) (hm : mg c = some (.ref C)) (hM : Mk K C f) (hb : Binds K fd ps []) (S : FnScope N ps (defScope st)) (hn : N.length = n) (hp : ps.length = m)
    (hbody : ∀ (cdv : Value) (A : Around) (outer : List Env) (s : Shared) (H : Hp) (E : XK), Room k (A.deeper (envOfC qual (defScope st) s.heap.objs.size f cdv)) →
      SSs (cxOf (L2.CX P w) P w K mg base N qual (defScope st) f cdv A outer s H E) E [0] [0] [0] .rep (defBody st) d) :
    IOk P w K mg base c m (k + 1) (dInit n c d) := by
  subst hp
  refine ⟨C, f, fd, ps, hm, hM, hb, rfl, ?_⟩
  refine F.okX S (fun vs H Q E h => h.1) fun cdv A outer s H vs Q E hr h => ?_
  obtain ⟨hl, ρ, B, qs, g, a, C', dx, us, rfl, hm', ha, nb, St, rp, p⟩ := h
  obtain ⟨t, ht, hs⟩ := hbody cdv A outer s H E hr
  refine ⟨t, ht, ?_⟩
  have R := rel_init (c := ⟨K, mg, ρ, B⟩) (N := N) (k := c) (n := n) St hm' ha nb rp hn
  refine hs ρ B [(0, a)] _ _ H g _ (fun σ => σ[0]? = some (some (.ref a))) rfl R (fun σ σ' _ ag j => (ag 0 (by simp)).trans (show σ[0]? = some (some (.ref a)) from j)) rfl ?_
  unfold dInit at p
  cases hd : d (startP n (.ins c [] [] :: qs)) g with
  | next σ' g' =>
    rw [hd] at p
    intro W' σc' H' hW e nw R' j
    cases W' with
    | nil => cases hW
    | cons w W'' =>
      cases W'' with
      | cons _ _ => simp at hW
      | nil =>
        obtain ⟨i, b⟩ := w
        have hi : i = 0 := by simpa using hW
        subst hi
        obtain ⟨q, h1, h2, h3⟩ := R'.own (0, b) (by simp)
        have hba : b = a := by
          have h2 : σc'[0]? = some (some (.ref b)) := h2
          rw [show σc'[0]? = some (some (V.ref a)) from j] at h2
          cases h2; rfl
        subst hba
        simp only [h1] at p
        refine p H' (fun b' o h hne hr => e b' o h hr (by simpa using hne)) R'.rg (Own.ban (c := Ct.ban ⟨K, mg, ρ, B⟩ [(0, b)]) (fun b' hb => .inl (hb.elim .inl fun z => .inr (by simpa using z))) h3)
  | ret q g' => rw [hd] at p; exact p.elim
  | exc kk ns ps' g' => rw [hd] at p; exact p.elim
  | stuck => rw [hd] at p; exact p.elim
end
end Tr

namespace Tr
open PySem PySem.Spec PyProof.Rows L2

/-! ### dict comprehensions -/
def hasK (ks : List Key) (k : Key) : Bool := ks.any fun x => decide (x = k)
def putKs (ks : List Key) (k : Key) : List Key := if hasK ks k = true then ks else ks ++ [k]
def putVs {α : Type} : List Key → List α → Key → α → List α
  | [], vs, k, p => vs ++ [p]
  | x :: ks, [], k, p => [p]
  | x :: ks, v :: vs, k, p => if x = k then p :: (if hasK ks k = true then putVs ks vs k p else vs) else v :: putVs ks vs k p
theorem map_no {ks : List Key} {k : Key} (h : hasK ks k = false) : ∀ (vs : List V) (p : V), (ks.zip vs).map (fun kv => if kv.1 = k then (kv.1, p) else kv) = ks.zip vs := by
  induction ks with
  | nil => intro vs p; simp
  | cons x ks ih =>
    intro vs p
    cases vs with
    | nil => simp
    | cons v vs =>
      have h' : decide (x = k) = false ∧ hasK ks k = false := by
        simp only [hasK, List.any_cons, Bool.or_eq_false_iff] at h
        exact h
      have hx : ¬ x = k := by simpa using h'.1
      simp [List.zip_cons_cons, hx, ih h'.2]
theorem putK_zip : ∀ {ks : List Key} {vs : List V} (k : Key) (p : V), ks.length = vs.length → putK (ks.zip vs) k p = (putKs ks k).zip (putVs ks vs k p) ∧ (putKs ks k).length = (putVs ks vs k p).length
  | [], [], k, p, _ => by simp [putK, putKs, putVs, hasK]
  | [], _ :: _, k, p, h => by simp at h
  | _ :: _, [], k, p, h => by simp at h
  | x :: ks, v :: vs, k, p, h => by
    have hl : ks.length = vs.length := by simpa using h
    obtain ⟨ih1, ih2⟩ := putK_zip (ks := ks) (vs := vs) k p hl
    have hany : ((ks.zip vs).any fun kv => decide (kv.1 = k)) = hasK ks k := by
      unfold hasK
      clear ih1 ih2 h
      induction ks generalizing vs with
      | nil => simp
      | cons y ks ih =>
        cases vs with
        | nil => simp at hl
        | cons u vs => simp only [List.zip_cons_cons, List.any_cons]; rw [ih vs (by simpa using hl)]
    by_cases hx : x = k
    · subst hx
      cases hk : hasK ks x with
      | false =>
        constructor
        · simp [putK, putKs, putVs, hasK, List.zip_cons_cons]
          have := map_no hk vs p
          simp only [hasK] at hk
          simp [hk, this]
        · simp [putKs, putVs, hasK, hl]
          simp only [hasK] at hk
          simp [hk, hl]
      | true =>
        have e1 : putK (ks.zip vs) x p = (ks.zip vs).map (fun kv => if kv.1 = x then (kv.1, p) else kv) := by
          unfold putK; rw [hany, hk]; simp
        have e2 : putKs ks x = ks := by unfold putKs; rw [hk]; simp
        rw [e1, e2] at ih1
        rw [e2] at ih2
        constructor
        · have : putKs (x :: ks) x = x :: ks := by simp [putKs, hasK]
          rw [this]
          simp only [putVs, hk, if_true]
          simp only [putK, List.zip_cons_cons, List.any_cons, decide_true, Bool.true_or, if_true, List.map_cons]
          rw [ih1]
        · have : putKs (x :: ks) x = x :: ks := by simp [putKs, hasK]
          rw [this]
          simp [putVs, hk, ih2]
    · have e0 : hasK (x :: ks) k = hasK ks k := by simp [hasK, hx]
      constructor
      · cases hk : hasK ks k with
        | true =>
          have e1 : putK (ks.zip vs) k p = (ks.zip vs).map (fun kv => if kv.1 = k then (kv.1, p) else kv) := by
            unfold putK; rw [hany, hk]; simp
          have e2 : putKs ks k = ks := by unfold putKs; rw [hk]; simp
          rw [e1, e2] at ih1
          have e3 : putKs (x :: ks) k = x :: ks := by unfold putKs; rw [e0, hk]; simp
          rw [e3]
          simp only [putVs, if_neg hx, List.zip_cons_cons]
          rw [← ih1]
          unfold putK
          simp only [List.any_cons, hany, hk, Bool.or_true, if_true, List.map_cons, if_neg hx]
        | false =>
          have e1 : putK (ks.zip vs) k p = ks.zip vs ++ [(k, p)] := by
            unfold putK; rw [hany, hk]; simp
          have e2 : putKs ks k = ks ++ [k] := by unfold putKs; rw [hk]; simp
          rw [e1, e2] at ih1
          have e3 : putKs (x :: ks) k = x :: (ks ++ [k]) := by unfold putKs; rw [e0, hk]; simp
          rw [e3]
          simp only [putVs, if_neg hx, List.zip_cons_cons]
          rw [← ih1]
          unfold putK
          simp [hany, hk, hx]
      · have e3 : (putKs (x :: ks) k).length = (putKs ks k).length + 1 := by
          unfold putKs; rw [e0]; split <;> simp
        rw [e3]
        simp [putVs, hx, ih2]
theorem putVs_rep {c : Ct} {H : Hp} {k : Key} {p : PV} {v : V} (h : Rep c H p v) : ∀ {ks : List Key} {ps : List PV} {vs : List V}, RepL c H ps vs → RepL c H (putVs ks ps k p) (putVs ks vs k v)
  | [], ps, vs, r => by simp only [putVs]; exact r.append ⟨v, [], rfl, h, rfl⟩
  | x :: ks, [], vs, r => by have r : vs = [] := r; subst r; exact ⟨v, [], rfl, h, rfl⟩
  | x :: ks, q :: ps, _, ⟨u, r, rfl, h1, h2⟩ => by
    simp only [putVs]
    by_cases hx : x = k
    · rw [if_pos hx, if_pos hx]
      refine ⟨v, _, rfl, h, ?_⟩
      cases hasK ks k with
      | true => exact putVs_rep h h2
      | false => exact h2
    · rw [if_neg hx, if_neg hx]
      exact ⟨u, _, rfl, h1, putVs_rep h h2⟩
theorem putKs_len (ks : List Key) (k : Key) : (putKs ks k).length ≤ ks.length + 1 := by
  unfold putKs; split <;> simp
def compD (gd : DenG) (dt : DenT) (dk dv : Den) (σ : Sl) : List PV → List Key → List PV → Rg → Res PV
  | [], ks, ps, g => .ok (.dct ks ps) g
  | p :: r, ks, ps, g => match gd p σ with
    | some σ1 => (noX (dt σ1 g)).bind fun b g1 => if b = true then (noX (dk σ1 g1)).bind fun q g2 => match keyP q with
        | some k => (noX (dv σ1 g2)).bind fun z g3 => compD gd dt dk dv σ r (putKs ks k) (putVs ks ps k z) g3
        | none => .stuck
      else compD gd dt dk dv σ r ks ps g1
    | none => .stuck
def dDComp (di : DenL) (vs : List Nat) (gd : DenG) (dt : DenT) (dk dv : Den) : Den := fun σ g => (di σ g).bind fun items g => if items.length ≤ sizeLine then compD gd dt dk dv (wipeP σ vs) items [] [] g else .stuck
section
variable {X : Cx} {E : XK} {Wx : WX} {fz Wk Wk' Wk1 : List Nat} {md : Md}
theorem dc_read {vs gs : List Nat} {wi : TI} {tt : TT} {tk te : TE} {tg' : TG} {di : DenL} {gd : DenG} {dt : DenT} {dk de : Den} {ρ : Option (Addr × Addr)} {B : Addr → Prop} {W : Wn} {σ : Sl} {σc : L2.St} {H : Hp} {g : Rg} {Q : VK}
    (hdi : ∀ (ρ : Option (Addr × Addr)) (B : Addr → Prop) (W : Wn) (σ : Sl) (σc : L2.St) (H : Hp) (g : Rg) (R : It → Hp → Prop), W.map (·.1) = Wk → Rel (ct X ρ B) W σ σc H g → PstI (ct X ρ B) W H (di σ g) R (fun cls dd H' => Wx cls dd σc H') → wi σc H R)
    (hg : ∀ (ρ : Option (Addr × Addr)) (B : Addr → Prop) (W : Wn) (σ σ' : Sl) (σc : L2.St) (H : Hp) (g : Rg) (p : PV) (v : V) (Q : L2.St → Hp → Prop), W.map (·.1) = Wk → Rel (ct X ρ B) W σ σc H g → Rep ((ct X ρ B).ban W) H p v → gd p σ = some σ' → (∀ σc', Rel (ct X ρ B) W σ' σc' H g → Agree gs σc σc' → Q σc' H) → tg' v σc H Q)
    (ht : ∀ (ρ : Option (Addr × Addr)) (B : Addr → Prop) (W : Wn) (σ : Sl) (σc : L2.St) (H : Hp) (g : Rg) (Q : Bool → Hp → Prop), W.map (·.1) = Wk → Rel (ct X ρ B) W σ σc H g → PstT (ct X ρ B) H W (dt σ g) Q E0 → tt σc H Q)
    (hk : ∀ (ρ : Option (Addr × Addr)) (B : Addr → Prop) (W : Wn) (σ : Sl) (σc : L2.St) (H : Hp) (g : Rg) (Q : VK), W.map (·.1) = Wk → Rel (ct X ρ B) W σ σc H g → Pst (ct X ρ B) W H .rep (dk σ g) Q E0 → tk σc H Q)
    (he : ∀ (ρ : Option (Addr × Addr)) (B : Addr → Prop) (W : Wn) (σ : Sl) (σc : L2.St) (H : Hp) (g : Rg) (Q : VK), W.map (·.1) = Wk → Rel (ct X ρ B) W σ σc H g → Pst (ct X ρ B) W H .rep (de σ g) Q E0 → te σc H Q)
    (hgs : ∀ j ∈ gs, j ∈ vs) (hvs : ∀ j ∈ vs, j ∉ Wk) (hW : W.map (·.1) = Wk) (R : Rel (ct X ρ B) W σ σc H g)
    (p : Pst (ct X ρ B) W H .frs (dDComp di vs gd dt dk de σ g) Q (fun cls dd H' => Wx cls dd σc H')) : tDc wi tg' tt tk te vs σc H Q := by
  have p : Pst (ct X ρ B) W H .frs ((di σ g).bind fun items g => if items.length ≤ sizeLine then compD gd dt dk de (wipeP σ vs) items [] [] g else .stuck) Q (fun cls dd H' => Wx cls dd σc H') := p
  have key : PstI (ct X ρ B) W H (di σ g) (fun J H1 => ∀ D, H1 D = none → ∃ W : Nat → Nat → Hp → Prop, (∃ m, W 0 m (upd H1 D (.dK []))) ∧ ∀ i m H, W i m H →
      (J.stop i H ∧ Q (.ref D) H) ∨ (J.go i H ∧ ∃ Nx : Hp → Prop, (∀ H', Nx H' → ∃ m', m' < m ∧ W (i + 1) m' H') ∧ ∀ x H', J.yld i H x H' → tg' x (wipe σc vs) H' fun σ2 H2 => wipe σ2 vs = wipe σc vs ∧ tt σ2 H2 fun b H3 =>
        if b = true then tk σ2 H3 fun y H4 => te σ2 H4 fun z H5 => ∃ kvs k, y = kV k ∧ H5 D = some (.dK kvs) ∧ kvs.length < sizeLine ∧ Nx (upd H5 D (.dK (putK kvs k z))) else Nx H3)) (fun cls dd H' => Wx cls dd σc H') := by
    cases hdd : di σ g with
    | stuck => rw [hdd] at p; exact p
    | exc k ns ps g' => rw [hdd] at p; exact p
    | ok items g1 =>
      rw [hdd] at p
      intro J H1 e1 k1 wk D hD
      have p : Pst (ct X ρ B) W H .frs (if items.length ≤ sizeLine then compD gd dt dk de (wipeP σ vs) items [] [] g1 else .stuck) Q (fun cls dd H' => Wx cls dd σc H') := p
      by_cases hsz : items.length ≤ sizeLine
      · rw [if_pos hsz] at p
        have R1 := (R.ext e1 k1).ban1 (o := .dK []) hD
        have RD : ¬ (ct X ρ B).R D := fun z => absurd hD ((R.ext e1 k1).dom D (R.rb _ z))
        have bD : ((ct X ρ B).ban1 D).B D := .inr rfl
        have hDH : H D = none := by
          cases q : H D with
          | none => rfl
          | some o => exact absurd hD (dom_ext e1 k1 (by rw [q]; exact fun z => nomatch z))
        refine ⟨fun i m H' => m = items.length - i ∧ i ≤ items.length ∧ ∃ g' ks ps acc, Rel ((ct X ρ B).ban1 D) W σ σc H' g' ∧ (∀ b o, H1 b = some o → ¬ (ct X ρ B).R b → H' b = some o) ∧ H' D = some (.dK (ks.zip acc)) ∧ ks.length = acc.length ∧ ks.length ≤ i ∧ RepL (((ct X ρ B).ban1 D).ban W) H' ps acc ∧
          Pst (ct X ρ B) W H .frs (compD gd dt dk de (wipeP σ vs) (items.drop i) ks ps g') Q (fun cls dd H' => Wx cls dd σc H'),
          ⟨items.length, by simp, Nat.zero_le _, g1, [], [], [], R1, fun b o h n => same_new hD _ _ h, upd_same, rfl, Nat.le_refl _, rfl, by simpa using p⟩, ?_⟩
        rintro i m H' ⟨rfl, hi, g', ks, ps, acc, R', ex, hDa, hka, hks, ra, p⟩
        have stay : Stay ((ct X ρ B).ban W) H1 H' := fun b o h n => ex b o h fun z => n (.inl (R.rb _ z))
        by_cases hlt : i < items.length
        · refine .inr ⟨wk.go H' i stay hlt, fun H'' => ∃ m', m' < items.length - i ∧ m' = items.length - (i + 1) ∧ i + 1 ≤ items.length ∧ ∃ g' ks ps acc, Rel ((ct X ρ B).ban1 D) W σ σc H'' g' ∧ (∀ b o, H1 b = some o → ¬ (ct X ρ B).R b → H'' b = some o) ∧ H'' D = some (.dK (ks.zip acc)) ∧ ks.length = acc.length ∧ ks.length ≤ i + 1 ∧ RepL (((ct X ρ B).ban1 D).ban W) H'' ps acc ∧
            Pst (ct X ρ B) W H .frs (compD gd dt dk de (wipeP σ vs) (items.drop (i + 1)) ks ps g') Q (fun cls dd H' => Wx cls dd σc H'), fun H'' h => h, fun x H2 y => ?_⟩
          obtain ⟨sm, q, eq, rq⟩ := wk.yld H' i x H2 (((ct X ρ B).ban1 D).ban W).B stay hlt y R'.wdom (fun b hb => by
            rcases hb with (hb | hb) | hb
            · exact .inl (.inl hb)
            · exact .inr (by rw [hb]; exact hD)
            · exact .inl (.inr hb))
          have R2 := (R'.ext (Ext.of sm) (R'.rg.same sm)).wipe (vs := vs) (by rw [hW]; exact hvs)
          have ed : items.drop i = q :: items.drop (i + 1) := by
            rw [List.drop_eq_getElem_cons hlt]
            rw [List.getElem?_eq_getElem hlt] at eq
            cases eq
            rfl
          rw [ed] at p
          simp only [compD] at p
          cases eg : gd q (wipeP σ vs) with
          | none => simp only [eg] at p; exact p.elim
          | some σ1 =>
            simp only [eg] at p
            refine hg ρ ((ct X ρ B).ban1 D).B W (wipeP σ vs) σ1 (wipe σc vs) H2 g' q x _ hW R2 rq eg fun σc1 R3 ag => ?_
            refine ⟨?_, ?_⟩
            · have e2 : wipe (wipe σc vs) vs = wipe σc vs := wipe_eq (wipe_length _ _) fun j hj => wipe_keep hj
              rw [← e2]
              exact wipe_eq ag.1 fun j hj => ag.2 j fun z => hj (hgs j z)
            · refine ht ρ ((ct X ρ B).ban1 D).B W σ1 σc1 H2 g' _ hW R3 ?_
              cases et : dt σ1 g' with
              | stuck => simp only [et, noX] at p; exact p.elim
              | exc _ _ _ _ => simp only [et, noX] at p; exact p.elim
              | ok b g2 =>
                simp only [et, noX, Res.bind_ok] at p
                intro H3 e3 k3
                have ex3 : ∀ b o, H' b = some o → ¬ (ct X ρ B).R b → H3 b = some o := fun b o h n => e3 b o (sm b o h) n
                have R4 := R'.ext (c := (ct X ρ B).ban1 D) ex3 k3
                cases b with
                | false =>
                  have p : Pst (ct X ρ B) W H .frs (compD gd dt dk de (wipeP σ vs) (items.drop (i + 1)) ks ps g2) Q (fun cls dd H' => Wx cls dd σc H') := by simpa using p
                  exact ⟨items.length - (i + 1), by omega, rfl, hlt, g2, ks, ps, acc, R4, fun b o h n => ex3 b o (ex b o h n) n, ex3 _ _ hDa RD, hka, by omega, RepL.ext (c := ((ct X ρ B).ban1 D).ban W) ex3 (fun b hb => .inl (.inl (R.rb b hb))) ra, p⟩
                | true =>
                  have R5 := R3.ext e3 k3
                  refine hk ρ ((ct X ρ B).ban1 D).B W σ1 σc1 H3 g2 _ hW R5 ?_
                  cases evk : dk σ1 g2 with
                  | stuck => simp [evk, noX] at p; exact p.elim
                  | exc _ _ _ _ => simp [evk, noX] at p; exact p.elim
                  | ok yk g3 =>
                    intro vk H4 e4 k4 rvk
                    have R6 := R5.ext e4 k4
                    simp only [evk, noX, Res.bind_ok, if_pos] at p
                    cases ekk : keyP yk with
                    | none => simp only [ekk] at p; exact p.elim
                    | some k =>
                      simp only [ekk] at p
                      refine he ρ ((ct X ρ B).ban1 D).B W σ1 σc1 H4 g3 _ hW R6 ?_
                      cases ev : de σ1 g3 with
                      | stuck => simp [ev, noX] at p; exact p.elim
                      | exc _ _ _ _ => simp [ev, noX] at p; exact p.elim
                      | ok y g4 =>
                        simp only [ev, noX, Res.bind_ok] at p
                        intro v H5 e5 k5 rv
                        have ex5 : ∀ b o, H' b = some o → ¬ (ct X ρ B).R b → H5 b = some o := fun b o h n => e5 b o (e4 b o (ex3 b o h n) n) n
                        have hD5 := ex5 _ _ hDa RD
                        obtain ⟨z1, z2⟩ := putK_zip k v hka
                        refine ⟨ks.zip acc, k, keyP_rep (.inl rvk) ekk, hD5, by rw [List.length_zip]; omega, items.length - (i + 1), by omega, rfl, hlt, g4, putKs ks k, putVs ks ps k y, putVs ks acc k v, ?_, ?_, by rw [upd_same, z1], z2, by have := putKs_len ks k; omega, ?_, p⟩
                        · exact (R'.ext (c := (ct X ρ B).ban1 D) ex5 k5).updB bD RD
                        · intro b o h n
                          rw [upd_ne (ne_of_none h hD)]
                          exact ex5 b o (ex b o h n) n
                        · have aw : ∀ b u, H5 b = some u → ¬ (((ct X ρ B).ban1 D).ban W).B b → upd H5 D (.dK (putK (ks.zip acc) k v)) b = some u := fun b u hb n => by
                            rw [upd_ne (fun e => n (by rw [e]; exact .inl (.inr rfl)))]; exact hb
                          exact RepL.away (c := ((ct X ρ B).ban1 D).ban W) aw (putVs_rep rv (RepL.ext (c := ((ct X ρ B).ban1 D).ban W) ex5 (fun b hb => .inl (.inl (R.rb b hb))) ra))
        · have e : i = items.length := by omega
          subst e
          refine .inl ⟨wk.stop H' _ stay (Nat.le_refl _), ?_⟩
          rw [List.drop_length] at p
          have p : Pst (ct X ρ B) W H .frs (.ok (.dct ks ps) g') Q (fun cls dd H' => Wx cls dd σc H') := p
          refine p (.ref D) H' (fun b o h n => ex b o (e1 b o h n) n) R'.rg ⟨D, rfl, hDH, acc, hDa, hka, ?_⟩
          exact RepL.ban (c := ((ct X ρ B).ban1 D).ban W) (fun b hb => .inl (by
            rcases hb with (hb | hb) | hb
            · exact .inl (.inl hb)
            · exact .inr hb
            · exact .inl (.inr hb))) ra
      · rw [if_neg hsz] at p; exact p.elim
  exact hdi ρ B W σ σc H g _ hW R key
theorem se_dc {tg iter kx elt : Expr} {ifs : List Expr} {scope : Scope} {own : List (Str × Nat)} {pos : Pos} {gs : List Nat} {di : DenL} {gd : DenG} {dt : DenT} {dk de : Den} (hc : X.calm = true) (hN : X.N.Nodup) (ok : BlkOk X.N X.env.scope scope own) (hi : SI X Wx Wk tg iter di)
    (hg : ∀ s H C cl fp, SG (Blk X scope s H C cl fp) Wk gs tg gd) (ht : ∀ s H C cl fp, STs (Blk X scope s H C cl fp) Wx0 Wk ifs dt) (hk : ∀ s H C cl fp, SE (Blk X scope s H C cl fp) Wx0 Wk .rep kx dk) (he : ∀ s H C cl fp, SE (Blk X scope s H C cl fp) Wx0 Wk .rep elt de)
    (hgs : ∀ j ∈ gs, j ∈ own.map (·.2) := by decide) (hvs : ∀ j ∈ own.map (·.2), j ∉ Wk := by decide) (hs : ∀ x, foldedSetIterable iter X.env x = pure x := by intro _; rfl) :
    SE X Wx Wk .frs (.DictComp kx elt [⟨tg, iter, ifs, 0⟩] scope pos) (dDComp di (own.map (·.2)) gd dt dk de) := by
  obtain ⟨wi, hwi, hdi⟩ := hi
  refine ⟨_, pe_dc (g := tGt X.K X.mg Wk gs gd) (tt := tTs X.K X.mg Wx0 Wk dt) (tk := tE X.K X.mg Wx0 Wk .rep dk) (tv := tE X.K X.mg Wx0 Wk .rep de) hc hN hwi ok (fun s H C cl fp => (hg s H C cl fp).pe) (fun s H C cl fp => (ht s H C cl fp).pe) (fun s H C cl fp => (hk s H C cl fp).pe) (fun s H C cl fp => (he s H C cl fp).pe) hs, fun ρ B W σ σc H g Q hW R p => ?_⟩
  exact dc_read hdi (fun ρ B W σ σ' σc H g p v Q hW R rp eg k => ⟨ρ, B, W, σ, σ', g, p, hW, R, rp, eg, k⟩) (fun ρ B W σ σc H g Q hW R p => ⟨ρ, B, W, σ, g, hW, R, p⟩) (fun ρ B W σ σc H g Q hW R p => ⟨ρ, B, W, σ, g, hW, R, p⟩) (fun ρ B W σ σc H g Q hW R p => ⟨ρ, B, W, σ, g, hW, R, p⟩) hgs hvs hW R p
end
end Tr

namespace Tr
open PySem PySem.Spec PyProof.Rows L2

section
variable {X : Cx} {E : XK} {Wx : WX} {fz Wk Wk' Wk1 : List Nat} {md : Md}
/-! ### list(range(..)) -/
theorem repL_rg {c : Ct} {H : Hp} {a b : Int} : RepL c H (rngP a (b - a).toNat) (rgV a b) := by
  unfold rngP rgV
  induction List.range (b - a).toNat with
  | nil => rfl
  | cons x r ih => exact ⟨_, _, rfl, rfl, ih⟩
def rgOk (a b : Int) : Prop := -1000 ≤ a ∧ a ≤ 1000 ∧ -1000 ≤ b ∧ b ≤ 1000
theorem rgOk_ok {a b : Int} (h : rgOk a b) : L2.RgOk a b := by
  obtain ⟨h1, h2, h3, h4⟩ := h
  exact ⟨by omega, by omega, by omega, by omega, by omega⟩
instance (a b : Int) : Decidable (rgOk a b) := by unfold rgOk; infer_instance
def dLR1 (d : Den) : Den := fun σ g => (d σ g).bind fun p g => match p with | .int n => if rgOk 0 n then .ok (.lst (rngP 0 (n - 0).toNat)) g else .stuck | _ => .stuck
theorem se_listRg1 {a : Expr} {p p2 pos pos2 : Pos} {d : Den} (hc : X.calm = true) (hml : X.mg "list" = none) (hmr : X.mg "range" = none) (h : SE X Wx Wk .brw a d) (hgl : Gl X "list" := by rfl) (hgr : Gl X "range" := by rfl)
    (na : starEach [a] X.env = (false, eval a X.env) :: starEach [] X.env := by rfl) (nb : starEach [.Call (.Name "range" p2) [a] [] pos2] X.env = (false, eval (.Call (.Name "range" p2) [a] [] pos2) X.env) :: starEach [] X.env := by rfl) :
    SE X Wx Wk .frs (.Call (.Name "list" p) [.Call (.Name "range" p2) [a] [] pos2] [] pos) (dLR1 d) := by
  obtain ⟨t, ht, hs⟩ := h
  refine ⟨_, pe_listRg hc hgl hml (prg_1 hgr hmr ht na) nb, fun ρ B W σ σc H g Q hW R p => ?_⟩
  refine hs ρ B W σ σc H g _ hW R (p.bind fun x g1 v H1 _ e1 k1 q1 p => ?_)
  cases x with
  | int n =>
    have p : Pst (ct X ρ B) W H1 .frs (if rgOk 0 n then .ok (.lst (rngP 0 (n - 0).toNat)) g1 else .stuck) Q _ := p
    by_cases hn : rgOk 0 n
    · rw [if_pos hn] at p
      exact ⟨n, q1.int, rgOk_ok hn, fun z hz => p _ _ (Ext.of (same_new hz)) (k1.same (same_new hz)) (val_lst (c := (ct X ρ B).ban W) repL_rg hz)⟩
    · rw [if_neg hn] at p; exact p.elim
  | _ => exact p.elim
def dLR2 (da db : Den) : Den := fun σ g => (da σ g).bind fun p g => (db σ g).bind fun q g => match p, q with | .int m, .int n => if rgOk m n then .ok (.lst (rngP m (n - m).toNat)) g else .stuck | _, _ => .stuck
theorem se_listRg2 {a b : Expr} {p p2 pos pos2 : Pos} {da db : Den} (hc : X.calm = true) (hml : X.mg "list" = none) (hmr : X.mg "range" = none) (ha : SE X Wx Wk .brw a da) (hb : SE X Wx Wk .brw b db) (hgl : Gl X "list" := by rfl) (hgr : Gl X "range" := by rfl)
    (na : starEach [a, b] X.env = (false, eval a X.env) :: starEach [b] X.env := by rfl) (nb : starEach [b] X.env = (false, eval b X.env) :: starEach [] X.env := by rfl) (hp : (backTo pos2 (starEach [b] X.env)).any (·.1) = false := by rfl)
    (nc : starEach [.Call (.Name "range" p2) [a, b] [] pos2] X.env = (false, eval (.Call (.Name "range" p2) [a, b] [] pos2) X.env) :: starEach [] X.env := by rfl) :
    SE X Wx Wk .frs (.Call (.Name "list" p) [.Call (.Name "range" p2) [a, b] [] pos2] [] pos) (dLR2 da db) := by
  obtain ⟨t, ht, hs⟩ := ha
  obtain ⟨t', ht', hs'⟩ := hb
  refine ⟨_, pe_listRg hc hgl hml (prg_2 hgr hmr ht ht' na nb hp) nc, fun ρ B W σ σc H g Q hW R p => ?_⟩
  refine hs ρ B W σ σc H g _ hW R (p.bind fun x g1 v H1 _ e1 k1 q1 p => ?_)
  have R1 := R.ext e1 k1
  refine hs' ρ B W σ σc H1 g1 _ hW R1 (p.bind fun y g2 u H2 _ e2 k2 q2 p => ?_)
  cases x with
  | int m =>
    cases y with
    | int n =>
      have p : Pst (ct X ρ B) W H2 .frs (if rgOk m n then .ok (.lst (rngP m (n - m).toNat)) g2 else .stuck) Q _ := p
      by_cases hn : rgOk m n
      · rw [if_pos hn] at p
        exact ⟨m, n, q1.int, q2.int, rgOk_ok hn, fun z hz => p _ _ (Ext.of (same_new hz)) (k2.same (same_new hz)) (val_lst (c := (ct X ρ B).ban W) repL_rg hz)⟩
      · rw [if_neg hn] at p; exact p.elim
    | _ => exact p.elim
  | _ => exact p.elim
/-! ### xs.index(y) -/
def idxP (y : PV) : List PV → Option Nat
  | [] => none
  | p :: r => if eqP p y = true then some 0 else (idxP y r).map (· + 1)
theorem idxP_spec {c : Ct} {H : Hp} {y : PV} {v : V} (hy : Rep c H y v) (fy : flatP y = true) : ∀ {l : List PV} {xs : List V} {j : Nat}, RepL c H l xs → l.all flatP = true → idxP y l = some j →
    ∃ z, xs[j]? = some z ∧ eqV z v = true ∧ ∀ m z', m < j → xs[m]? = some z' → eqV z' v = false
  | [], _, _, _, _, e => by cases e
  | p :: r, _, j, ⟨u, vs, rfl, h1, h2⟩, f, e => by
    simp only [List.all_cons, Bool.and_eq_true] at f
    unfold idxP at e
    by_cases hp : eqP p y = true
    · rw [if_pos hp] at e
      cases e
      exact ⟨u, rfl, by rw [eqV_rep h1 hy f.1 fy]; exact hp, fun m z' hm => absurd hm (Nat.not_lt_zero m)⟩
    · rw [if_neg hp] at e
      cases q : idxP y r with
      | none => rw [q] at e; cases e
      | some i =>
        rw [q] at e
        cases e
        obtain ⟨z, z1, z2, z3⟩ := idxP_spec hy fy h2 f.2 q
        refine ⟨z, by simpa using z1, z2, fun m z' hm hz => ?_⟩
        cases m with
        | zero =>
          simp at hz
          subst hz
          rw [eqV_rep h1 hy f.1 fy]
          simpa using hp
        | succ m => exact z3 m z' (Nat.lt_of_succ_lt_succ hm) (by simpa using hz)
def oIdx (p q : PV) : Option PV := match p with
  | .lst l => if flatP q = true ∧ l.all flatP = true then (idxP q l).map fun j => .int (j : Nat) else none
  | _ => none
def dIdx (da db : Den) : Den := fun σ g => (da σ g).bind fun p g => match p with | .lst l => (db σ g).bind fun q g => (match oIdx (.lst l) q with | some w => .ok w g | none => .stuck) | _ => .stuck
theorem se_index {o e : Expr} {apos cpos : Pos} {da db : Den} (ha : SE X Wx Wk .brw o da) (hb : SE X Wx Wk .brw e db)
    (hbase : attributeBase o "index" X.env (eval o X.env) = eval o X.env := by rfl)
    (hfew : ((backTo cpos (starEach [e] X.env)).all (fun x => !x.1) && (backToKw cpos (keywordEach [] X.env)).all (fun x => x.1.isSome) && decide ([e].length + ([] : List Keyword).length + (if ([] : List Keyword).isEmpty then 0 else 1) < 30)) = true := by rfl)
    (hline : (apos.endLine == cpos.line) = true := by rfl) (hs : starEach [e] X.env = (false, eval e X.env) :: starEach [] X.env := by rfl) (hplain : (backTo cpos (starEach [] X.env)).any (·.1) = false := by rfl) :
    SE X Wx Wk .rep (.Call (.Attribute o "index" apos) [e] [] cpos) (dIdx da db) := by
  obtain ⟨t, ht, hh⟩ := ha
  obtain ⟨t', ht', hh'⟩ := hb
  refine ⟨_, pe_bm PySem.F.plainAttrs_list PySem.F.slot_list_index PySem.F.type_list_index mt_index ht (pa_cons ht' pa_nil hs) hbase hfew hline hs hplain, fun ρ B W σ σc H g Q hW R p => ?_⟩
  refine hh ρ B W σ σc H g _ hW R (p.bind fun x g1 v H1 _ e1 k1 q1 p => ?_)
  have R1 := R.ext e1 k1
  cases x with
  | lst l =>
    obtain ⟨a, xs, rfl, h1, k⟩ := RepB.lst q1
    refine ⟨.inl ⟨rfl, xs, .of h1⟩, ?_⟩
    refine hh' ρ B W σ σc H1 g1 _ hW R1 (p.bind fun y g2 u H2 _ e2 k2 q2 p => ?_)
    obtain ⟨a', xs', ea, h1', k'⟩ := RepB.lst (RepB.ext (c := (ct X ρ B).ban W) e2 (Ct.ban_R R.rb) q1)
    cases ea
    cases ew : oIdx (.lst l) y with
    | none => rw [ew] at p; exact p.elim
    | some w =>
      rw [ew] at p
      have ew : (if flatP y = true ∧ l.all flatP = true then (idxP y l).map fun j => PV.int (j : Nat) else none) = some w := ew
      by_cases hf : flatP y = true ∧ l.all flatP = true
      · rw [if_pos hf] at ew
        cases ej : idxP y l with
        | none => rw [ej] at ew; cases ew
        | some j =>
          rw [ej] at ew
          cases ew
          obtain ⟨z, z1, z2, z3⟩ := idxP_spec (flat_repB' q2 hf.1) hf.1 k' hf.2 ej
          exact ⟨a, xs', u, j, z, rfl, rfl, .of h1', flat_repB q2 hf.1, flat_all k' hf.2, z1, z2, z3, p _ H2 (Ext.refl _ _) k2 rfl⟩
      · rw [if_neg hf] at ew; cases ew
  | _ => exact p.elim
/-! ### sorted, pairs of ints -/
def lePr (a b : Int × Int) : Bool := if a.1 = b.1 then decide (a.2 ≤ b.2) else decide (a.1 < b.1)
def pairs2 : List PV → Option (List (Int × Int))
  | [] => some []
  | .tup [.int i, .int j] :: r => (pairs2 r).map ((i, j) :: ·)
  | _ => none
def insPr (x : Int × Int) : List (Int × Int) → List (Int × Int)
  | [] => [x]
  | y :: r => if lePr x y = true then x :: y :: r else y :: insPr x r
def sortPr : List (Int × Int) → List (Int × Int)
  | [] => []
  | x :: r => insPr x (sortPr r)
def tup2 (x : Int × Int) : PV := .tup [.int x.1, .int x.2]
theorem lePr_iff {a b : Int × Int} : lePr a b = true ↔ a.1 < b.1 ∨ (a.1 = b.1 ∧ a.2 ≤ b.2) := by
  unfold lePr
  split
  · rw [decide_eq_true_eq]; omega
  · rw [decide_eq_true_eq]; omega
theorem insPr_perm (x : Int × Int) : ∀ l, (insPr x l).Perm (x :: l)
  | [] => .refl _
  | y :: r => by
    unfold insPr
    split
    · exact .refl _
    · exact ((insPr_perm x r).cons y).trans (.swap x y r)
theorem sortPr_perm : ∀ l, (sortPr l).Perm l
  | [] => .refl _
  | x :: r => (insPr_perm x _).trans ((sortPr_perm r).cons x)
theorem insPr_sorted (x : Int × Int) : ∀ {l : List (Int × Int)}, l.Pairwise (fun a b => lePr a b = true) → (insPr x l).Pairwise (fun a b => lePr a b = true)
  | [], _ => List.pairwise_singleton _ _
  | y :: r, h => by
    unfold insPr
    have h' := List.pairwise_cons.mp h
    split
    · rename_i hxy
      refine List.pairwise_cons.mpr ⟨fun z hz => ?_, h⟩
      rcases List.mem_cons.mp hz with rfl | hz
      · exact hxy
      · have a := lePr_iff.mp hxy
        have b := lePr_iff.mp (h'.1 z hz)
        exact lePr_iff.mpr (by omega)
    · rename_i hxy
      refine List.pairwise_cons.mpr ⟨fun z hz => ?_, insPr_sorted x h'.2⟩
      rcases List.mem_cons.mp ((insPr_perm x r).mem_iff.mp hz) with rfl | hz
      · have a : ¬ (z.1 < y.1 ∨ (z.1 = y.1 ∧ z.2 ≤ y.2)) := fun q => hxy (lePr_iff.mpr q)
        exact lePr_iff.mpr (by omega)
      · exact h'.1 z hz
theorem sortPr_sorted : ∀ l, (sortPr l).Pairwise (fun a b => lePr a b = true)
  | [] => .nil
  | x :: r => insPr_sorted x (sortPr_sorted r)
theorem sortedPr_unique : ∀ {l m : List (Int × Int)}, l.Perm m → l.Pairwise (fun a b => lePr a b = true) → m.Pairwise (fun a b => lePr a b = true) → l = m
  | [], m, h, _, _ => by rw [List.Perm.nil_eq h]
  | x :: l, [], h, _, _ => by exact absurd h.length_eq (by simp)
  | x :: l, y :: m, h, h1, h2 => by
    have a := List.pairwise_cons.mp h1
    have b := List.pairwise_cons.mp h2
    have hx : x ∈ y :: m := h.mem_iff.mp (by simp)
    have hy : y ∈ x :: l := h.mem_iff.mpr (by simp)
    have e : x = y := by
      rcases List.mem_cons.mp hx with e | hx
      · exact e
      · rcases List.mem_cons.mp hy with e | hy
        · exact e.symm
        · have p := lePr_iff.mp (a.1 y hy)
          have q := lePr_iff.mp (b.1 x hx)
          exact Prod.ext (by omega) (by omega)
    subst e
    rw [sortedPr_unique (List.Perm.cons_inv h) a.2 b.2]
/-- the pair at a reference -/
def kOf (H : Hp) : V → Int × Int
  | .ref t => (match H t with | some (.tup [.int i, .int j]) => (i, j) | _ => (0, 0))
  | _ => (0, 0)
theorem pairs2_rep {c : Ct} {H : Hp} : ∀ {l : List PV} {xs : List V} {ps : List (Int × Int)}, pairs2 l = some ps → RepL c H l xs → xs.map (kOf H) = ps ∧ ∀ x ∈ xs, ∃ t, x = .ref t ∧ ¬ c.B t ∧ H t = some (.tup [.int (kOf H x).1, .int (kOf H x).2])
  | [], xs, ps, e, h => by cases e; cases h; exact ⟨rfl, fun _ z => by cases z⟩
  | p :: r, _, ps, e, ⟨v, vs, rfl, h1, h2⟩ => by
    unfold pairs2 at e
    split at e
    · rename_i e0; cases e0
    · rename_i i j r' e0
      cases e0
      cases q : pairs2 r with
      | none => rw [q] at e; cases e
      | some qs =>
        rw [q] at e
        cases e
        obtain ⟨t, us, rfl, ht, v1, w1, rfl, e1, v2, w2, rfl, e2, e3⟩ := h1
        have e1 : v1 = .int i := e1
        have e2 : v2 = .int j := e2
        have e3 : w2 = [] := e3
        subst e1 e2 e3
        have ht : ¬ c.B t ∧ H t = some (.tup [.int i, .int j]) := ht.elim id False.elim
        obtain ⟨ih1, ih2⟩ := pairs2_rep q h2
        have ek : kOf H (.ref t) = (i, j) := by simp only [kOf, ht.2]
        refine ⟨by rw [List.map_cons, ih1, ek], fun x hx => ?_⟩
        rcases List.mem_cons.mp hx with rfl | hx
        · exact ⟨t, rfl, ht.1, by rw [ek]; exact ht.2⟩
        · exact ih2 x hx
    · cases e
def oSortP : List PV → Option PV
  | [.lst l] => (pairs2 l).map fun ps => .lst ((sortPr ps).map tup2)
  | _ => none
theorem cd_sortP : CallD X (.builtin "sorted") .frs oSortP := ⟨_, cr_sortedPO, fun c ps w vs H Q ek _ hd rp ho hq => by
  unfold oSortP at ho
  split at ho
  · rename_i l
    cases e : pairs2 l with
    | none => rw [e] at ho; cases ho
    | some prs =>
      rw [e] at ho
      cases ho
      obtain ⟨v, rfl, r⟩ := rp.one
      obtain ⟨a, xs, rfl, h1, k⟩ := r.lst
      obtain ⟨m1, m2⟩ := pairs2_rep e k
      refine ⟨a, xs, kOf H, rfl, .of h1, fun x hx => let ⟨t, e1, _, e2⟩ := m2 x hx; ⟨t, e1, e2⟩, fun ys z hs hst hz => ?_⟩
      have hp : ys.Perm xs := hst.perm
      have es : ys.map (kOf H) = sortPr prs := by
        refine sortedPr_unique ((hp.map _).trans (by rw [m1]; exact (sortPr_perm prs).symm)) ?_ (sortPr_sorted prs)
        rw [List.pairwise_map]
        refine List.Pairwise.imp (fun {x y} hxy => ?_) hs
        have : ¬ ((kOf H y).1 < (kOf H x).1 ∨ ((kOf H y).1 = (kOf H x).1 ∧ (kOf H y).2 < (kOf H x).2)) := SrtO.lexB_no.mp hxy
        exact lePr_iff.mpr (by omega)
      have rl : RepL c H ((sortPr prs).map tup2) ys := by
        rw [← es, List.map_map]
        have : ∀ {zs : List V}, (∀ x ∈ zs, x ∈ xs) → RepL c H (zs.map (tup2 ∘ kOf H)) zs := by
          intro zs
          induction zs with
          | nil => intro _; rfl
          | cons x zs ih =>
            intro hz
            obtain ⟨t, e1, e2, e3⟩ := m2 x (hz x (by simp))
            refine ⟨x, zs, rfl, ?_, ih fun y hy => hz y (by simp [hy])⟩
            exact ⟨t, _, e1, .inl ⟨e2, e3⟩, _, _, rfl, rfl, _, _, rfl, rfl, rfl⟩
        exact this fun x hx => hp.mem_iff.mp hx
      exact hq _ _ (same_new hz) (val_lst rl hz)
  · cases ho⟩
def oSort (p : List PV) : Option PV := por (oSortI p) (oSortP p)
theorem cd_sorted : CallD X (.builtin "sorted") .frs oSort := cd_sortI.or cd_sortP
end
end Tr

namespace Tr
open PySem PySem.Spec PyProof.Rows L2

/-! ### the drawing: _law_pick -/
def iabs (c : Int) : Int := if c < 0 then -c else c
/-- cells are taken while no digits are left -/
def drain : List Int → Int → Int → List Int × Int × Int
  | [], cur, mix => ([], cur, mix)
  | c :: r, cur, mix => if cur = 0 then drain r (if iabs c ≥ 1000000000000000000 then iabs c else 0) ((mix * 6151 + iabs c + 5) % 2147483647) else (c :: r, cur, mix)
def mixed (mix cnt : Int) : Int := (mix + 7907 * cnt + 104723) ^ 5 % 2147483629
def pickR (g : Rg) (n : Int) : Int :=
  let d := drain g.cells g.cur g.mix
  if d.2.1 > 0 then d.2.1 % n else (mixed d.2.2 (g.cnt + 1) * 48271 + 30011 * (g.cnt + 1) + 31) ^ 3 % 1000000007 % n
def pickG (g : Rg) (n : Int) : Rg :=
  let d := drain g.cells g.cur g.mix
  if d.2.1 > 0 then ⟨d.1, d.2.1 / n, g.cnt + 1, d.2.2⟩ else ⟨d.1, d.2.1, g.cnt + 1, d.2.2⟩
theorem pickR_lo {g : Rg} {n : Int} (h : 0 < n) : 0 ≤ pickR g n := by
  unfold pickR
  dsimp only
  split <;> exact Int.emod_nonneg _ (by omega)
theorem pickR_hi {g : Rg} {n : Int} (h : 0 < n) : pickR g n < n := by
  unfold pickR
  dsimp only
  split <;> exact Int.emod_lt_of_pos _ h
theorem pickG_cnt (g : Rg) (n : Int) : (pickG g n).cnt = g.cnt + 1 := by
  unfold pickG
  dsimp only
  split <;> rfl
theorem iabs_nn (c : Int) : 0 ≤ iabs c := by unfold iabs; split <;> omega
theorem drain_ok : ∀ (l : List Int) (cur mix : Int), 0 ≤ cur → 0 ≤ mix → mix < 2147483647 → 0 ≤ (drain l cur mix).2.1 ∧ 0 ≤ (drain l cur mix).2.2 ∧ (drain l cur mix).2.2 < 2147483647 ∧ (drain l cur mix).1.length ≤ l.length
  | [], cur, mix, h1, h2, h3 => ⟨h1, h2, h3, Nat.le_refl _⟩
  | c :: r, cur, mix, h1, h2, h3 => by
    unfold drain
    split
    · have hc := iabs_nn c
      obtain ⟨a, b, d, e⟩ := drain_ok r (if iabs c ≥ 1000000000000000000 then iabs c else 0) ((mix * 6151 + iabs c + 5) % 2147483647) (by split <;> omega) (Int.emod_nonneg _ (by decide)) (Int.emod_lt_of_pos _ (by decide))
      exact ⟨a, b, d, Nat.le_trans e (Nat.le_succ _)⟩
    · exact ⟨h1, h2, h3, Nat.le_refl _⟩
def dPick : DDen := fun ps g => match ps with
  | [.rng, .int n] => if 0 < n ∧ n < 1000000 ∧ g.cnt < 1000000000 then .ok (.int (pickR g n)) (pickG g n) else .stuck
  | _ => .stuck
/-- what stands at the two lists -/
def pickI (p q : Addr) (H0 H : Hp) (cells : List Int) (cur cnt mix : Int) : Prop :=
  H p = some (.lst [.ref q, .int cur, .int cnt, .int mix]) ∧ H q = some (.lst (cells.map .int)) ∧ ∀ b o, H0 b = some o → b ≠ p → b ≠ q → H b = some o
theorem fdiv_pos {a b : Int} (h : 0 < b) : a.fdiv b = a / b := Int.fdiv_eq_ediv_of_nonneg a (by omega)
theorem fmod_pos {a b : Int} (h : 0 < b) : a.fmod b = a % b := Int.fmod_eq_emod_of_nonneg a (by omega)
theorem drain_step {c : Int} {r : List Int} {mix : Int} : drain (c :: r) 0 mix = drain r (if iabs c ≥ 1000000000000000000 then iabs c else 0) ((mix * 6151 + iabs c + 5) % 2147483647) := by
  rw [drain, if_pos rfl]
theorem drain_stop {l : List Int} {cur mix : Int} (h : ¬ cur = 0) : drain l cur mix = (l, cur, mix) := by
  cases l with
  | nil => rfl
  | cons c r => rw [drain, if_neg h]
theorem eqv_nil (l : List Int) : PyData.eqv (.list (l.map .int)) (.list []) = l.isEmpty := by
  cases l with
  | nil => rfl
  | cons a r => rfl
theorem depth_ints : ∀ l : List Int, PyData.depthAll (l.map PyData.int) ≤ 0
  | [] => by simp [PyData.depthAll]
  | a :: r => by simp [PyData.depthAll, PyData.depth]; exact Nat.le_zero.mp (depth_ints r)
theorem lay_ints : ∀ l : List Int, PyData.canLayAll0 (l.map PyData.int) = true
  | [] => by simp [PyData.canLayAll0]
  | a :: r => by simp [PyData.canLayAll0, PyData.canLay0]; exact lay_ints r
theorem shaped_ints (l : List Int) : SeqAt.shaped (.list (l.map .int)) = true := by
  have h := depth_ints l
  simp [SeqAt.shaped, PyData.canLay0, PyData.depth, lay_ints l]
  omega
theorem dp_ints {K : PySem.W.Frag} {H : Hp} : ∀ l : List Int, DpAll K H (l.map V.int) (l.map PyData.int)
  | [] => .nil
  | a :: r => .cons (.int a) (dp_ints r)
end Tr
namespace Tr
open PySem PySem.Spec PyProof.Rows L2
theorem pickI.new {p q : Addr} {H0 H : Hp} {cells : List Int} {cur cnt mix : Int} {z : Addr} {o : HO} (h : pickI p q H0 H cells cur cnt mix) (hz : H z = none) : pickI p q H0 (upd H z o) cells cur cnt mix :=
  ⟨same_new hz _ _ h.1, same_new hz _ _ h.2.1, fun b u e n1 n2 => same_new hz _ _ (h.2.2 b u e n1 n2)⟩
theorem pickI.setP {p q : Addr} {H0 H : Hp} {cells : List Int} {cur cnt mix cur' cnt' mix' : Int} (hne : p ≠ q) (h : pickI p q H0 H cells cur cnt mix) {xs : List V} (e : xs = [.ref q, .int cur', .int cnt', .int mix']) : pickI p q H0 (upd H p (.lst xs)) cells cur' cnt' mix' :=
  ⟨by rw [upd_same, e], by rw [upd_ne (Ne.symm hne)]; exact h.2.1, fun b u q1 n1 n2 => by rw [upd_ne n1]; exact h.2.2 b u q1 n1 n2⟩
theorem pickI.setQ {p q : Addr} {H0 H : Hp} {cells cells' : List Int} {cur cnt mix : Int} (hne : p ≠ q) (h : pickI p q H0 H cells cur cnt mix) {xs : List V} (e : xs = cells'.map .int) : pickI p q H0 (upd H q (.lst xs)) cells' cur cnt mix :=
  ⟨by rw [upd_ne hne]; exact h.1, by rw [upd_same, e], fun b u q1 n1 n2 => by rw [upd_ne n2]; exact h.2.2 b u q1 n1 n2⟩
end Tr

namespace Tr
open PySem PySem.Spec PyProof.Rows L2

theorem nodup_inj {α β : Type} {f : α → β} : ∀ {l : List α}, (l.map f).Nodup → ∀ {x y}, x ∈ l → y ∈ l → f x = f y → x = y
  | [], _, x, y, hx, _, _ => by cases hx
  | a :: l, hn, x, y, hx, hy, he => by
    have hn' := List.nodup_cons.mp (show (f a :: l.map f).Nodup from hn)
    rcases List.mem_cons.mp hx with e1 | hx1
    · rcases List.mem_cons.mp hy with e2 | hy1
      · rw [e1, e2]
      · exact absurd (List.mem_map.mpr ⟨y, hy1, by rw [← he, e1]⟩) hn'.1
    · rcases List.mem_cons.mp hy with e2 | hy1
      · exact absurd (List.mem_map.mpr ⟨x, hx1, by rw [he, e2]⟩) hn'.1
      · exact nodup_inj hn'.2 hx1 hy1 he
section
variable {X : Cx} {E : XK} {Wx : WX} {fz Wk Wk' Wk1 : List Nat} {md : Md}
/-! ### self.f = e of an instance of one's own -/
def hasF (ns : List Str) (f : Str) : Bool := ns.any fun x => decide (x = f)
def putNs (ns : List Str) (f : Str) : List Str := if hasF ns f = true then ns else ns ++ [f]
def putPs {α : Type} : List Str → List α → Str → α → List α
  | [], vs, f, p => vs ++ [p]
  | x :: ks, [], f, p => [p]
  | x :: ks, v :: vs, f, p => if x = f then p :: vs else v :: putPs ks vs f p
theorem putF_zip : ∀ {ns : List Str} {vs : List V} (f : Str) (p : V), ns.length = vs.length → putF f p (ns.zip vs) = (putNs ns f).zip (putPs ns vs f p) ∧ (putNs ns f).length = (putPs ns vs f p).length
  | [], [], f, p, _ => by simp [putF, putNs, putPs, hasF]
  | [], _ :: _, f, p, h => by simp at h
  | _ :: _, [], f, p, h => by simp at h
  | x :: ks, v :: vs, f, p, h => by
    have hl : ks.length = vs.length := by simpa using h
    obtain ⟨ih1, ih2⟩ := putF_zip (ns := ks) (vs := vs) f p hl
    by_cases hx : x = f
    · subst hx
      simp [putF, putNs, putPs, hasF, List.zip_cons_cons, hl]
    · have e0 : hasF (x :: ks) f = hasF ks f := by simp [hasF, hx]
      have e1 : putNs (x :: ks) f = x :: putNs ks f := by unfold putNs; rw [e0]; split <;> rfl
      rw [e1]
      simp only [putPs, if_neg hx, List.zip_cons_cons, putF, List.length_cons]
      exact ⟨by rw [ih1], by rw [ih2]⟩
theorem putPs_rep {c : Ct} {H : Hp} {f : Str} {p : PV} {v : V} (h : Rep c H p v) : ∀ {ns : List Str} {ps : List PV} {vs : List V}, RepL c H ps vs → RepL c H (putPs ns ps f p) (putPs ns vs f v)
  | [], ps, vs, r => by simp only [putPs]; exact r.append ⟨v, [], rfl, h, rfl⟩
  | x :: ks, [], vs, r => by have r : vs = [] := r; subst r; exact ⟨v, [], rfl, h, rfl⟩
  | x :: ks, q :: ps, _, ⟨u, r, rfl, h1, h2⟩ => by
    simp only [putPs]
    by_cases hx : x = f
    · rw [if_pos hx, if_pos hx]; exact ⟨v, _, rfl, h, h2⟩
    · rw [if_neg hx, if_neg hx]; exact ⟨u, _, rfl, h1, putPs_rep h h2⟩
def onIns (i : Nat) (k : Str) (σ : Sl) (f : List Str → List PV → SRes) : SRes := match σ[i]? with
  | some (some (.ins k' ns ps)) => if k' = k then f ns ps else .stuck
  | _ => .stuck
theorem onIns_cases {c : Ct} {W : Wn} {H : Hp} {Wk' : List Nat} {md : Md} {D : Ends} {E : XK} {i : Nat} {k : Str} {σ : Sl} {f : List Str → List PV → SRes} (p : PstS c W H Wk' md (onIns i k σ f) D E) : ∃ ns ps, σ[i]? = some (some (.ins k ns ps)) ∧ PstS c W H Wk' md (f ns ps) D E := by
  unfold onIns at p
  split at p
  · rename_i k' ns ps e
    by_cases hk : k' = k
    · subst hk
      rw [if_pos rfl] at p
      exact ⟨ns, ps, e, p⟩
    · rw [if_neg hk] at p; exact p.elim
  · exact p.elim
def dFldS (i : Nat) (k f : Str) (d : Den) : DenS := fun σ g => onIns i k σ fun ns ps => (d σ g).bindS fun p g => if ns.length < 1000 then .next (σ.set i (some (.ins k (putNs ns f) (putPs ns ps f p)))) g else .stuck
theorem own_ins {c : Ct} {W : Wn} {σ : Sl} {σc : L2.St} {H : Hp} {g : Rg} {w : Nat × Addr} {k : Str} {ns : List Str} {ps : List PV} (R : Rel c W σ σc H g) (hw : w ∈ W) (e : σ[w.1]? = some (some (.ins k ns ps))) :
    ∃ C dx vs, σc[w.1]? = some (some (.ref w.2)) ∧ c.mg k = some (.ref C) ∧ H w.2 = some (.ins C dx (ns.zip vs)) ∧ ns.length = vs.length ∧ RepL (c.ban W) H ps vs := by
  obtain ⟨q, h1, h2, h3⟩ := R.own w hw
  rw [e] at h1; cases h1
  obtain ⟨C, dx, vs, h4⟩ := h3
  exact ⟨C, dx, vs, h2, h4⟩
theorem new_ins {c : Ct} {W : Wn} {σ : Sl} {σc : L2.St} {H : Hp} {g : Rg} {w : Nat × Addr} {k : Str} {ns : List Str} {ps : List PV} {C dx : Addr} {vs : List V} (R : Rel c W σ σc H g) (hw : w ∈ W) (hm : c.mg k = some (.ref C)) (hl : ns.length = vs.length) (r : RepL (c.ban W) H ps vs) :
    Rel c W (σ.set w.1 (some (.ins k ns ps))) σc (L2.upd H w.2 (.ins C dx (ns.zip vs))) g := by
  refine R.upd hw ⟨C, dx, vs, hm, upd_same, hl, RepL.away (c := c.ban W) (fun b u hb n => ?_) r⟩
  have : b ≠ w.2 := fun e => n (by rw [e]; exact .inr (List.mem_map.mpr ⟨w, hw, rfl⟩))
  rw [upd_ne this]; exact hb
theorem ss_fldS (i : Nat) {k f : Str} {x : Str} {e : Expr} {px pos' pos : Pos} {d : Den} (T : ClF X.K X.mg k) (nf : ∀ C, X.mg k = some (.ref C) → NoAttr X.K C f) (h : SE X (WE0 E) Wk .rep e d) (hi : i ∈ Wk := by decide) (hN : X.N[i]? = some x := by rfl) (hv : Vis X.env.scope x := by first | exact Or.inl rfl | exact Or.inr (Or.inl rfl) | exact Or.inr (Or.inr rfl)) (hd : (x == ("__debug__" : Str)) = false := by decide)
    (hcd : (x == ("__classdict__" : Str)) = false := by decide) (hs : swapsWith e (some (.Attribute (.Name x px) f pos')) pos.line X.env = pure false := by rfl) :
    SS X E fz Wk Wk md (.Assign [.Attribute (.Name x px) f pos'] e pos) (dFldS i k f d) := by
  obtain ⟨t, ht, hh⟩ := h
  refine ⟨_, ps_fld (pe_var hN hv hd hcd) ht hs, fun ρ B W σ σc H g D J hW R jc j p => ?_⟩
  rw [← hW] at hi
  obtain ⟨w, hw, rfl⟩ := List.mem_map.mp hi
  obtain ⟨ns, ps, h1, p⟩ := onIns_cases p
  obtain ⟨C, dx, vs, h2, hm, h4, hl, h5⟩ := own_ins R hw h1
  refine hh ρ B W σ σc H g _ hW R (PstS.bind p fun x g1 v H1 _ e1 k1 q1 p => ?_)
  have R1 := R.ext e1 k1
  have h6 := e1 _ _ h4 (fun z => R.wb w hw (R.rb _ z))
  obtain ⟨C', hm', hc⟩ := T.ex
  have hm : X.mg k = some (.ref C) := hm
  have : C' = C := by rw [hm] at hm'; cases hm'; rfl
  subst this
  by_cases hz : ns.length < 1000
  · rw [if_pos hz] at p
    obtain ⟨z1, z2⟩ := putF_zip f v hl
    refine ⟨_, h2, w.2, C', dx, _, rfl, h6, hc, nf _ hm, by rw [List.length_zip]; omega, ?_⟩
    rw [z1]
    exact p W σc _ hW (upd_w hw) (.refl _ _) (new_ins R1 hw hm z2 (putPs_rep q1 (RepL.ext (c := (ct X ρ B).ban W) e1 (Ct.ban_R R.rb) h5))) j
  · rw [if_neg hz] at p; exact p.elim
/-! ### isinstance of an own class -/
structure InF (K : PySem.W.Frag) (mg : Str → Option Value) (k : Str) : Prop where
  ex : ∃ C, mg k = some (.ref C) ∧ Cls K C ∧ PySem.W.findIn K (.ref C) "__class__" = some (some (.builtin "object.__class__")) ∧ PySem.W.specialIn K (.builtin "object.__class__") "__get__" = some (some (.builtin "getset_descriptor.__get__")) ∧
    PySem.W.takesIn K (.builtin "object.__class__") = some true ∧ PySem.W.mroIn K C (.type "object") = some true
/-- an instance of the very class -/
def dIsIn (k : Str) (d : Den) : Den := fun σ g => (d σ g).bind fun p g => match p with
  | .ins k' _ _ => if k' = k then .ok (.bl true) g else .stuck
  | _ => .stuck
theorem se_isIn {k : Str} {e : Expr} {p p2 pos : Pos} {d : Den} (T : InF X.K X.mg k) (h : SE X Wx Wk .brw e d) (hm : X.mg "isinstance" = none) (hg : Gl X "isinstance" := by rfl) (hgx : Gl X k := by rfl) (hd : (k == ("__debug__" : Str)) = false := by decide)
    (hs1 : starEach [e, .Name k p2] X.env = (false, eval e X.env) :: starEach [.Name k p2] X.env := by rfl) (hs2 : starEach [.Name k p2] X.env = (false, eval (.Name k p2) X.env) :: starEach [] X.env := by rfl)
    (hpl : (backTo pos (starEach [.Name k p2] X.env)).any (·.1) = false := by rfl) : SE X Wx Wk .rep (.Call (.Name "isinstance" p) [e, .Name k p2] [] pos) (dIsIn k d) := by
  obtain ⟨C, hC, f1, f2, f3, f4, f5⟩ := T.ex
  obtain ⟨t, ht, hs⟩ := h
  refine ⟨_, pe_callB call_isi hg hm PyProof.Rows.boot_isinstance (pa_cons ht (pa_cons (pe_glob (v := .ref C) hgx hC rfl hd) pa_nil hs2) hs1) (by decide) (by decide) hs1 hpl, fun ρ B W σ σc H g Q hW R p => ?_⟩
  refine hs ρ B W σ σc H g _ hW R (p.bind fun x g1 v H1 _ e1 k1 q1 pp => ?_)
  cases x with
  | ins k' ns ps =>
    by_cases ek : k' = k
    · simp only [if_pos ek] at pp
      obtain ⟨a, C', dx, vs, rfl, hm', h1, hl, rr⟩ := RepB.ins q1
      have : C' = C := by
        have hm' : X.mg k' = some (.ref C') := hm'
        rw [ek, hC] at hm'; cases hm'; rfl
      subst this
      exact ⟨_, .ref C', .ref C', .ref C', true, rfl, .own C', .base (.ins h1 f1 f2 f3 f4 f5), by unfold PySem.W.kitOne; rw [if_pos (beq_self_eq_true _)], pp _ H1 (Ext.refl _ _) k1 rfl⟩
    · simp only [if_neg ek] at pp
      exact pp.elim
  | _ => exact pp.elim
/-! ### x.append(y.pop(e)) -/
def dAppPop (i j : Nat) (d : Den) : DenS := fun σ g => onLst i σ fun l => onLst j σ fun m => (d σ g).bindS fun q g => match q with
  | .int k => if -(2 ^ 63) ≤ k ∧ k < 2 ^ 63 then (match ixN m.length k with
      | some n => (match m[n]? with
        | some y => if l.length < sizeLine then .next ((σ.set j (some (.lst (m.eraseIdx n)))).set i (some (.lst (l ++ [y])))) g else .stuck
        | none => .stuck)
      | none => .stuck) else .stuck
  | _ => .stuck
theorem ss_appPop (i j : Nat) {x y : Str} {e : Expr} {px py apos cpos apos2 cpos2 pos : Pos} {d : Den} (h : SE X (WE0 E) Wk .brw e d) (hi : i ∈ Wk := by decide) (hj : j ∈ Wk := by decide) (hij : i ≠ j := by decide) (hN : X.N[i]? = some x := by rfl) (hv : Vis X.env.scope x := by first | exact Or.inl rfl | exact Or.inr (Or.inl rfl) | exact Or.inr (Or.inr rfl)) (hd : (x == ("__debug__" : Str)) = false := by decide)
    (hcd : (x == ("__classdict__" : Str)) = false := by decide) (hN' : X.N[j]? = some y := by rfl) (hv' : Vis X.env.scope y := by first | exact Or.inl rfl | exact Or.inr (Or.inl rfl) | exact Or.inr (Or.inr rfl)) (hd' : (y == ("__debug__" : Str)) = false := by decide)
    (hcd' : (y == ("__classdict__" : Str)) = false := by decide) (hbase : attributeBase (.Name x px) "append" X.env (eval (.Name x px) X.env) = eval (.Name x px) X.env := by rfl)
    (hbase' : attributeBase (.Name y py) "pop" X.env (eval (.Name y py) X.env) = eval (.Name y py) X.env := by rfl)
    (hfew : ((backTo cpos (starEach [.Call (.Attribute (.Name y py) "pop" apos2) [e] [] cpos2] X.env)).all (fun x => !x.1) && (backToKw cpos (keywordEach [] X.env)).all (fun x => x.1.isSome) && decide ([Expr.Call (.Attribute (.Name y py) "pop" apos2) [e] [] cpos2].length + ([] : List Keyword).length + (if ([] : List Keyword).isEmpty then 0 else 1) < 30)) = true := by rfl)
    (hfew' : ((backTo cpos2 (starEach [e] X.env)).all (fun x => !x.1) && (backToKw cpos2 (keywordEach [] X.env)).all (fun x => x.1.isSome) && decide ([e].length + ([] : List Keyword).length + (if ([] : List Keyword).isEmpty then 0 else 1) < 30)) = true := by rfl)
    (hline : (apos.endLine == cpos.line) = true := by rfl) (hs : starEach [.Call (.Attribute (.Name y py) "pop" apos2) [e] [] cpos2] X.env = (false, eval (.Call (.Attribute (.Name y py) "pop" apos2) [e] [] cpos2) X.env) :: starEach [] X.env := by rfl) (hplain : (backTo cpos (starEach [] X.env)).any (·.1) = false := by rfl)
    (hline' : (apos2.endLine == cpos2.line) = true := by rfl) (hs' : starEach [e] X.env = (false, eval e X.env) :: starEach [] X.env := by rfl) (hplain' : (backTo cpos2 (starEach [] X.env)).any (·.1) = false := by rfl)
    (hsw : swapsWith (.Call (.Attribute (.Name x px) "append" apos) [.Call (.Attribute (.Name y py) "pop" apos2) [e] [] cpos2] [] cpos) none pos.line X.env = pure false := by rfl) :
    SS X E fz Wk Wk md (.Expr (.Call (.Attribute (.Name x px) "append" apos) [.Call (.Attribute (.Name y py) "pop" apos2) [e] [] cpos2] [] cpos) pos) (dAppPop i j d) := by
  obtain ⟨t, ht, hh⟩ := h
  refine ⟨_, ps_expr (pe_bm PySem.F.plainAttrs_list PySem.F.slot_list_append PySem.F.type_list_append mt_append (pe_var hN hv hd hcd) (pa_cons (pe_bm PySem.F.plainAttrs_list PySem.F.slot_list_pop PySem.F.type_list_pop mt_popAt (pe_var hN' hv' hd' hcd') (pa_cons ht pa_nil hs') hbase' hfew' hline' hs' hplain') pa_nil hs) hbase hfew hline hs hplain) hsw, fun ρ B W σ σc H g D J hW R jc jj p => ?_⟩
  rw [← hW] at hi hj
  obtain ⟨w, hw, rfl⟩ := List.mem_map.mp hi
  obtain ⟨w', hw', rfl⟩ := List.mem_map.mp hj
  obtain ⟨l, h1, p⟩ := onLst_cases p
  obtain ⟨m, h1', p⟩ := onLst_cases p
  obtain ⟨xs, h2, h4, h5⟩ := own_lst R hw h1
  obtain ⟨ys, h2', h4', h5'⟩ := own_lst R hw' h1'
  refine ⟨_, h2, .inl ⟨rfl, xs, .of h4⟩, _, h2', .inl ⟨rfl, ys, .of h4'⟩, ?_⟩
  refine hh ρ B W σ σc H g _ hW R (PstS.bind p fun q g1 v H1 _ e1 k1 q1 p => ?_)
  have R1 := R.ext e1 k1
  have h6 := e1 _ _ h4 (fun z => R.wb w hw (R.rb _ z))
  have h6' := e1 _ _ h4' (fun z => R.wb w' hw' (R.rb _ z))
  cases q with
  | int k =>
    have p : PstS (ct X ρ B) W H1 Wk md (if -(2 ^ 63) ≤ k ∧ k < 2 ^ 63 then (match ixN m.length k with
      | some n => (match m[n]? with
        | some y => if l.length < sizeLine then .next ((σ.set w'.1 (some (.lst (m.eraseIdx n)))).set w.1 (some (.lst (l ++ [y])))) g1 else .stuck
        | none => .stuck)
      | none => .stuck) else .stuck) (jD D J) E := p
    by_cases hk : -(2 ^ 63) ≤ k ∧ k < 2 ^ 63
    · rw [if_pos hk] at p
      cases en : ixN m.length k with
      | none => rw [en] at p; exact p.elim
      | some n =>
        rw [en] at p
        cases ey : m[n]? with
        | none => simp only [ey] at p; exact p.elim
        | some y =>
          simp only [ey] at p
          by_cases hl : l.length < sizeLine
          · rw [if_pos hl] at p
            obtain ⟨z, ez, rz⟩ := RepL.get (RepL.ext (c := (ct X ρ B).ban W) e1 (Ct.ban_R R.rb) h5') ey
            have hsq := (ixN_seq (show ixN ys.length k = some n by rw [← h5'.length]; exact en)).1
            refine ⟨w'.2, ys, k, n, z, rfl, by rw [q1.int], h6', hk.1, hk.2, hsq, ez, ?_⟩
            have hne : w.2 ≠ w'.2 := fun e => hij (congrArg (·.1) (nodup_inj R.nda hw hw' e))
            have R2 := new_lst R1 hw' (RepL.eraseIdx n (RepL.ext (c := (ct X ρ B).ban W) e1 (Ct.ban_R R.rb) h5'))
            have aw : ∀ b u, H1 b = some u → ¬ ((ct X ρ B).ban W).B b → upd H1 w'.2 (.lst (ys.eraseIdx n)) b = some u := fun b u hb nb => by
              rw [upd_ne (fun e => nb (by rw [e]; exact .inr (List.mem_map.mpr ⟨w', hw', rfl⟩)))]; exact hb
            have R3 := new_lst R2 hw (l := l ++ [y]) (xs := xs ++ [z]) (RepL.append (RepL.away (c := (ct X ρ B).ban W) aw (RepL.ext (c := (ct X ρ B).ban W) e1 (Ct.ban_R R.rb) h5)) ⟨z, [], rfl, Rep.away (c := (ct X ρ B).ban W) aw rz, rfl⟩)
            refine ⟨w.2, xs, z, rfl, rfl, by rw [upd_ne hne]; exact h6, by rw [← h5.length]; exact hl, ?_⟩
            refine p W σc _ hW (fun b u hb nr nw => ?_) (.refl _ _) R3 jj
            have n1 : b ≠ w.2 := fun e => nw (by rw [e]; exact List.mem_map.mpr ⟨w, hw, rfl⟩)
            have n2 : b ≠ w'.2 := fun e => nw (by rw [e]; exact List.mem_map.mpr ⟨w', hw', rfl⟩)
            rw [upd_ne n1, upd_ne n2]; exact hb
          · rw [if_neg hl] at p; exact p.elim
    · rw [if_neg hk] at p; exact p.elim
  | _ => exact p.elim
end
end Tr

namespace Tr
open PySem PySem.Spec PyProof.Rows L2
/-! ### the built-in names that the module keeps -/
structure Bt (mg : Str → Option Value) : Prop where
  abs : mg "abs" = none
  all : mg "all" = none
  any : mg "any" = none
  bool : mg "bool" = none
  dict : mg "dict" = none
  enumerate : mg "enumerate" = none
  int : mg "int" = none
  isinstance : mg "isinstance" = none
  len : mg "len" = none
  list : mg "list" = none
  max : mg "max" = none
  min : mg "min" = none
  range : mg "range" = none
  sorted : mg "sorted" = none
  str : mg "str" = none
  sum : mg "sum" = none
  tuple : mg "tuple" = none
  zip : mg "zip" = none
section
variable {P : Program} {w : World} {K : PySem.W.Frag} {mg : Str → Option Value} {base : Heap}
/-- nothing promised -/
theorem fok_zero {x : Str} {f : Addr} {fd : FuncData} {ps : List Str} {n k : Nat} {md : Md} (hm : mg x = some (.ref f)) (hk : PySem.W.keepIn K (.ref f) = true) (hb : Binds K fd ps []) (hn : ps.length = n) :
    FOk P w K mg base x n k md (fun _ _ => .stuck) := by
  subst hn
  exact ⟨f, fd, ps, hm, hk, hb, rfl, ⟨fun vs H Q E h => h.1, fun A outer s H args us vs Q E hr he hb hv h => by
    obtain ⟨_, ρ, B, qs, g, _, _, p⟩ := h
    exact p.elim⟩⟩
end
/-! ### a, b = x, y with both sides owned -/
theorem Rel.banN {c : Ct} {W : Wn} {σ : Sl} {σc : L2.St} {H H' : Hp} {g g' : Rg} {a : Addr} (r : Rel c W σ σc H g) (e : Ext c H H') (k : RgOk c H' g') (ha : H a = none) (h' : H' a ≠ none) : Rel (c.ban1 a) W σ σc H' g' := by
  have bn : ∀ b, ((c.ban1 a).ban W).B b → (c.ban W).B b ∨ H b = none := fun b hb => by
    rcases hb with (hb | rfl) | hb
    · exact .inl (.inl hb)
    · exact .inr ha
    · exact .inl (.inr hb)
  refine ⟨r.len, k, fun b hb => .inl (r.rb b hb), fun b hb => ?_, r.ndk, r.nda, fun w hw => ?_, fun j q hq n => ?_, fun w hw => ?_⟩
  · rcases hb with hb | rfl
    · exact dom_ext e k (r.dom b hb)
    · exact h'
  · rintro (hb | hb)
    · exact r.wb w hw hb
    · exact r.wdom a (.inr (List.mem_map.mpr ⟨w, hw, hb⟩)) ha
  · obtain ⟨u, h1, h2⟩ := r.val j q hq n
    exact ⟨u, h1, Rep.ext (c := (c.ban1 a).ban W) e (fun b hb => .inl (.inl (r.rb b hb))) (Rep.ban (c := c.ban W) bn h2)⟩
  · obtain ⟨q, h1, h2, h3⟩ := r.own w hw
    exact ⟨q, h1, h2, Own.ext (c := (c.ban1 a).ban W) e (fun b hb => .inl (.inl (r.rb b hb))) (fun z => r.wb w hw (r.rb _ z)) (Own.ban (c := c.ban W) bn h3)⟩
section
variable {X : Cx} {E : XK} {Wx : WX} {fz Wk Wk' Wk1 : List Nat} {md : Md}
def dParW (i j : Nat) (da db : Den) : DenS := fun σ g => if i < σ.length ∧ j < σ.length then (da σ g).bindS fun p g => (db σ g).bindS fun q g => .next ((σ.set i (some p)).set j (some q)) g else .stuck
theorem RepX.ban1 {c : Ct} {W : Wn} {H : Hp} {a : Addr} {k : Str} {ns : List Str} {ps : List PV} {cls : Value} {d : Option Addr} (q : RepX ((c.ban1 a).ban W) H k ns ps cls d) : RepX c H k ns ps cls d := by
  obtain ⟨C, d', vs, h1, h2, h3, h4, h5, h6, h7⟩ := q
  exact ⟨C, d', vs, h1, h2, h3, fun z => h4 (.inl (.inl z)), h5, h6, RepL.ban (c := (c.ban1 a).ban W) (fun b z => .inl (.inl (.inl z))) h7⟩
theorem ss_parW (i j : Nat) {x y : Str} {a b : Expr} {da db : Den} {px py pt pos : Pos} {kt k2 pt2} (hc : X.calm = true) (hN : X.N.Nodup) (ha : SE X (WE0 E) Wk .frs a da) (hb : SE X (WE0 E) Wk .frs b db) (hwi : i ∉ Wk := by decide) (hwj : j ∉ Wk := by decide) (hzi : i ∉ fz := by decide) (hzj : j ∉ fz := by decide) (hi : X.N[i]? = some x := by rfl) (hj : X.N[j]? = some y := by rfl) (hij : i ≠ j := by decide)
    (hx : X.env.scope.names.lookup x = some .local := by rfl) (hy : X.env.scope.names.lookup y = some .local := by rfl) (hw : swappedStores [.Tuple [.Name x px, .Name y py] kt pt] (.Tuple [a, b] k2 pt2) X.env = pure (some [x, y]) := by rfl)
    (hs : swapsWithSole [.Tuple [.Name x px, .Name y py] kt pt] (.Tuple [a, b] k2 pt2) pos.line X.env = pure false := by rfl)
    (hs1 : starEach [a, b] X.env = (false, eval a X.env) :: starEach [b] X.env := by rfl) (hs2 : starEach [b] X.env = (false, eval b X.env) :: starEach [] X.env := by rfl) :
    SS X E fz Wk (j :: i :: Wk) md (.Assign [.Tuple [.Name x px, .Name y py] kt pt] (.Tuple [a, b] k2 pt2) pos) (dParW i j da db) := by
  obtain ⟨ta, hta, hha⟩ := ha
  obtain ⟨tb, htb, hhb⟩ := hb
  refine ⟨_, ps_par hc hN hi hj hij hx hy (pa_cons hta (pa_cons htb pa_nil hs2) hs1) hw hs, fun ρ B W σ σc H g D J hW R jc jj p => ?_⟩
  have p : PstS (ct X ρ B) W H (j :: i :: Wk) md (if i < σ.length ∧ j < σ.length then (da σ g).bindS fun p g => (db σ g).bindS fun q g => .next ((σ.set i (some p)).set j (some q)) g else .stuck) (jD D J) E := p
  by_cases hl : i < σ.length ∧ j < σ.length
  · rw [if_pos hl] at p
    refine hha ρ B W σ σc H g _ hW R ?_
    cases hda : da σ g with
    | ok x g1 =>
      rw [hda] at p
      have p : PstS (ct X ρ B) W H (j :: i :: Wk) md ((db σ g1).bindS fun q g => .next ((σ.set i (some x)).set j (some q)) g) (jD D J) E := p
      rintro v H1 e1 k1 ⟨a1, rfl, n1, o1⟩
      have R1 := R.setW e1 k1 (by rw [hW]; exact hwi) hl.1 n1 o1
      have R1' := R.banN e1 k1 n1 o1.there
      refine hhb ρ (fun b => B b ∨ b = a1) W σ σc H1 g1 _ hW R1' ?_
      cases hd : db σ g1 with
      | ok y g2 =>
        rw [hd] at p
        rintro u H2 e2 k2 ⟨a2, rfl, n2, o2⟩
        refine ⟨.ref a1, .ref a2, rfl, ?_⟩
        have e2 : Ext (ct X ρ B) H1 H2 := e2
        have k2 : RgOk (ct X ρ B) H2 g2 := k2
        have hj' : j ∉ ((i, a1) :: W).map (·.1) := fun z => by
          rcases List.mem_cons.mp z with e | z
          · exact hij e.symm
          · exact hwj (hW ▸ z)
        have R2 := R1.setW e2 k2 hj' (by simpa using hl.2) n2 (p := y) (Own.ban (c := ((ct X ρ (fun b => B b ∨ b = a1)).ban W).ban1 a2) (fun b hb => .inl (by
          rcases hb with (hb | hb) | hb
          · exact .inl (.inl (.inl hb))
          · rcases List.mem_cons.mp hb with rfl | hb
            · exact .inl (.inl (.inr rfl))
            · exact .inl (.inr hb)
          · exact .inr hb)) o2)
        refine p ((j, a2) :: (i, a1) :: W) _ H2 (by simp [hW]) (e1.trans e2).w (fun b hb => ?_) R2 (jc.set hzj (jc.set hzi jj))
        rcases List.mem_cons.mp hb with hb | hb
        · have hb : b = a2 := hb
          subst hb
          by_cases hr : (ct X ρ B).R b
          · exact absurd n2 (dom_ext e1 k1 (R.dom _ (R.rb _ hr)))
          · cases hq : H b with
            | none => exact .inr rfl
            | some o => have n2 : H1 b = none := n2; rw [e1 _ o hq hr] at n2; cases n2
        · rcases List.mem_cons.mp hb with hb | hb
          · have hb : b = a1 := hb
            subst hb
            exact .inr n1
          · exact .inl hb
      | exc kk ns ps g2 =>
        rw [hd] at p
        exact fun cls dd H' e k1 q => p cls dd H' (e1.trans (show Ext (ct X ρ B) H1 H' from e)).w k1 q.ban1
      | stuck => rw [hd] at p; exact p
    | exc kk ns ps g1 =>
      rw [hda] at p
      exact fun cls dd H' e k1 q => p cls dd H' e.w k1 q.unban
    | stuck => rw [hda] at p; exact p
  · rw [if_neg hl] at p; exact p.elim
end
end Tr

namespace Tr
open PySem PySem.Spec PyProof.Rows L2
/-! ### a list field that grows in a loop, right behind its making -/
section
variable {X : Cx} {E : XK} {md : Md}
abbrev pairL (k f : Str) (m : Int) (l : List PV) (c : Str) : PV := .ins c [k, f] [.int m, .lst l]
def loopE (c k f : Str) (m : Int) (gd : DenG) (dB : Den) : List PV → Sl → List PV → Rg → SRes
  | [], σ, l, g => .next (σ.set 0 (some (pairL k f m l c))) g
  | p :: r, σ, l, g => match gd p σ with
    | some σ1 => (match dB (σ1.set 0 (some (pairL k f m l c))) g with
      | .ok (.int v) g2 => if l.length < sizeLine then loopE c k f m gd dB r σ1 (l ++ [.int v]) g2 else .stuck
      | _ => .stuck)
    | none => .stuck
def dEnds (c k f : Str) (d3 : Den) (di : DenL) (gd : DenG) (dB : Den) (σ : Sl) (g : Rg) : SRes := match σ[(0 : Nat)]? with
  | some (some (.ins c' ns [.int m])) => if c' = c ∧ ns = [k] then (match d3 σ g with
    | .ok (.lst l) g => (match di (σ.set 0 none) g with
      | .ok items g => loopE c k f m gd dB items (σ.set 0 none) l g
      | _ => .stuck)
    | _ => .stuck) else .stuck
  | _ => .stuck
abbrev Ct.ban2 (c : Ct) (a z : Addr) : Ct := { c with B := fun b => c.B b ∨ b = a ∨ b = z }
theorem fill_rep {c : Ct} {σ : Sl} {σc : L2.St} {H : Hp} {g : Rg} {a z : Addr} {q : PV} (r : Rel (c.ban2 a z) [] σ σc H g) (rb : ∀ b, c.R b → c.B b) (h0 : σc[0]? = some (some (.ref a))) (hq : Rep c H q (.ref a)) : Rel c [] (σ.set 0 (some q)) σc H g where
  len := by simp [r.len]
  rg := r.rg
  rb := rb
  dom := fun b h => r.dom b (.inl h)
  ndk := r.ndk
  nda := r.nda
  wb := fun w h => by cases h
  val := fun i p h n => by
    by_cases hi : i = 0
    · subst hi
      have hl : 0 < σ.length := by
        have := (List.getElem?_eq_some_iff.mp h).1
        simpa using this
      rw [List.getElem?_set_self hl] at h
      cases h
      exact ⟨_, h0, Rep.ban (c := c) (fun b hb => .inl (hb.elim id fun z => by cases z)) hq⟩
    · rw [List.getElem?_set_ne (fun e => hi e.symm)] at h
      obtain ⟨u, h1, h2⟩ := r.val i p h n
      exact ⟨u, h1, Rep.ban (c := (c.ban2 a z).ban []) (fun b hb => .inl (.inl (hb.elim .inl fun z => by cases z))) h2⟩
  own := fun w h => by cases h
theorem fill_own {c : Ct} {σ : Sl} {σc : L2.St} {H : Hp} {g : Rg} {a z : Addr} {q : PV} (r : Rel (c.ban2 a z) [] σ σc H g) (rb : ∀ b, c.R b → c.B b) (nb : ¬ c.B a) (hl : 0 < σ.length) (h0 : σc[0]? = some (some (.ref a))) (hq : Own (c.ban [(0, a)]) H a q) : Rel c [(0, a)] (σ.set 0 (some q)) σc H g where
  len := by simp [r.len]
  rg := r.rg
  rb := rb
  dom := fun b h => r.dom b (.inl h)
  ndk := by simp
  nda := by simp
  wb := fun w h => by
    have : w = (0, a) := by simpa using h
    subst this; exact nb
  val := fun i p h n => by
    have hi : i ≠ 0 := fun e => n (by simp [e])
    rw [List.getElem?_set_ne (fun e => hi e.symm)] at h
    obtain ⟨u, h1, h2⟩ := r.val i p h (by simp)
    exact ⟨u, h1, Rep.ban (c := (c.ban2 a z).ban []) (fun b hb => .inl (.inl (hb.elim .inl fun z => .inr (.inl (by simpa using z))))) h2⟩
  own := fun w h => by
    have : w = (0, a) := by simpa using h
    subst this
    exact ⟨q, List.getElem?_set_self hl, h0, hq⟩
/-- the owned slot 0 laid aside -/
theorem rel_aside {c : Ct} {σ : Sl} {σc : L2.St} {H H' : Hp} {g g' : Rg} {a z : Addr} (r : Rel c [(0, a)] σ σc H g) (hz : H z = none) (k : RgOk c H' g') (e : ExtW c [(0, a)] H H') (ha : H' a ≠ none) (hz' : H' z ≠ none) : Rel (c.ban2 a z) [] (σ.set 0 none) σc H' g' where
  len := by simp [r.len]
  rg := k
  rb := fun b h => .inl (r.rb b h)
  dom := fun b h => by
    rcases h with h | rfl | rfl
    · by_cases hr : c.R b
      · obtain ⟨pp, hpp, hb⟩ := hr
        obtain ⟨_, _, h1, h2⟩ := k pp hpp
        rcases hb with rfl | rfl
        · rw [h1]; exact fun z => nomatch z
        · rw [h2]; exact fun z => nomatch z
      · cases q : H b with
        | none => exact absurd q (r.dom b h)
        | some o =>
          have ne : b ≠ a := fun z => r.wb (0, a) (by simp) (z ▸ h)
          rw [e b o q hr (by simpa using ne)]; exact fun z => nomatch z
    · exact ha
    · exact hz'
  ndk := .nil
  nda := .nil
  wb := fun w h => by cases h
  val := fun i p h n => by
    by_cases hi : i = 0
    · subst hi
      by_cases hl : 0 < σ.length
      · rw [List.getElem?_set_self hl] at h; cases h
      · rw [List.getElem?_eq_none (by rw [List.length_set]; omega)] at h; cases h
    · rw [List.getElem?_set_ne (fun e => hi e.symm)] at h
      obtain ⟨u, h1, h2⟩ := r.val i p h (by simpa using hi)
      refine ⟨u, h1, Rep.away (c := (c.ban2 a z).ban []) (fun b o q n => e b o q (fun z => n (.inl (.inl (r.rb _ z)))) (fun z => n (.inl (.inr (.inl (by simpa using z)))))) (Rep.ban (c := c.ban [(0, a)]) (fun b hb => ?_) h2)⟩
      rcases hb with (hb | rfl | rfl) | hb
      · exact .inl (.inl hb)
      · exact .inl (.inr (by simp))
      · exact .inr hz
      · cases hb
  own := fun w h => by cases h
theorem rel_updB {c : Ct} {σ : Sl} {σc : L2.St} {H : Hp} {g : Rg} {z : Addr} {o : HO} (r : Rel c [] σ σc H g) (hb : c.B z) (hr : ¬ c.R z) : Rel c [] σ σc (L2.upd H z o) g where
  len := r.len
  rg := fun p hp => by
    obtain ⟨h1, h2, h3, h4⟩ := r.rg p hp
    have n1 : p.1 ≠ z := fun e => hr ⟨p, hp, .inl e.symm⟩
    have n2 : p.2 ≠ z := fun e => hr ⟨p, hp, .inr e.symm⟩
    exact ⟨h1, h2, by rw [upd_ne n1]; exact h3, by rw [upd_ne n2]; exact h4⟩
  rb := r.rb
  dom := fun b h => by
    by_cases e : b = z
    · subst e; rw [upd_same]; exact fun z => nomatch z
    · rw [upd_ne e]; exact r.dom b h
  ndk := .nil
  nda := .nil
  wb := fun w h => by cases h
  val := fun i p h n => by
    obtain ⟨u, h1, h2⟩ := r.val i p h n
    exact ⟨u, h1, Rep.away (c := c.ban []) (fun b u q n => by rw [upd_ne (fun e => n (.inl (by rw [e]; exact hb)))]; exact q) h2⟩
  own := fun w h => by cases h
theorem dEnds_cases (c k f : Str) (d3 : Den) (di : DenL) (gd : DenG) (dB : Den) (σ : Sl) (g : Rg) : dEnds c k f d3 di gd dB σ g = .stuck ∨ ∃ m l g1 items g2, σ[(0 : Nat)]? = some (some (.ins c [k] [.int m])) ∧ d3 σ g = .ok (.lst l) g1 ∧ di (σ.set 0 none) g1 = .ok items g2 ∧ dEnds c k f d3 di gd dB σ g = loopE c k f m gd dB items (σ.set 0 none) l g2 := by
  unfold dEnds
  split
  · rename_i c' ns m e
    split
    · rename_i h
      obtain ⟨rfl, rfl⟩ := h
      split
      · rename_i l g1 e1
        split
        · rename_i items g2 e2
          exact .inr ⟨m, l, g1, items, g2, e, e1, e2, rfl⟩
        · exact .inl rfl
      · exact .inl rfl
    · exact .inl rfl
  · exact .inl rfl

theorem sss_ends {c f k : Str} {x : Str} {e3 e tg iter : Expr} {rest : List Stmt} {px px2 pos' pos p2 apos cpos pos5 pos4 : Pos} {d3 dB : Den} {di : DenL} {gd : DenG} {gs : List Nat} {dr : DenS} (T : ClF X.K X.mg c) (nf : ∀ C, X.mg c = some (.ref C) → NoAttr X.K C f) (hkf : k ≠ f) (hfk : (f == k) = false)
    (hp : PassesOwn (model X.prog X.w) X.A X.env X.xe) (hc : X.calm = true)
    (h3 : SE X (WE0 E) [0] .frs e3 d3) (hi : SI X (WE0 E) [] tg iter di) (hg : SG X [] gs tg gd) (he : SE X (WE0 E) [] .rep e dB) (hrest : SSs X E [0] [0] [0] md rest dr) (hz : 0 ∉ gs := by decide)
    (hN : X.N[0]? = some x := by rfl) (hv : Vis X.env.scope x := by first | exact Or.inl rfl | exact Or.inr (Or.inl rfl) | exact Or.inr (Or.inr rfl)) (hd : (x == ("__debug__" : Str)) = false := by decide)
    (hcd : (x == ("__classdict__" : Str)) = false := by decide) (hs3 : swapsWith e3 (some (.Attribute (.Name x px) f pos')) pos.line X.env = pure false := by rfl)
    (hs4 : ∀ x, foldedSetIterable iter X.env x = pure x := by intro _; rfl)
    (hb0 : attributeBase (.Name x px2) f X.env (eval (.Name x px2) X.env) = eval (.Name x px2) X.env := by rfl)
    (hbase : attributeBase (.Attribute (.Name x px2) f p2) "append" X.env (eval (.Attribute (.Name x px2) f p2) X.env) = eval (.Attribute (.Name x px2) f p2) X.env := by rfl)
    (hfew : ((backTo cpos (starEach [e] X.env)).all (fun x => !x.1) && (backToKw cpos (keywordEach [] X.env)).all (fun x => x.1.isSome) && decide ([e].length + ([] : List Keyword).length + (if ([] : List Keyword).isEmpty then 0 else 1) < 30)) = true := by rfl)
    (hline : (apos.endLine == cpos.line) = true := by rfl) (hs : starEach [e] X.env = (false, eval e X.env) :: starEach [] X.env := by rfl) (hplain : (backTo cpos (starEach [] X.env)).any (·.1) = false := by rfl)
    (hsw : swapsWith (.Call (.Attribute (.Attribute (.Name x px2) f p2) "append" apos) [e] [] cpos) none pos5.line X.env = pure false := by rfl) :
    SSs X E [0] [0] [0] md (.Assign [.Attribute (.Name x px) f pos'] e3 pos :: .For tg iter [.Expr (.Call (.Attribute (.Attribute (.Name x px2) f p2) "append" apos) [e] [] cpos) pos5] [] pos4 :: rest) (dSeq (dEnds c k f d3 di gd dB) dr) := by
  obtain ⟨t3, ht3, hh3⟩ := h3
  obtain ⟨wi, hwi, hdi⟩ := hi
  obtain ⟨tgt, htg, hhg⟩ := hg
  obtain ⟨te, hte, hhe⟩ := he
  obtain ⟨tr, htr, hhr⟩ := hrest
  refine ⟨_, pss_cons (ps_fld (pe_var hN hv hd hcd) ht3 hs3) (pss_cons (ps_for hp hc hwi htg (pss_one (ps_expr (pe_bm PySem.F.plainAttrs_list PySem.F.slot_list_append PySem.F.type_list_append mt_append (pe_fld (pe_var hN hv hd hcd) hb0) (pa_cons hte pa_nil hs) hbase hfew hline hs hplain) hsw)) hs4) htr), fun ρ B W σ σc H g D J hW R jc j p => ?_⟩
  cases W with
  | nil => cases hW
  | cons w W' =>
    cases W' with
    | cons _ _ => simp at hW
    | nil =>
      obtain ⟨i0, a⟩ := w
      have hi0 : i0 = 0 := by simpa using hW
      subst hi0
      have p : PstS (ct X ρ B) [(0, a)] H [0] md (match dEnds c k f d3 di gd dB σ g with | .next σ' g' => dr σ' g' | r => r) (jD D J) E := p
      rcases dEnds_cases c k f d3 di gd dB σ g with es | ⟨m, l, g1, items, g2, e0, e1, e2, e4⟩
      · rw [es] at p; exact p.elim
      · rw [e4] at p
        obtain ⟨C, dx, vs, h2, hm, h4, hl, h5⟩ := own_ins R (w := (0, a)) (by simp) e0
        obtain ⟨v0, r0, rfl, h5a, h5b⟩ := h5
        have h5a : v0 = .int m := h5a
        have h5b : r0 = [] := h5b
        subst h5a h5b
        obtain ⟨C', hm', hcl⟩ := T.ex
        have hm : X.mg c = some (.ref C) := hm
        have : C' = C := by rw [hm] at hm'; cases hm'; rfl
        subst this
        have nra : ¬ (ct X ρ B).R a := fun z => R.wb (0, a) (by simp) (R.rb _ z)
        refine hh3 ρ B [(0, a)] σ σc H g _ rfl R ?_
        rw [e1]
        rintro v H1 x1 k1 ⟨z, rfl, nz, oz⟩
        obtain ⟨xs, hz1, hl1⟩ := oz
        have hz1 : H1 z = some (.lst xs) := hz1
        have ha1 : H1 a = some (.ins C' dx ([k].zip [.int m])) := x1 _ _ h4 nra
        have naz : z ≠ a := fun e => by subst e; have h4 : H z = _ := h4; have nz : H z = none := nz; rw [nz] at h4; cases h4
        have k1 : RgOk (ct X ρ B) H1 g1 := k1
        have nrz : ¬ (ct X ρ B).R z := fun q => by have nz : H z = none := nz; exact R.dom z (R.rb _ q) nz
        refine ⟨_, h2, a, C', dx, _, rfl, ha1, hcl, nf _ hm, by simp, ?_⟩
        have ef : putF f (V.ref z) ([k].zip [V.int m]) = [k, f].zip [V.int m, V.ref z] := by simp [putF, hkf]
        rw [ef]
        -- the instance with its new list
        have k2 : RgOk (ct X ρ B) (L2.upd H1 a (.ins C' dx ([k, f].zip [V.int m, V.ref z]))) g1 := fun pp hpp => by
          obtain ⟨q1, q2, q3, q4⟩ := k1 pp hpp
          have n1 : pp.1 ≠ a := fun e => nra ⟨pp, hpp, .inl e.symm⟩
          have n2 : pp.2 ≠ a := fun e => nra ⟨pp, hpp, .inr e.symm⟩
          exact ⟨q1, q2, by rw [upd_ne n1]; exact q3, by rw [upd_ne n2]; exact q4⟩
        have x2 : ExtW (ct X ρ B) [(0, a)] H (L2.upd H1 a (.ins C' dx ([k, f].zip [V.int m, V.ref z]))) := fun b o q nr nw => by
          rw [upd_ne (fun e => nw (by simp [e]))]
          exact x1 b o q nr
        let H2 := L2.upd H1 a (.ins C' dx ([k, f].zip [V.int m, V.ref z]))
        have ha2 : H2 a = some (.ins C' dx ([k, f].zip [V.int m, V.ref z])) := upd_same
        have hz2 : H2 z = some (.lst xs) := by show L2.upd H1 a _ z = _; rw [upd_ne naz]; exact hz1
        have hne : ∀ {o : Option HO} {q : HO}, o = some q → o ≠ none := fun h => by rw [h]; exact fun z => nomatch z
        have R2 : Rel ((ct X ρ B).ban2 a z) [] (σ.set 0 none) σc H2 g1 := rel_aside R nz k2 x2 (hne ha2) (hne hz2)
        have hl2 : RepL ((ct X ρ B).ban2 a z) H2 l xs := by
          refine RepL.away (c := (ct X ρ B).ban2 a z) (fun b o q n => ?_) (RepL.ban (c := ((ct X ρ B).ban [(0, a)]).ban1 z) (fun b hb => .inl ?_) hl1)
          · show L2.upd H1 a _ b = _
            rw [upd_ne (fun e => n (.inr (.inl e)))]; exact q
          · rcases hb with hb | rfl | rfl
            · exact .inl (.inl hb)
            · exact .inl (.inr (by simp))
            · exact .inr rfl
        have hfz : ∀ i ∈ [0], i ∉ gs := fun i h => by
          have e : i = 0 := by simpa using h
          exact e ▸ hz
        have l0 : 0 < σ.length := (List.getElem?_eq_some_iff.mp e0).1
        have cB : ((ct X ρ B).ban2 a z) = ct X ρ (fun b => B b ∨ b = a ∨ b = z) := rfl
        refine hdi ρ (fun b => B b ∨ b = a ∨ b = z) [] _ σc H2 g1 _ rfl R2 ?_
        rw [e2]
        intro It H3 x3 k3 wk
        have x3 : Ext (ct X ρ B) H2 H3 := x3
        have k3 : RgOk (ct X ρ B) H3 g2 := k3
        refine ⟨fun i mm σc H' => mm = items.length - i ∧ i ≤ items.length ∧ J σc ∧ σc[0]? = some (some (.ref a)) ∧ ∃ σ0 l xs g, Rel ((ct X ρ B).ban2 a z) [] σ0 σc H' g ∧ 0 < σ0.length ∧
            H' a = some (.ins C' dx ([k, f].zip [V.int m, V.ref z])) ∧ H' z = some (.lst xs) ∧ RepL ((ct X ρ B).ban2 a z) H' l xs ∧ Stay (((ct X ρ B).ban2 a z).ban []) H3 H' ∧ ExtW (ct X ρ B) [(0, a)] H H' ∧
            PstS (ct X ρ B) [(0, a)] H [0] md (match loopE c k f m gd dB (items.drop i) σ0 l g with | .next σ' g' => dr σ' g' | r => r) (jD D J) E,
          ⟨items.length, by simp, Nat.zero_le _, j, h2, σ.set 0 none, l, xs, g2, R2.ext x3 k3, by simpa using l0, x3 _ _ ha2 nra, x3 _ _ hz2 nrz, RepL.ext (c := (ct X ρ B).ban2 a z) x3 (fun b hb => .inl (R.rb b hb)) hl2, fun b o q _ => q, fun b o q nr nw => x3 b o (x2 b o q nr nw) nr, by simpa using p⟩, ?_⟩
        rintro i mm τ H4 ⟨rfl, hi, j4, s0, σ0, l4, xs4, g4, R4, l04, ha4, hz4, hl4, st4, ex4, p⟩
        have repA : ∀ {Hx : Hp} {lx : List PV} {xx : List V}, Hx a = some (.ins C' dx ([k, f].zip [V.int m, V.ref z])) → Hx z = some (.lst xx) → RepL ((ct X ρ B).ban2 a z) Hx lx xx → Rep (ct X ρ B) Hx (pairL k f m lx c) (.ref a) := fun q1 q2 q3 =>
          ⟨a, C', dx, _, rfl, R.wb (0, a) (by simp), hm, q1, rfl, ⟨_, _, rfl, rfl, _, _, rfl, ⟨z, _, rfl, ⟨fun y => R.dom z y nz, q2⟩, RepL.ban (c := (ct X ρ B).ban2 a z) (fun b hb => .inl (.inl hb)) q3⟩, rfl⟩⟩
        by_cases hlt : i < items.length
        · refine .inr ⟨wk.go H4 i st4 hlt, fun τ' H' => ∃ mm', mm' < items.length - i ∧ (mm' = items.length - (i + 1) ∧ i + 1 ≤ items.length ∧ J τ' ∧ τ'[0]? = some (some (.ref a)) ∧ ∃ σ0 l xs g, Rel ((ct X ρ B).ban2 a z) [] σ0 τ' H' g ∧ 0 < σ0.length ∧
            H' a = some (.ins C' dx ([k, f].zip [V.int m, V.ref z])) ∧ H' z = some (.lst xs) ∧ RepL ((ct X ρ B).ban2 a z) H' l xs ∧ Stay (((ct X ρ B).ban2 a z).ban []) H3 H' ∧ ExtW (ct X ρ B) [(0, a)] H H' ∧
            PstS (ct X ρ B) [(0, a)] H [0] md (match loopE c k f m gd dB (items.drop (i + 1)) σ0 l g with | .next σ' g' => dr σ' g' | r => r) (jD D J) E), fun τ' H' h => h, fun x H5 y => ?_⟩
          obtain ⟨sm, q, eq, rq⟩ := wk.yld H4 i x H5 (((ct X ρ B).ban2 a z).ban []).B st4 hlt y R4.wdom (fun b hb => .inl hb)
          have R5 := R4.ext (Ext.of sm) (R4.rg.same sm)
          have ed : items.drop i = q :: items.drop (i + 1) := by
            rw [List.drop_eq_getElem_cons hlt]
            rw [List.getElem?_eq_getElem hlt] at eq
            cases eq
            rfl
          rw [ed] at p
          simp only [loopE] at p
          cases eg : gd q σ0 with
          | none => rw [eg] at p; exact p.elim
          | some σ1 =>
            rw [eg] at p
            simp only [] at p
            refine hhg ρ (fun b => B b ∨ b = a ∨ b = z) [] σ0 σ1 τ H5 g4 q x _ rfl R5 rq eg fun τ1 R6 ag => ?_
            have s1 : τ1[0]? = some (some (.ref a)) := (ag.2 0 hz).trans s0
            have hl1' : 0 < σ1.length := by
              have := (List.getElem?_eq_some_iff.mp s1).1
              rw [R6.len]; exact this
            have ha5 := sm _ _ ha4
            have hz5 := sm _ _ hz4
            have hl5 := replSame (c := (ct X ρ B).ban2 a z) sm hl4
            have F5 := fill_rep R6 R.rb s1 (repA ha5 hz5 hl5)
            refine ⟨_, s1, a, C', dx, _, .ref z, rfl, ha5, hcl, nf _ hm, by simp [List.lookup, hfk], .inl ⟨rfl, xs4, .of hz5⟩, ?_⟩
            refine hhe ρ B [] _ τ1 H5 g4 _ rfl F5 ?_
            cases eb : dB (σ1.set 0 (some (pairL k f m l4 c))) g4 with
            | ok v g6 =>
              rw [eb] at p
              cases v with
              | int v =>
                simp only [] at p
                by_cases hlen : l4.length < sizeLine
                · rw [if_pos hlen] at p
                  intro u H6 e6 k6 q6
                  have q6 : u = .int v := q6
                  subst q6
                  have e6 : Ext (ct X ρ B) H5 H6 := e6
                  have k6 : RgOk (ct X ρ B) H6 g6 := k6
                  have ha6 := e6 _ _ ha5 nra
                  have hz6 := e6 _ _ hz5 nrz
                  refine ⟨z, xs4, .int v, rfl, rfl, hz6, by rw [← hl5.length]; exact hlen, ?_⟩
                  have bz : ((ct X ρ B).ban2 a z).B z := .inr (.inr rfl)
                  have R7 := rel_updB (o := .lst (xs4 ++ [.int v])) (R6.ext (g' := g6) (show Ext ((ct X ρ B).ban2 a z) H5 H6 from e6) k6) bz nrz
                  have nz' : ∀ b, ¬ (((ct X ρ B).ban2 a z).ban []).B b → b ≠ z := fun b n e => n (.inl (by rw [e]; exact bz))
                  refine ⟨items.length - (i + 1), by omega, rfl, hlt, jc.agree ag hfz j4, s1, σ1, l4 ++ [.int v], xs4 ++ [.int v], g6, R7, hl1', by rw [upd_ne naz.symm]; exact ha6, upd_same, ?_, fun b o q n => ?_, fun b o q nr nw => ?_, p⟩
                  · exact RepL.append (RepL.away (c := (ct X ρ B).ban2 a z) (fun b o q n => by rw [upd_ne (fun e => n (by rw [e]; exact bz))]; exact q) (RepL.ext (c := (ct X ρ B).ban2 a z) e6 (fun b hb => .inl (R.rb b hb)) hl5)) ⟨_, _, rfl, rfl, rfl⟩
                  · rw [upd_ne (nz' b n)]
                    exact e6 b o (sm b o (st4 b o q n)) (fun r => n (.inl (.inl (R.rb _ r))))
                  · have ne : b ≠ z := fun e => by subst e; have nz : H b = none := nz; rw [nz] at q; cases q
                    rw [upd_ne ne]
                    exact e6 b o (sm b o (ex4 b o q nr nw)) nr
                · rw [if_neg hlen] at p; exact p.elim
              | _ => exact p.elim
            | exc _ _ _ _ => rw [eb] at p; exact p.elim
            | stuck => rw [eb] at p; exact p.elim
        · have e : i = items.length := by omega
          subst e
          refine .inl ⟨wk.stop H4 _ st4 (Nat.le_refl _), ?_⟩
          rw [List.drop_length] at p
          simp only [loopE] at p
          have Rf := fill_own R4 R.rb (R.wb (0, a) (by simp)) l04 s0 (q := pairL k f m l4 c) ⟨C', dx, _, hm, ha4, rfl, ⟨_, _, rfl, rfl, _, _, rfl, ⟨z, _, rfl, ⟨fun y => ?_, hz4⟩, RepL.ban (c := (ct X ρ B).ban2 a z) (fun b hb => .inl ?_) hl4⟩, rfl⟩⟩
          · exact hhr ρ B [(0, a)] _ τ H4 g4 D J rfl Rf jc j4 (PstS.from ex4 Rf.rg (.refl _ _) p)
          · rcases y with y | y
            · exact R.dom z y nz
            · exact naz (by simpa using y)
          · rcases hb with hb | hb
            · exact .inl hb
            · exact .inr (.inl (by simpa using hb))
end
end Tr

namespace Tr
open PySem PySem.Spec PyProof.Rows L2
/-! ### the drawing's start, a law's end -/
/-- [list(script), 0, 0, 29] -/
def spSt (K : PySem.W.Frag) : Sp := fun vs H Q E => ∃ (a : Addr) (ns : List Int), vs = [.ref a] ∧ SqL K H a (ns.map V.int) ∧
  ∀ (q p : Addr) (H' : Hp), H q = none → H p = none → p ≠ q → Same H H' → H' p = some (.lst [.ref q, .int 0, .int 0, .int 29]) → H' q = some (.lst (ns.map V.int)) → Q (.ref p) H'
def spLaw (n : Nat) (K : PySem.W.Frag) : Sp := fun vs H Q E => ∃ (a : Addr) (ns : List Int), vs = [.ref a] ∧ ns.length ≤ n ∧ SqL K H a (ns.map V.int) ∧ ∀ H', Q (.bl true) H'
/-- the slots at a law's start: the script's name is not read again -/
def lawP (n : Nat) : Sl := none :: some .rng :: List.replicate (n - 2) none
section
variable {P : Program} {w : World} {K : PySem.W.Frag} {mg : Str → Option Value} {base : Heap}
theorem start_read {X : Cx} {ns : List Int} {a : Addr} {H : Hp} {σ : L2.St} {Q : VK} (h0 : σ[0]? = some (some (.ref a))) (hs : SqL X.K H a (ns.map V.int)) (p : ∀ (q p : Addr) (H' : Hp), H q = none → H p = none → p ≠ q → Same H H' → H' p = some (.lst [.ref q, .int 0, .int 0, .int 29]) → H' q = some (.lst (ns.map V.int)) → Q (.ref p) H') :
    tLst (tCons (tCB (fun xs H Q => ∃ p ys, xs = [V.ref p] ∧ (SqL X.K H p ys ∨ SqT X.K H p ys) ∧ ∀ l, H l = none → Q (.ref l) (upd H l (.lst ys))) (tCons (tVar 0) tNil)) (tCons (tC (.int 0)) (tCons (tC (.int 0)) (tCons (tC (.int 29)) tNil)))) σ H Q := by
  refine ⟨_, h0, a, _, rfl, .inl hs, fun l hl => ⟨by show 4 ≤ sizeLine; decide, fun pp hp => ?_⟩⟩
  have hne : pp ≠ l := fun e => by subst e; rw [upd_same] at hp; cases hp
  have hp0 : H pp = none := by rw [upd_ne hne] at hp; exact hp
  exact p l pp _ hl hp0 hne (fun b o h => by rw [upd_ne (ne_of_none h hp0), upd_ne (ne_of_none h hl)]; exact h) upd_same (by rw [upd_ne hne.symm]; exact upd_same)
structure StOk (P : Program) (w : World) (K : PySem.W.Frag) (mg : Str → Option Value) (base : Heap) : Prop where
  ex : ∃ (f : Addr) (fd : FuncData), mg "_law_start" = some (.ref f) ∧ PySem.W.keepIn K (.ref f) = true ∧ Binds K fd ["script"] [] ∧ FnOk P w K mg base (L2.CX P w) 1 f fd ["script"] (spSt K)
theorem law_rel {N : List Str} {n : Nat} {a p q : Addr} {ns : List Int} {H' : Hp} (hn : N.length = n) (h2 : 2 ≤ n) (hl : ns.length ≤ 63) (hne : p ≠ q) (hp : H' p = some (.lst [.ref q, .int 0, .int 0, .int 29])) (hq : H' q = some (.lst (ns.map V.int))) :
    Rel ⟨K, mg, some (p, q), fun b => b = p ∨ b = q⟩ [] (lawP n) ((L2.start N [.ref a]).set 1 (some (.ref p))) H' ⟨ns, 0, 0, 29⟩ where
  len := by simp [lawP, L2.start, hn]; omega
  rg := fun pp h => by
    have h : some (p, q) = some pp := h
    cases h
    exact ⟨hne, ⟨Int.le_refl 0, Int.le_refl 0, by show (0 : Int) ≤ 29; decide, by show (29 : Int) < 2147483647; decide, hl⟩, hp, hq⟩
  rb := fun b ⟨pp, h, hb⟩ => by
    have h : some (p, q) = some pp := h
    cases h
    exact hb
  dom := fun b h => by
    rcases h with rfl | rfl
    · rw [hp]; exact fun z => nomatch z
    · rw [hq]; exact fun z => nomatch z
  ndk := .nil
  nda := .nil
  wb := fun w h => by cases h
  val := fun i pv h _ => by
    match i, h with
    | 0, h => cases h
    | 1, h =>
      cases h
      refine ⟨.ref p, ?_, (p, q), rfl, rfl⟩
      have : 1 < (L2.start N [V.ref a]).length := by simp [L2.start, hn]; omega
      rw [List.getElem?_set_self this]
    | i + 2, h =>
      have h : (List.replicate (n - 2) (none : Option PV))[i]? = some (some pv) := h
      rw [List.getElem?_replicate] at h
      split at h <;> cases h
  own := fun w h => by cases h
theorem law_go {X : Cx} {E : XK} {N : List Str} {n : Nat} {rest : List Stmt} {d : DenS} {Wk' : List Nat} {a : Addr} {ns : List Int} {g' : Rg} {Q : VK} {H : Hp} {D : Ends} (hD : D.rt = Q) (hd : SSs X E [] [] Wk' .rep rest d) (hn : N.length = n) (h2 : 2 ≤ n) (hl : ns.length ≤ 63) (hg : d (lawP n) ⟨ns, 0, 0, 29⟩ = .ret (.bl true) g') (hq : ∀ H', Q (.bl true) H') :
    ∃ t, PSs X rest t ∧ ∀ q p H', H q = none → H p = none → p ≠ q → Same H H' → H' p = some (.lst [.ref q, .int 0, .int 0, .int 29]) → H' q = some (.lst (ns.map V.int)) → t D ((L2.start N [.ref a]).set 1 (some (.ref p))) H' := by
  obtain ⟨t, ht, hh⟩ := hd
  refine ⟨t, ht, fun q p H' hq0 hp0 hne sm hp hqq => ?_⟩
  refine hh (some (p, q)) (fun b => b = p ∨ b = q) [] (lawP n) _ H' ⟨ns, 0, 0, 29⟩ D (fun _ => True) rfl (law_rel hn h2 hl hne hp hqq) (fun _ _ _ _ _ => trivial) trivial ?_
  rw [hg]
  intro v H2 e k hv
  have hv : v = .bl true := hv
  subst hv
  have e2 : D.rt (.bl true) H2 = Q (.bl true) H2 := by rw [hD]
  exact e2 ▸ hq H2
end
end Tr

namespace Tr
open PySem PySem.Spec PyProof.Rows L2
/-- the law's own end -/
theorem law_walk {l : PySem.W.OpenLaw} (k : Nat) {q : Program} {loose : List Str} {XP : (Str → Option Value) → Heap → Prop} {YP : World → Heap → Prop} {d : DefRec} {K : Params → PySem.W.Frag} (hn : l.most = some 63) (hdf : d.params.defaults = []) (hr : Room k callerA)
    (hY : ∀ (w : World) (h : Heap), YP w h → (K w.params).In h)
    (F : ∀ (w : World) (mg : Str → Option Value) (fa : Addr) (h : Heap), (K w.params).In h → h.Ns mainGlobals mg → mg d.name = some (.ref fa) →
      ∃ fd : FuncData, (∀ (s : Shared) (v : Value), BindsTo s fd ⟨[v], []⟩ [("script", v)]) ∧ ∀ base : Heap, (K w.params).In base → base.Ns mainGlobals mg → FnOk l.prog w (K w.params) mg base (L2.CX l.prog w) k fa fd ["script"] (spLaw 63 (K w.params))) :
    PySem.W.WalkO q loose XP YP l.row.toRowW d [] (fun f vs => PySem.call f vs) :=
  L2.walk_of (l := l) (n := 63) (k := k) (x := "script") (CX := fun w => L2.CX l.prog w) (sp := fun w => spLaw 63 (K w.params)) hn (by decide) hdf hr hY F
    (fun w H a ns hl _ hS => ⟨a, ns, rfl, hl, hS, fun _ => rfl⟩)
    fun w H s e s' h => by
      obtain ⟨_, _, _, _, _, _, _, _, _, _, _, _, z⟩ := h
      exact z
end Tr

namespace Tr
open PySem PySem.Spec PyProof.Rows L2
def top (i : Nat) : Stmt := PySem.Challenge.pw_foldflat_k13_whole_stamps.main.body.getD i (.Pass ⟨0, 0, 0, 0⟩)
abbrev s_law_pick : Stmt := top 40
theorem sc_law_pick : FnScope ["state", "many", "cell", "digit", "mixed"] ["state", "many"] (defScope s_law_pick) := ⟨rfl, rfl, rfl, by decide +kernel, rfl, by decide +kernel, by decide +kernel⟩
section
variable {P : Program} {w : World} {K : PySem.W.Frag} {mg : Str → Option Value} {base : Heap}
theorem ok_pick {f : Addr} {fd : FuncData} (F : Fun K "_law_pick" "_law_pick" s_law_pick f fd) (hm : mg "_law_pick" = some (.ref f)) (hb : Binds K fd ["state", "many"] []) (bAbs : mg "abs" = none) (bInt : mg "int" = none) :
    FOk P w K mg base "_law_pick" 2 1 .rep dPick := by
  refine ⟨f, fd, _, hm, F.kp, hb, rfl, ?_⟩
  refine F.okX sc_law_pick (fun vs H Q E h => h.1) fun cdv A outer s H vs Q E hr h => ?_
  obtain ⟨hl, ρ, B, ps, g, St, rp, p⟩ := h
  have nd := sc_law_pick.nd
  -- what is handed
  obtain ⟨n, rfl, hn⟩ : ∃ n, ps = [.rng, .int n] ∧ (0 < n ∧ n < 1000000 ∧ g.cnt < 1000000000) := by
    unfold dPick at p
    split at p
    · rename_i n
      refine ⟨n, rfl, ?_⟩
      by_cases h : 0 < n ∧ n < 1000000 ∧ g.cnt < 1000000000
      · exact h
      · rw [if_neg h] at p; exact p.elim
    · exact p.elim
  have p : PstD ⟨K, mg, ρ, B⟩ H .rep (.ok (.int (pickR g n)) (pickG g n)) Q E := by
    have e : dPick [.rng, .int n] g = .ok (.int (pickR g n)) (pickG g n) := if_pos hn
    rw [e] at p
    exact p
  obtain ⟨v, r, rfl, ⟨⟨p0, q0⟩, hρ, rfl⟩, u, r', rfl, hu, hr'⟩ := rp
  have hu : u = .int n := hu
  have hr' : r' = [] := hr'
  subst hu hr'
  have hρ : ρ = some (p0, q0) := hρ
  obtain ⟨hne, gok, hp, hq⟩ := St.rg (p0, q0) hρ
  have hne : p0 ≠ q0 := hne
  obtain ⟨g1, g2, g3, g4, g5⟩ := gok
  have I0 : pickI p0 q0 H H g.cells g.cur g.cnt g.mix := ⟨hp, hq, fun b o e _ _ => e⟩
  have hR : ∃ tR, PSs (cxOf (L2.CX P w) P w K mg base ["state", "many", "cell", "digit", "mixed"] "_law_pick" (defScope s_law_pick) f cdv A outer s H E) ((defBody s_law_pick).drop 2) tR ∧
      ∀ (H3 : Hp) (x : Option V) (cells : List Int) (cur mix : Int), pickI p0 q0 H H3 cells cur (g.cnt + 1) mix → 0 ≤ cur → 0 ≤ mix → mix < 2147483647 → cells.length ≤ 63 → drain g.cells g.cur g.mix = (cells, cur, mix) → tR { nx := fun _ H' => Q .non H', rt := Q } [some (.ref p0), some (.int n), x, none, none] H3 := by
    refine ⟨_, (pss_cons (ps_if (pt_cmpR op_gt (pe_ix ix_list (pv 0) pe_int (fun _ _ => rfl)) pe_int (nomark _))
      (pss_cons (ps_set (i := 3) nd rfl (Or.inl rfl) (pe_op op_mod (pe_callTy call_int1 (by rfl) bInt (by decide +kernel) (pa_cons (pe_ix ix_list (pv 0) pe_int (fun _ _ => rfl)) pa_nil)) (pv 1)))
      (pss_cons (ps_asg (pe_op op_fdivN (pe_ix ix_list (pv 0) pe_int (fun _ _ => rfl)) (pv 1)) (pg_sub (pv 0) pe_int set_list))
      (pss_one (ps_ret (pv 3))))) pss_nil)
    (pss_cons (ps_set (i := 4) nd rfl (Or.inl rfl) (pe_op op_mod (pe_callTy call_int1 (by rfl) bInt (by decide +kernel) (pa_cons (pe_op op_pow (pe_op op_add (pe_op op_add (pe_ix ix_list (pv 0) pe_int (fun _ _ => rfl)) (pe_op op_mul pe_int (pe_ix ix_list (pv 0) pe_int (fun _ _ => rfl)))) pe_int) pe_int) pa_nil)) pe_int))
    (pss_one (ps_ret (pe_op op_mod (pe_op op_mod (pe_callTy call_int1 (by rfl) bInt (by decide +kernel) (pa_cons (pe_op op_pow (pe_op op_add (pe_op op_add (pe_op op_mul (pv 4) pe_int) (pe_op op_mul pe_int (pe_ix ix_list (pv 0) pe_int (fun _ _ => rfl)))) pe_int) pe_int) pa_nil)) pe_int) (pv 1)))))), ?_⟩
    intro H3 x cells cur mix I3 c1 c3 c4 c5 hd
    have fin : ∀ (r : Int) (g' : Rg) (H4 : Hp), r = pickR g n → g' = pickG g n → pickI p0 q0 H H4 g'.cells g'.cur g'.cnt g'.mix → g'.Ok → Q (.int r) H4 := by
      rintro r g' H4 rfl rfl I4 ok
      refine p _ H4 (fun b o e nr => I4.2.2 b o e (fun z => nr ⟨(p0, q0), hρ, .inl z⟩) (fun z => nr ⟨(p0, q0), hρ, .inr z⟩)) (fun pq hpq => ?_) rfl
      have hpq : ρ = some pq := hpq
      rw [hρ] at hpq
      cases hpq
      exact ⟨hne, ok, I4.1, I4.2.1⟩
    refine ⟨_, rfl, p0, _, 1, _, rfl, rfl, .of I3.1, rfl, _, _, rfl, rfl, _, rfl, ?_⟩
    by_cases hc : 0 < cur
    · have e : decide (0 < cur) = true := by simp [hc]
      rw [e]
      refine iteT ?_
      refine ⟨_, rfl, p0, _, 1, _, rfl, rfl, .of I3.1, rfl, .inl ⟨cur, rfl, _, rfl, _, _, rfl, rfl, hn.1, ?_⟩⟩
      refine ⟨_, rfl, p0, _, 1, _, rfl, rfl, .of I3.1, rfl, _, rfl, _, _, rfl, rfl, ⟨by omega, by omega⟩, _, rfl, p0, _, 1, 1, rfl, rfl, I3.1, rfl, _, rfl, ?_⟩
      have I4 : pickI p0 q0 H _ cells (cur.fdiv n) (g.cnt + 1) mix := I3.setP (cur' := cur.fdiv n) (cnt' := g.cnt + 1) (mix' := mix) hne (xs := _) rfl
      have hq : 0 ≤ cur / n := Int.ediv_nonneg c1 (by omega)
      refine fin (cur % n) ⟨cells, cur / n, g.cnt + 1, mix⟩ _ ?_ ?_ (by rw [← fdiv_pos hn.1]; exact I4) ⟨hq, by show 0 ≤ g.cnt + 1; omega, c3, c4, c5⟩
      · unfold pickR; rw [hd]; simp [hc]
      · unfold pickG; rw [hd]; simp [hc]
    · have e : decide (0 < cur) = false := by simp [hc]
      rw [e]
      refine iteF ?_
      have hcnt : 0 ≤ g.cnt + 1 := by omega
      have b1 : (mix + 7907 * (g.cnt + 1) + 104723).natAbs < 2 ^ 64 := by omega
      refine ⟨_, rfl, p0, _, 3, _, rfl, rfl, .of I3.1, rfl, _, rfl, p0, _, 2, _, rfl, rfl, .of I3.1, rfl, _, _, rfl, rfl, .inl ⟨by decide, by decide⟩, _, _, rfl, rfl, _, _, rfl, rfl, _, _, rfl, rfl, ⟨by decide, by decide, b1⟩, .inl ⟨_, rfl, _, _, rfl, rfl, by show (0 : Int) < 2147483629; decide, ?_⟩⟩
      have em : (mix + 7907 * (g.cnt + 1) + 104723) ^ (5 : Int).toNat % 2147483629 = mixed mix (g.cnt + 1) := rfl
      have m1 : 0 ≤ mixed mix (g.cnt + 1) := Int.emod_nonneg _ (by decide)
      have m2 : mixed mix (g.cnt + 1) < 2147483629 := Int.emod_lt_of_pos _ (by decide)
      have b2 : (mixed mix (g.cnt + 1) * 48271 + 30011 * (g.cnt + 1) + 31).natAbs < 2 ^ 64 := by omega
      refine ⟨_, rfl, _, _, rfl, rfl, .inr ⟨by decide, by decide⟩, _, rfl, p0, _, 2, _, rfl, rfl, .of I3.1, rfl, _, _, rfl, rfl, .inl ⟨by decide, by decide⟩, _, _, rfl, rfl, _, _, rfl, rfl, _, _, rfl, rfl, ⟨by decide, by decide, b2⟩, .inl ⟨_, rfl, _, _, rfl, rfl, by show (0 : Int) < 1000000007; decide, _, rfl, _, _, rfl, rfl, hn.1, ?_⟩⟩
      refine fin _ ⟨cells, cur, g.cnt + 1, mix⟩ _ ?_ ?_ I3 ⟨c1, hcnt, c3, c4, c5⟩
      · unfold pickR; rw [hd]; simp only [gt_iff_lt, if_neg hc]; rfl
      · unfold pickG; rw [hd]; simp [hc]
  -- the state's element at i
  refine ⟨_, pss_cons (ps_asg (pe_op op_add (pe_ix ix_list (pv 0) pe_int (fun _ _ => rfl)) pe_int) (pg_sub (pv 0) pe_int set_list))
    (pss_cons (ps_while (passes_of rfl) (PW.pt (pw_and (pt_cmpR op_eq (pe_ix ix_list (pv 0) pe_int (fun _ _ => rfl)) pe_int (nomark _)) (pw_and1 (pt_cmpR (op_neD hr.units) (pe_ix ix_list (pv 0) pe_int (fun _ _ => rfl)) (pe_lst pa_nil) (nomark _)))))
      (pss_cons (ps_set (i := 2) nd rfl (Or.inl rfl) (pe_callB call_abs (by rfl) bAbs (by decide +kernel) (pa_cons (pe_bm PySem.F.plainAttrs_list PySem.F.slot_list_pop PySem.F.type_list_pop mt_popAt (pe_ix ix_list (pv 0) pe_int (fun _ _ => rfl)) (pa_cons pe_int pa_nil)) pa_nil)))
      (pss_cons (ps_asg (pe_op op_mod (pe_callTy call_int1 (by rfl) bInt (by decide +kernel) (pa_cons (pe_op op_add (pe_op op_add (pe_op op_mul (pe_ix ix_list (pv 0) pe_int (fun _ _ => rfl)) pe_int) (pv 2)) pe_int) pa_nil)) pe_int) (pg_sub (pv 0) pe_int set_list))
      (pss_one (ps_asg (pe_ifExp (pt_cmpR op_ge (pv 2) (pe_op op_pow pe_int pe_int) (nomark _)) (pv 2) pe_int) (pg_sub (pv 0) pe_int set_list))))))
    hR.choose_spec.1), ?_⟩
  -- state[2] = state[2] + 1
  refine ⟨_, rfl, p0, _, 2, _, rfl, rfl, .of hp, rfl, _, _, rfl, rfl, _, rfl, p0, _, 2, 2, rfl, rfl, hp, rfl, ?_⟩
  have I1 : pickI p0 q0 H _ g.cells g.cur (g.cnt + 1) g.mix := I0.setP (cur' := g.cur) (cnt' := g.cnt + 1) (mix' := g.mix) hne (xs := _) rfl
  -- the cells
  refine ⟨fun m σ H' => ∃ (cells : List Int) (cur mix : Int) (x : Option V), m = cells.length ∧ σ = [some (.ref p0), some (.int n), x, none, none] ∧ pickI p0 q0 H H' cells cur (g.cnt + 1) mix ∧ 0 ≤ cur ∧ 0 ≤ mix ∧ mix < 2147483647 ∧ cells.length ≤ 63 ∧ drain cells cur mix = drain g.cells g.cur g.mix,
    ⟨_, g.cells, g.cur, g.mix, none, rfl, rfl, I1, g1, g3, g4, g5, rfl⟩, ?_⟩
  rintro m σ H2 ⟨cells, cur, mix, x, rfl, rfl, I2, c1, c3, c4, c5, hd⟩
  refine ⟨_, rfl, p0, _, 1, _, rfl, rfl, .of I2.1, rfl, rfl, _, rfl, ?_⟩
  by_cases hc0 : cur = 0
  · -- no digits: are there cells?
    subst hc0
    refine iteT ?_
    refine ⟨_, rfl, p0, _, 0, _, rfl, rfl, .of I2.1, rfl, by show 0 ≤ sizeLine; decide, fun z hz => ?_⟩
    have I3 := I2.new (o := .lst []) hz
    refine ⟨.list (cells.map .int), .list [], .lst (.of I3.2.1) (dp_ints cells), .lst (.of upd_same) .nil, shaped_ints cells, by decide, _, rfl, ?_⟩
    rw [eqv_nil]
    cases cells with
    | nil =>
      refine iteF ?_
      exact hR.choose_spec.2 _ x [] 0 mix I3 (Int.le_refl 0) c3 c4 c5 hd.symm
    | cons c r =>
      refine iteT ?_
      refine ⟨fun σ' H' => ∃ m', m' < r.length + 1 ∧ ∃ (cells : List Int) (cur mix : Int) (x : Option V), m' = cells.length ∧ σ' = [some (.ref p0), some (.int n), x, none, none] ∧ pickI p0 q0 H H' cells cur (g.cnt + 1) mix ∧ 0 ≤ cur ∧ 0 ≤ mix ∧ mix < 2147483647 ∧ cells.length ≤ 63 ∧ drain cells cur mix = drain g.cells g.cur g.mix, fun _ _ z => z, ?_⟩
      -- cell = abs(state[0].pop(0))
      refine ⟨_, rfl, p0, _, 0, _, rfl, rfl, .of I3.1, rfl, .inl ⟨rfl, _, .of I3.2.1⟩, q0, _, 0, 0, _, rfl, rfl, I3.2.1, by decide, by decide, (ixN_seq (show ixN (List.map V.int (c :: r)).length 0 = some 0 by simp [ixN])).1, rfl, _, rfl, ?_⟩
      have I4 : pickI p0 q0 H _ r 0 (g.cnt + 1) mix := I3.setQ hne (cells' := r) (xs := _) rfl
      -- state[3] = ..
      have e3 : (mix * 6151 + (if c < 0 then -c else c) + 5) % 2147483647 = (mix * 6151 + iabs c + 5) % 2147483647 := rfl
      refine ⟨_, rfl, p0, _, 3, _, rfl, rfl, .of I4.1, rfl, _, _, rfl, rfl, .inr ⟨by decide, by decide⟩, _, rfl, _, _, rfl, rfl, _, _, rfl, rfl, .inl ⟨_, rfl, _, _, rfl, rfl, by show (0 : Int) < 2147483647; decide, _, rfl, p0, _, 3, 3, rfl, rfl, I4.1, rfl, ?_⟩⟩
      have I5 : pickI p0 q0 H _ r 0 (g.cnt + 1) ((mix * 6151 + iabs c + 5) % 2147483647) := I4.setP (cur' := 0) (cnt' := g.cnt + 1) (mix' := (mix * 6151 + iabs c + 5) % 2147483647) hne (xs := _) rfl
      -- state[1] = ..
      refine ⟨_, rfl, _, _, rfl, rfl, ⟨by decide, by decide, by decide⟩, _, _, rfl, rfl, _, rfl, ?_⟩
      have hia := iabs_nn c
      have fin2 : ∀ (cur' : Int) (H' : Hp), cur' = (if iabs c ≥ 1000000000000000000 then iabs c else 0) → pickI p0 q0 H H' r cur' (g.cnt + 1) ((mix * 6151 + iabs c + 5) % 2147483647) → ∃ m', m' < r.length + 1 ∧ ∃ (cells : List Int) (cur mix : Int) (x : Option V), m' = cells.length ∧ ([some (.ref p0), some (.int n), some (.int (iabs c)), none, none] : L2.St) = [some (.ref p0), some (.int n), x, none, none] ∧ pickI p0 q0 H H' cells cur (g.cnt + 1) mix ∧ 0 ≤ cur ∧ 0 ≤ mix ∧ mix < 2147483647 ∧ cells.length ≤ 63 ∧ drain cells cur mix = drain g.cells g.cur g.mix := by
        rintro cur' H' rfl I6
        exact ⟨r.length, Nat.lt_succ_self _, r, _, _, some (.int (iabs c)), rfl, rfl, I6, by split <;> omega, Int.emod_nonneg _ (by decide), Int.emod_lt_of_pos _ (by decide), by simp at c5; omega, by rw [← hd, drain_step]⟩
      by_cases hb : (10 : Int) ^ (18 : Int).toNat ≤ iabs c
      · have e : decide ((10 : Int) ^ (18 : Int).toNat ≤ (if c < 0 then -c else c)) = true := decide_eq_true hb
        rw [e]
        refine iteT ?_
        refine ⟨_, rfl, _, rfl, p0, _, 1, 1, rfl, rfl, I5.1, rfl, ?_⟩
        exact fin2 _ _ (by rw [if_pos (by simpa using hb)]) (I5.setP (cur' := iabs c) (cnt' := g.cnt + 1) (mix' := (mix * 6151 + iabs c + 5) % 2147483647) hne (xs := _) rfl)
      · have e : decide ((10 : Int) ^ (18 : Int).toNat ≤ (if c < 0 then -c else c)) = false := decide_eq_false hb
        rw [e]
        refine iteF ?_
        refine ⟨_, rfl, p0, _, 1, 1, rfl, rfl, I5.1, rfl, ?_⟩
        exact fin2 _ _ (by rw [if_neg (by simpa using hb)]) (I5.setP (cur' := 0) (cnt' := g.cnt + 1) (mix' := (mix * 6151 + iabs c + 5) % 2147483647) hne (xs := _) rfl)
  · have e : decide (V.int cur = V.int 0) = false := by simp [hc0]
    rw [e]
    refine iteF ?_
    exact hR.choose_spec.2 _ x cells cur mix I2 c1 c3 c4 c5 (by rw [← hd, drain_stop hc0])
end
end Tr

namespace Tr
open PySem PySem.Spec PyProof.Rows L2
def inClass (st : Stmt) (i : Nat) : Stmt := match st with
  | .ClassDef _ _ _ body _ _ _ _ _ _ _ => body.getD i (.Pass ⟨0, 0, 0, 0⟩)
  | _ => .Pass ⟨0, 0, 0, 0⟩
abbrev d_law_pick : DDen := dPick
section
variable {P : Program} {w : World} {K : PySem.W.Frag} {mg : Str → Option Value} {base : Heap}
abbrev s_is_integer : Stmt := top 1
theorem sc_is_integer : FnScope ["thing"] ["thing"] (defScope s_is_integer) := ⟨rfl, rfl, rfl, by decide +kernel, rfl, by decide +kernel, by decide +kernel⟩
def b_is_integer : DenS := (dSeq (dRet (dAnd (dIsa "int" (dV 0)) (dNot (dIsa "bool" (dV 0))))) dNever)
def d_is_integer : DDen := dDef 1 .rep b_is_integer
theorem ok_is_integer {f : Addr} {fd : FuncData} (B : Bt mg) (F : Fun K "is_integer" "is_integer" s_is_integer f fd) (hm : mg "is_integer" = some (.ref f)) (hb : Binds K fd ["thing"] [])  :
    FOk P w K mg base "is_integer" 1 1 .rep d_is_integer := fok_of F hm hb sc_is_integer rfl rfl fun cdv A outer s H E hr => by
  have nd := sc_is_integer.nd; have tk := takes_of (X := cxOf (L2.CX P w) P w K mg base ["thing"] "is_integer" (defScope s_is_integer) f cdv A outer s H E) (E := E) rfl rfl rfl rfl; have hp := passes_of (X := cxOf (L2.CX P w) P w K mg base ["thing"] "is_integer" (defScope s_is_integer) f cdv A outer s H E) rfl
  exact ⟨[], (sss_cons (ss_ret (se_and (se_brw (se_isa (se_brw (se_var 0)) B.isinstance B.int (by decide +kernel))) (se_one (se_not (se_brw (se_isa (se_brw (se_var 0)) B.isinstance B.bool (by decide +kernel))))))) (sss_never (Wk := [])))⟩
abbrev s_is_number : Stmt := top 2
theorem sc_is_number : FnScope ["thing"] ["thing"] (defScope s_is_number) := ⟨rfl, rfl, rfl, by decide +kernel, rfl, by decide +kernel, by decide +kernel⟩
def b_is_number : DenS := (dSeq (dRet (dAnd (dCall d_is_integer (dCons (dV 0) dNil)) (dBin (bo pGe) (dV 0) (dC (.int 0))))) dNever)
def d_is_number : DDen := dDef 1 .rep b_is_number
theorem ok_is_number {f : Addr} {fd : FuncData} (B : Bt mg) (F : Fun K "is_number" "is_number" s_is_number f fd) (hm : mg "is_number" = some (.ref f)) (hb : Binds K fd ["thing"] []) (h_is_integer : FOk P w K mg base "is_integer" 1 1 .rep d_is_integer) :
    FOk P w K mg base "is_number" 1 2 .rep d_is_number := fok_of F hm hb sc_is_number rfl rfl fun cdv A outer s H E hr => by
  have nd := sc_is_number.nd; have tk := takes_of (X := cxOf (L2.CX P w) P w K mg base ["thing"] "is_number" (defScope s_is_number) f cdv A outer s H E) (E := E) rfl rfl rfl rfl; have hp := passes_of (X := cxOf (L2.CX P w) P w K mg base ["thing"] "is_number" (defScope s_is_number) f cdv A outer s H E) rfl
  exact ⟨[], (sss_cons (ss_ret (se_and (se_brw (se_call h_is_integer hr (by omega) tk (sa_cons (se_var 0) sa_nil))) (se_one (se_cmp od_ge (se_brw (se_var 0)) (se_brw se_int))))) (sss_never (Wk := [])))⟩
abbrev s_is_list : Stmt := top 3
theorem sc_is_list : FnScope ["thing"] ["thing"] (defScope s_is_list) := ⟨rfl, rfl, rfl, by decide +kernel, rfl, by decide +kernel, by decide +kernel⟩
def b_is_list : DenS := (dSeq (dRet (dIsa2 "list" "tuple" (dV 0))) dNever)
def d_is_list : DDen := dDef 1 .rep b_is_list
theorem ok_is_list {f : Addr} {fd : FuncData} (B : Bt mg) (F : Fun K "is_list" "is_list" s_is_list f fd) (hm : mg "is_list" = some (.ref f)) (hb : Binds K fd ["thing"] [])  :
    FOk P w K mg base "is_list" 1 1 .rep d_is_list := fok_of F hm hb sc_is_list rfl rfl fun cdv A outer s H E hr => by
  have nd := sc_is_list.nd; have tk := takes_of (X := cxOf (L2.CX P w) P w K mg base ["thing"] "is_list" (defScope s_is_list) f cdv A outer s H E) (E := E) rfl rfl rfl rfl; have hp := passes_of (X := cxOf (L2.CX P w) P w K mg base ["thing"] "is_list" (defScope s_is_list) f cdv A outer s H E) rfl
  exact ⟨[], (sss_cons (ss_ret (se_isa2 (se_brw (se_var 0)) B.isinstance B.list (by decide +kernel) B.tuple (by decide +kernel))) (sss_never (Wk := [])))⟩
abbrev s_is_text : Stmt := top 4
theorem sc_is_text : FnScope ["thing"] ["thing"] (defScope s_is_text) := ⟨rfl, rfl, rfl, by decide +kernel, rfl, by decide +kernel, by decide +kernel⟩
def b_is_text : DenS := (dSeq (dRet (dIsa "str" (dV 0))) dNever)
def d_is_text : DDen := dDef 1 .rep b_is_text
theorem ok_is_text {f : Addr} {fd : FuncData} (B : Bt mg) (F : Fun K "is_text" "is_text" s_is_text f fd) (hm : mg "is_text" = some (.ref f)) (hb : Binds K fd ["thing"] [])  :
    FOk P w K mg base "is_text" 1 1 .rep d_is_text := fok_of F hm hb sc_is_text rfl rfl fun cdv A outer s H E hr => by
  have nd := sc_is_text.nd; have tk := takes_of (X := cxOf (L2.CX P w) P w K mg base ["thing"] "is_text" (defScope s_is_text) f cdv A outer s H E) (E := E) rfl rfl rfl rfl; have hp := passes_of (X := cxOf (L2.CX P w) P w K mg base ["thing"] "is_text" (defScope s_is_text) f cdv A outer s H E) rfl
  exact ⟨[], (sss_cons (ss_ret (se_isa (se_brw (se_var 0)) B.isinstance B.str (by decide +kernel))) (sss_never (Wk := [])))⟩
abbrev s_Laid_init__ : Stmt := inClass (top 9) 0
theorem sc_Laid_init__ : FnScope ["self", "lengths", "letters", "closed", "many", "place", "length", "k"] ["self", "lengths", "letters", "closed"] (defScope s_Laid_init__) := ⟨rfl, rfl, rfl, by decide +kernel, rfl, by decide +kernel, by decide +kernel⟩
def b_Laid_init__ : DenS := (dSeq (dSet 4 (dCB oLen (dCons (dV 1) dNil))) (dSeq (dFldS 0 "Laid" "many" (dV 4)) (dSeq (dEnds "Laid" "many" "ends" (dLst (dCons (dC (.int 0)) dNil)) (dEnum (dCons (dV 1) dNil)) (gdTup 2 (gdCons (gdName 5) (gdCons (gdName 6) gdNil))) (dBin pPlus (dIx (dFld "Laid" "ends" (dV 0)) (dV 5)) (dIfE (dCmp pEqB (dBin pMod (dV 5) (dC (.int 2))) (dC (.int 0))) (dV 6) (dNeg (dV 6))))) (dSeq (dFldS 0 "Laid" "joints" (dComp (dRng2 (dCons (dC (.int 1)) (dCons (dV 4) dNil))) [7] (gdName 7) dYes (dTup (dCons (dV 7) (dCons (dBin pSub (dV 7) (dC (.int 1))) (dCons (dV 7) dNil)))))) (dSeq (dFldS 0 "Laid" "signs" (dDComp (dRng2 (dCons (dC (.int 1)) (dCons (dV 4) dNil))) [7] (gdName 7) dYes (dV 7) (dIx (dV 2) (dBin pSub (dV 7) (dC (.int 1)))))) (dSeq (dIf (dTr (dV 3)) (dSeq (dFldS 0 "Laid" "joints" (dBin pPlus (dLst (dCons (dTup (dCons (dC (.int 0)) (dCons (dBin pSub (dV 4) (dC (.int 1))) (dCons (dC (.int 0)) dNil)))) dNil)) (dFld "Laid" "joints" (dV 0)))) (dSeq (dFldS 0 "Laid" "signs" (dDComp (dRng1 (dCons (dV 4) dNil)) [7] (gdName 7) dYes (dV 7) (dIx (dV 2) (dV 7)))) dSkip)) dSkip) dSkip))))))
def d_Laid_init__ : DDen := dInit 8 "Laid" b_Laid_init__
theorem ok_Laid_init__ {f C : Addr} {fd : FuncData} (B : Bt mg) (F : Fun K "__init__" "Laid.__init__" s_Laid_init__ f fd) (hm : mg "Laid" = some (.ref C)) (hM : Mk K C f) (hb : Binds K fd ["self", "lengths", "letters", "closed"] []) (T_Laid : ClF K mg "Laid") (T_Laid_ends : ∀ C, mg "Laid" = some (.ref C) → NoAttr K C "ends") (T_Laid_joints : ∀ C, mg "Laid" = some (.ref C) → NoAttr K C "joints") (T_Laid_many : ∀ C, mg "Laid" = some (.ref C) → NoAttr K C "many") (T_Laid_signs : ∀ C, mg "Laid" = some (.ref C) → NoAttr K C "signs") :
    IOk P w K mg base "Laid" 4 1 d_Laid_init__ := iok_of F hm hM hb sc_Laid_init__ rfl rfl fun cdv A outer s H E hr => by
  have nd := sc_Laid_init__.nd; have tk := takes_of (X := cxOf (L2.CX P w) P w K mg base ["self", "lengths", "letters", "closed", "many", "place", "length", "k"] "Laid.__init__" (defScope s_Laid_init__) f cdv A outer s H E) (E := E) rfl rfl rfl rfl; have hp := passes_of (X := cxOf (L2.CX P w) P w K mg base ["self", "lengths", "letters", "closed", "many", "place", "length", "k"] "Laid.__init__" (defScope s_Laid_init__) f cdv A outer s H E) rfl
  exact (sss_cons (ss_set 4 nd (se_callB cd_len B.len (by decide +kernel) (sb_cons (se_brw (se_var 1)) sa_nil))) (sss_cons (ss_fldS 0 T_Laid T_Laid_many (se_var 4)) (sss_ends T_Laid T_Laid_ends (by decide) (by decide) hp rfl (se_lst (sa_cons se_int sa_nil)) (si_enum B.enumerate (sa_cons (se_var 1) sa_nil)) (sg_tup rfl (sgs_cons (sg_name 5 nd) (sgs_cons (sg_name 6 nd) sgs_nil))) (se_op od_plus (se_brw (se_ix hr (se_brw (se_fld T_Laid (T_Laid_ends) (se_brw (se_var 0)))) (se_brw (se_var 5)))) (se_if (st_cmp (od_eq hr) (se_brw (se_op od_mod (se_brw (se_var 5)) (se_brw se_int))) (se_brw se_int)) (se_brw (se_var 6)) (se_brw (se_neg (se_brw (se_var 6)))))) (sss_cons (ss_fldS 0 T_Laid T_Laid_joints (se_rep (se_lc rfl nd (own := [("k", 7)]) (blkOk_by (N := ["self", "lengths", "letters", "closed", "many", "place", "length", "k"]) (sc := defScope s_Laid_init__) (by decide +kernel)) (si_range2 B.range (sb_cons (se_brw se_int) (sb_cons (se_brw (se_var 4)) sa_nil))) (fun _ _ _ _ _ => (sg_name 7 nd)) (fun _ _ _ _ _ => sts_nil) (fun _ _ _ _ _ => (se_tup (sa_cons (se_var 7) (sa_cons (se_op od_sub (se_brw (se_var 7)) (se_brw se_int)) (sa_cons (se_var 7) sa_nil)))))))) (sss_cons (ss_fldS 0 T_Laid T_Laid_signs (se_rep (se_dc rfl nd (own := [("k", 7)]) (blkOk_by (N := ["self", "lengths", "letters", "closed", "many", "place", "length", "k"]) (sc := defScope s_Laid_init__) (by decide +kernel)) (si_range2 B.range (sb_cons (se_brw se_int) (sb_cons (se_brw (se_var 4)) sa_nil))) (fun _ _ _ _ _ => (sg_name 7 nd)) (fun _ _ _ _ _ => sts_nil) (fun _ _ _ _ _ => (se_var 7)) (fun _ _ _ _ _ => (se_ix hr (se_brw (se_var 2)) (se_brw (se_op od_sub (se_brw (se_var 7)) (se_brw se_int)))))))) (sss_cons (ss_if (st_val (se_brw (se_var 3))) (sss_cons (ss_fldS 0 T_Laid T_Laid_joints (se_op od_plus (se_brw (se_lst (sa_cons (se_tup (sa_cons se_int (sa_cons (se_op od_sub (se_brw (se_var 4)) (se_brw se_int)) (sa_cons se_int sa_nil)))) sa_nil))) (se_brw (se_fld T_Laid (T_Laid_joints) (sb_var 0))))) (sss_cons (ss_fldS 0 T_Laid T_Laid_signs (se_rep (se_dc rfl nd (own := [("k", 7)]) (blkOk_by (N := ["self", "lengths", "letters", "closed", "many", "place", "length", "k"]) (sc := defScope s_Laid_init__) (by decide +kernel)) (si_range1 B.range (sb_cons (se_brw (se_var 4)) sa_nil)) (fun _ _ _ _ _ => (sg_name 7 nd)) (fun _ _ _ _ _ => sts_nil) (fun _ _ _ _ _ => (se_var 7)) (fun _ _ _ _ _ => (se_ix hr (se_brw (se_var 2)) (se_brw (se_var 7))))))) sss_nil)) sss_nil) sss_nil))))))
abbrev s_Laid_lowest : Stmt := inClass (top 9) 1
theorem sc_Laid_lowest : FnScope ["self", "segment"] ["self", "segment"] (defScope s_Laid_lowest) := ⟨rfl, rfl, rfl, by decide +kernel, rfl, by decide +kernel, by decide +kernel⟩
def b_Laid_lowest : DenS := (dSeq (dRet (dCB oMin (dCons (dIx (dFld "Laid" "ends" (dV 0)) (dV 1)) (dCons (dIx (dFld "Laid" "ends" (dV 0)) (dBin pPlus (dV 1) (dC (.int 1)))) dNil)))) dNever)
def d_Laid_lowest : DDen := dDef 2 .rep b_Laid_lowest
theorem ok_Laid_lowest {f C : Addr} {fd : FuncData} (B : Bt mg) (F : Fun K "lowest" "Laid.lowest" s_Laid_lowest f fd) (hm : mg "Laid" = some (.ref C)) (hc : Cls K C) (hM : Meth K C "lowest" f) (hb : Binds K fd ["self", "segment"] []) (T_Laid : ClF K mg "Laid") (T_Laid_ends : ∀ C, mg "Laid" = some (.ref C) → NoAttr K C "ends") :
    MOk P w K mg base "Laid" "lowest" 2 1 .rep d_Laid_lowest := mok_of F hm hc hM hb sc_Laid_lowest rfl rfl fun cdv A outer s H E hr => by
  have nd := sc_Laid_lowest.nd; have tk := takes_of (X := cxOf (L2.CX P w) P w K mg base ["self", "segment"] "Laid.lowest" (defScope s_Laid_lowest) f cdv A outer s H E) (E := E) rfl rfl rfl rfl; have hp := passes_of (X := cxOf (L2.CX P w) P w K mg base ["self", "segment"] "Laid.lowest" (defScope s_Laid_lowest) f cdv A outer s H E) rfl
  exact ⟨[], (sss_cons (ss_ret (se_callB (cd_min rfl) B.min (by decide +kernel) (sb_cons (se_brw (se_ix hr (se_brw (se_fld T_Laid (T_Laid_ends) (se_brw (se_var 0)))) (se_brw (se_var 1)))) (sb_cons (se_brw (se_ix hr (se_brw (se_fld T_Laid (T_Laid_ends) (se_brw (se_var 0)))) (se_brw (se_op od_plus (se_brw (se_var 1)) (se_brw se_int))))) sa_nil)))) (sss_never (Wk := [])))⟩
abbrev s_Laid_highest : Stmt := inClass (top 9) 2
theorem sc_Laid_highest : FnScope ["self", "segment"] ["self", "segment"] (defScope s_Laid_highest) := ⟨rfl, rfl, rfl, by decide +kernel, rfl, by decide +kernel, by decide +kernel⟩
def b_Laid_highest : DenS := (dSeq (dRet (dCB oMax (dCons (dIx (dFld "Laid" "ends" (dV 0)) (dV 1)) (dCons (dIx (dFld "Laid" "ends" (dV 0)) (dBin pPlus (dV 1) (dC (.int 1)))) dNil)))) dNever)
def d_Laid_highest : DDen := dDef 2 .rep b_Laid_highest
theorem ok_Laid_highest {f C : Addr} {fd : FuncData} (B : Bt mg) (F : Fun K "highest" "Laid.highest" s_Laid_highest f fd) (hm : mg "Laid" = some (.ref C)) (hc : Cls K C) (hM : Meth K C "highest" f) (hb : Binds K fd ["self", "segment"] []) (T_Laid : ClF K mg "Laid") (T_Laid_ends : ∀ C, mg "Laid" = some (.ref C) → NoAttr K C "ends") :
    MOk P w K mg base "Laid" "highest" 2 1 .rep d_Laid_highest := mok_of F hm hc hM hb sc_Laid_highest rfl rfl fun cdv A outer s H E hr => by
  have nd := sc_Laid_highest.nd; have tk := takes_of (X := cxOf (L2.CX P w) P w K mg base ["self", "segment"] "Laid.highest" (defScope s_Laid_highest) f cdv A outer s H E) (E := E) rfl rfl rfl rfl; have hp := passes_of (X := cxOf (L2.CX P w) P w K mg base ["self", "segment"] "Laid.highest" (defScope s_Laid_highest) f cdv A outer s H E) rfl
  exact ⟨[], (sss_cons (ss_ret (se_callB (cd_max rfl) B.max (by decide +kernel) (sb_cons (se_brw (se_ix hr (se_brw (se_fld T_Laid (T_Laid_ends) (se_brw (se_var 0)))) (se_brw (se_var 1)))) (sb_cons (se_brw (se_ix hr (se_brw (se_fld T_Laid (T_Laid_ends) (se_brw (se_var 0)))) (se_brw (se_op od_plus (se_brw (se_var 1)) (se_brw se_int))))) sa_nil)))) (sss_never (Wk := [])))⟩
abbrev s_Laid_has_inside : Stmt := inClass (top 9) 3
theorem sc_Laid_has_inside : FnScope ["self", "segment", "spot"] ["self", "segment", "spot"] (defScope s_Laid_has_inside) := ⟨rfl, rfl, rfl, by decide +kernel, rfl, by decide +kernel, by decide +kernel⟩
def b_Laid_has_inside : DenS := (dSeq (dRet (dOfT (dChT pLt pLt (dMeth "Laid" "lowest" d_Laid_lowest (dV 0) (dCons (dV 1) dNil)) (dV 2) (dMeth "Laid" "highest" d_Laid_highest (dV 0) (dCons (dV 1) dNil))))) dNever)
def d_Laid_has_inside : DDen := dDef 3 .rep b_Laid_has_inside
theorem ok_Laid_has_inside {f C : Addr} {fd : FuncData} (B : Bt mg) (F : Fun K "has_inside" "Laid.has_inside" s_Laid_has_inside f fd) (hm : mg "Laid" = some (.ref C)) (hc : Cls K C) (hM : Meth K C "has_inside" f) (hb : Binds K fd ["self", "segment", "spot"] []) (h_Laid_lowest : MOk P w K mg base "Laid" "lowest" 2 1 .rep d_Laid_lowest) (h_Laid_highest : MOk P w K mg base "Laid" "highest" 2 1 .rep d_Laid_highest) :
    MOk P w K mg base "Laid" "has_inside" 3 2 .rep d_Laid_has_inside := mok_of F hm hc hM hb sc_Laid_has_inside rfl rfl fun cdv A outer s H E hr => by
  have nd := sc_Laid_has_inside.nd; have tk := takes_of (X := cxOf (L2.CX P w) P w K mg base ["self", "segment", "spot"] "Laid.has_inside" (defScope s_Laid_has_inside) f cdv A outer s H E) (E := E) rfl rfl rfl rfl; have hp := passes_of (X := cxOf (L2.CX P w) P w K mg base ["self", "segment", "spot"] "Laid.has_inside" (defScope s_Laid_has_inside) f cdv A outer s H E) rfl
  exact ⟨[], (sss_cons (ss_ret (se_chain od_lt od_lt (se_brw (se_meth h_Laid_lowest hr (by omega) (se_var 0) (sa_cons (se_var 1) sa_nil))) (se_brw (se_var 2)) (se_brw (se_meth h_Laid_highest hr (by omega) (se_var 0) (sa_cons (se_var 1) sa_nil))))) (sss_never (Wk := [])))⟩
abbrev s_Laid_have_common : Stmt := inClass (top 9) 4
theorem sc_Laid_have_common : FnScope ["self", "segment", "other"] ["self", "segment", "other"] (defScope s_Laid_have_common) := ⟨rfl, rfl, rfl, by decide +kernel, rfl, by decide +kernel, by decide +kernel⟩
def b_Laid_have_common : DenS := (dSeq (dRet (dBin (bo pLt) (dCB oMax (dCons (dMeth "Laid" "lowest" d_Laid_lowest (dV 0) (dCons (dV 1) dNil)) (dCons (dMeth "Laid" "lowest" d_Laid_lowest (dV 0) (dCons (dV 2) dNil)) dNil))) (dCB oMin (dCons (dMeth "Laid" "highest" d_Laid_highest (dV 0) (dCons (dV 1) dNil)) (dCons (dMeth "Laid" "highest" d_Laid_highest (dV 0) (dCons (dV 2) dNil)) dNil))))) dNever)
def d_Laid_have_common : DDen := dDef 3 .rep b_Laid_have_common
theorem ok_Laid_have_common {f C : Addr} {fd : FuncData} (B : Bt mg) (F : Fun K "have_common" "Laid.have_common" s_Laid_have_common f fd) (hm : mg "Laid" = some (.ref C)) (hc : Cls K C) (hM : Meth K C "have_common" f) (hb : Binds K fd ["self", "segment", "other"] []) (h_Laid_lowest : MOk P w K mg base "Laid" "lowest" 2 1 .rep d_Laid_lowest) (h_Laid_highest : MOk P w K mg base "Laid" "highest" 2 1 .rep d_Laid_highest) :
    MOk P w K mg base "Laid" "have_common" 3 2 .rep d_Laid_have_common := mok_of F hm hc hM hb sc_Laid_have_common rfl rfl fun cdv A outer s H E hr => by
  have nd := sc_Laid_have_common.nd; have tk := takes_of (X := cxOf (L2.CX P w) P w K mg base ["self", "segment", "other"] "Laid.have_common" (defScope s_Laid_have_common) f cdv A outer s H E) (E := E) rfl rfl rfl rfl; have hp := passes_of (X := cxOf (L2.CX P w) P w K mg base ["self", "segment", "other"] "Laid.have_common" (defScope s_Laid_have_common) f cdv A outer s H E) rfl
  exact ⟨[], (sss_cons (ss_ret (se_cmp od_lt (se_brw (se_callB (cd_max rfl) B.max (by decide +kernel) (sb_cons (se_brw (se_meth h_Laid_lowest hr (by omega) (se_var 0) (sa_cons (se_var 1) sa_nil))) (sb_cons (se_brw (se_meth h_Laid_lowest hr (by omega) (se_var 0) (sa_cons (se_var 2) sa_nil))) sa_nil)))) (se_brw (se_callB (cd_min rfl) B.min (by decide +kernel) (sb_cons (se_brw (se_meth h_Laid_highest hr (by omega) (se_var 0) (sa_cons (se_var 1) sa_nil))) (sb_cons (se_brw (se_meth h_Laid_highest hr (by omega) (se_var 0) (sa_cons (se_var 2) sa_nil))) sa_nil)))))) (sss_never (Wk := [])))⟩
abbrev s_Laid_spot_of : Stmt := inClass (top 9) 5
theorem sc_Laid_spot_of : FnScope ["self", "crease"] ["self", "crease"] (defScope s_Laid_spot_of) := ⟨rfl, rfl, rfl, by decide +kernel, rfl, by decide +kernel, by decide +kernel⟩
def b_Laid_spot_of : DenS := (dSeq (dRet (dIx (dFld "Laid" "ends" (dV 0)) (dV 1))) dNever)
def d_Laid_spot_of : DDen := dDef 2 .rep b_Laid_spot_of
theorem ok_Laid_spot_of {f C : Addr} {fd : FuncData} (B : Bt mg) (F : Fun K "spot_of" "Laid.spot_of" s_Laid_spot_of f fd) (hm : mg "Laid" = some (.ref C)) (hc : Cls K C) (hM : Meth K C "spot_of" f) (hb : Binds K fd ["self", "crease"] []) (T_Laid : ClF K mg "Laid") (T_Laid_ends : ∀ C, mg "Laid" = some (.ref C) → NoAttr K C "ends") :
    MOk P w K mg base "Laid" "spot_of" 2 1 .rep d_Laid_spot_of := mok_of F hm hc hM hb sc_Laid_spot_of rfl rfl fun cdv A outer s H E hr => by
  have nd := sc_Laid_spot_of.nd; have tk := takes_of (X := cxOf (L2.CX P w) P w K mg base ["self", "crease"] "Laid.spot_of" (defScope s_Laid_spot_of) f cdv A outer s H E) (E := E) rfl rfl rfl rfl; have hp := passes_of (X := cxOf (L2.CX P w) P w K mg base ["self", "crease"] "Laid.spot_of" (defScope s_Laid_spot_of) f cdv A outer s H E) rfl
  exact ⟨[], (sss_cons (ss_ret (se_ix hr (se_brw (se_fld T_Laid (T_Laid_ends) (se_brw (se_var 0)))) (se_brw (se_var 1)))) (sss_never (Wk := [])))⟩
abbrev s_Laid_is_left : Stmt := inClass (top 9) 6
theorem sc_Laid_is_left : FnScope ["self", "joint"] ["self", "joint"] (defScope s_Laid_is_left) := ⟨rfl, rfl, rfl, by decide +kernel, rfl, by decide +kernel, by decide +kernel⟩
def b_Laid_is_left : DenS := (dSeq (dRet (dBin (bo pEqB) (dMeth "Laid" "highest" d_Laid_highest (dV 0) (dCons (dIx (dV 1) (dC (.int 1))) dNil)) (dMeth "Laid" "spot_of" d_Laid_spot_of (dV 0) (dCons (dIx (dV 1) (dC (.int 0))) dNil)))) dNever)
def d_Laid_is_left : DDen := dDef 2 .rep b_Laid_is_left
theorem ok_Laid_is_left {f C : Addr} {fd : FuncData} (B : Bt mg) (F : Fun K "is_left" "Laid.is_left" s_Laid_is_left f fd) (hm : mg "Laid" = some (.ref C)) (hc : Cls K C) (hM : Meth K C "is_left" f) (hb : Binds K fd ["self", "joint"] []) (h_Laid_highest : MOk P w K mg base "Laid" "highest" 2 1 .rep d_Laid_highest) (h_Laid_spot_of : MOk P w K mg base "Laid" "spot_of" 2 1 .rep d_Laid_spot_of) :
    MOk P w K mg base "Laid" "is_left" 2 2 .rep d_Laid_is_left := mok_of F hm hc hM hb sc_Laid_is_left rfl rfl fun cdv A outer s H E hr => by
  have nd := sc_Laid_is_left.nd; have tk := takes_of (X := cxOf (L2.CX P w) P w K mg base ["self", "joint"] "Laid.is_left" (defScope s_Laid_is_left) f cdv A outer s H E) (E := E) rfl rfl rfl rfl; have hp := passes_of (X := cxOf (L2.CX P w) P w K mg base ["self", "joint"] "Laid.is_left" (defScope s_Laid_is_left) f cdv A outer s H E) rfl
  exact ⟨[], (sss_cons (ss_ret (se_cmp (od_eq hr) (se_brw (se_meth h_Laid_highest hr (by omega) (se_var 0) (sa_cons (se_ix hr (se_brw (se_var 1)) (se_brw se_int)) sa_nil))) (se_brw (se_meth h_Laid_spot_of hr (by omega) (se_var 0) (sa_cons (se_ix hr (se_brw (se_var 1)) (se_brw se_int)) sa_nil))))) (sss_never (Wk := [])))⟩
abbrev s_Laid_touches : Stmt := inClass (top 9) 7
theorem sc_Laid_touches : FnScope ["self", "joint", "other"] ["self", "joint", "other"] (defScope s_Laid_touches) := ⟨rfl, rfl, rfl, by decide +kernel, rfl, by decide +kernel, by decide +kernel⟩
def b_Laid_touches : DenS := (dSeq (dRet (dAnd (dBin (bo pEqB) (dMeth "Laid" "spot_of" d_Laid_spot_of (dV 0) (dCons (dIx (dV 1) (dC (.int 0))) dNil)) (dMeth "Laid" "spot_of" d_Laid_spot_of (dV 0) (dCons (dIx (dV 2) (dC (.int 0))) dNil))) (dBin (bo pEqB) (dMeth "Laid" "is_left" d_Laid_is_left (dV 0) (dCons (dV 1) dNil)) (dMeth "Laid" "is_left" d_Laid_is_left (dV 0) (dCons (dV 2) dNil))))) dNever)
def d_Laid_touches : DDen := dDef 3 .rep b_Laid_touches
theorem ok_Laid_touches {f C : Addr} {fd : FuncData} (B : Bt mg) (F : Fun K "touches" "Laid.touches" s_Laid_touches f fd) (hm : mg "Laid" = some (.ref C)) (hc : Cls K C) (hM : Meth K C "touches" f) (hb : Binds K fd ["self", "joint", "other"] []) (h_Laid_is_left : MOk P w K mg base "Laid" "is_left" 2 2 .rep d_Laid_is_left) (h_Laid_spot_of : MOk P w K mg base "Laid" "spot_of" 2 1 .rep d_Laid_spot_of) :
    MOk P w K mg base "Laid" "touches" 3 3 .rep d_Laid_touches := mok_of F hm hc hM hb sc_Laid_touches rfl rfl fun cdv A outer s H E hr => by
  have nd := sc_Laid_touches.nd; have tk := takes_of (X := cxOf (L2.CX P w) P w K mg base ["self", "joint", "other"] "Laid.touches" (defScope s_Laid_touches) f cdv A outer s H E) (E := E) rfl rfl rfl rfl; have hp := passes_of (X := cxOf (L2.CX P w) P w K mg base ["self", "joint", "other"] "Laid.touches" (defScope s_Laid_touches) f cdv A outer s H E) rfl
  exact ⟨[], (sss_cons (ss_ret (se_and (se_brw (se_cmp (od_eq hr) (se_brw (se_meth h_Laid_spot_of hr (by omega) (se_var 0) (sa_cons (se_ix hr (se_brw (se_var 1)) (se_brw se_int)) sa_nil))) (se_brw (se_meth h_Laid_spot_of hr (by omega) (se_var 0) (sa_cons (se_ix hr (se_brw (se_var 2)) (se_brw se_int)) sa_nil))))) (se_one (se_cmp (od_eq hr) (se_brw (se_meth h_Laid_is_left hr (by omega) (se_var 0) (sa_cons (se_var 1) sa_nil))) (se_brw (se_meth h_Laid_is_left hr (by omega) (se_var 0) (sa_cons (se_var 2) sa_nil))))))) (sss_never (Wk := [])))⟩
abbrev s_places_in : Stmt := top 10
theorem sc_places_in : FnScope ["order", "place", "segment"] ["order"] (defScope s_places_in) := ⟨rfl, rfl, rfl, by decide +kernel, rfl, by decide +kernel, by decide +kernel⟩
def b_places_in : DenS := (dSeq (dRet (dDComp (dEnum (dCons (dV 0) dNil)) [1, 2] (gdTup 2 (gdCons (gdName 1) (gdCons (gdName 2) gdNil))) dYes (dV 2) (dV 1))) dNever)
def d_places_in : DDen := dDef 3 .frs b_places_in
theorem ok_places_in {f : Addr} {fd : FuncData} (B : Bt mg) (F : Fun K "places_in" "places_in" s_places_in f fd) (hm : mg "places_in" = some (.ref f)) (hb : Binds K fd ["order"] [])  :
    FOk P w K mg base "places_in" 1 1 .frs d_places_in := fok_of F hm hb sc_places_in rfl rfl fun cdv A outer s H E hr => by
  have nd := sc_places_in.nd; have tk := takes_of (X := cxOf (L2.CX P w) P w K mg base ["order", "place", "segment"] "places_in" (defScope s_places_in) f cdv A outer s H E) (E := E) rfl rfl rfl rfl; have hp := passes_of (X := cxOf (L2.CX P w) P w K mg base ["order", "place", "segment"] "places_in" (defScope s_places_in) f cdv A outer s H E) rfl
  exact ⟨[], (sss_cons (ss_retF (se_dc rfl nd (own := [("place", 1), ("segment", 2)]) (blkOk_by (N := ["order", "place", "segment"]) (sc := defScope s_places_in) (by decide +kernel)) (si_enum B.enumerate (sa_cons (se_var 0) sa_nil)) (fun _ _ _ _ _ => (sg_tup rfl (sgs_cons (sg_name 1 nd) (sgs_cons (sg_name 2 nd) sgs_nil)))) (fun _ _ _ _ _ => sts_nil) (fun _ _ _ _ _ => (se_var 2)) (fun _ _ _ _ _ => (se_var 1)))) (sss_never (Wk := [])))⟩
abbrev s_lies_so : Stmt := top 11
theorem sc_lies_so : FnScope ["letter", "joint", "places", "crease", "ahead", "behind", "above"] ["letter", "joint", "places"] (defScope s_lies_so) := ⟨rfl, rfl, rfl, by decide +kernel, rfl, by decide +kernel, by decide +kernel⟩
def b_lies_so : DenS := (dSeq (dIf (dCmp pEqB (dV 0) (dC (.str "?"))) (dSeq (dRet (dC (.bl true))) dNever) dSkip) (dSeq (dAsg (gdTup 3 (gdCons (gdName 3) (gdCons (gdName 4) (gdCons (gdName 5) gdNil)))) (dV 1)) (dSeq (dSet 6 (dBin (bo pGt) (dIx (dV 2) (dV 5)) (dIx (dV 2) (dV 4)))) (dSeq (dRet (dBin (bo pEqB) (dBin (bo pEqB) (dV 0) (dC (.str "v"))) (dBin (bo pEqB) (dV 6) (dBin (bo pEqB) (dBin pMod (dV 4) (dC (.int 2))) (dC (.int 0)))))) dNever))))
def d_lies_so : DDen := dDef 7 .rep b_lies_so
theorem ok_lies_so {f : Addr} {fd : FuncData} (B : Bt mg) (F : Fun K "lies_so" "lies_so" s_lies_so f fd) (hm : mg "lies_so" = some (.ref f)) (hb : Binds K fd ["letter", "joint", "places"] [])  :
    FOk P w K mg base "lies_so" 3 1 .rep d_lies_so := fok_of F hm hb sc_lies_so rfl rfl fun cdv A outer s H E hr => by
  have nd := sc_lies_so.nd; have tk := takes_of (X := cxOf (L2.CX P w) P w K mg base ["letter", "joint", "places", "crease", "ahead", "behind", "above"] "lies_so" (defScope s_lies_so) f cdv A outer s H E) (E := E) rfl rfl rfl rfl; have hp := passes_of (X := cxOf (L2.CX P w) P w K mg base ["letter", "joint", "places", "crease", "ahead", "behind", "above"] "lies_so" (defScope s_lies_so) f cdv A outer s H E) rfl
  exact ⟨[], (sss_cons (ss_if (st_cmp (od_eq hr) (se_brw (se_var 0)) (se_brw se_str)) (sss_cons (ss_ret se_bl) (sss_never (Wk := []))) sss_nil) (sss_cons (ss_asg (se_var 1) (sg_tup rfl (sgs_cons (sg_name 3 nd) (sgs_cons (sg_name 4 nd) (sgs_cons (sg_name 5 nd) sgs_nil))))) (sss_cons (ss_set 6 nd (se_cmp od_gt (se_brw (se_ix hr (se_brw (se_var 2)) (se_brw (se_var 5)))) (se_brw (se_ix hr (se_brw (se_var 2)) (se_brw (se_var 4)))))) (sss_cons (ss_ret (se_cmp (od_eq hr) (se_brw (se_cmp (od_eq hr) (se_brw (se_var 0)) (se_brw se_str))) (se_brw (se_cmp (od_eq hr) (se_brw (se_var 6)) (se_brw (se_cmp (od_eq hr) (se_brw (se_op od_mod (se_brw (se_var 4)) (se_brw se_int))) (se_brw se_int))))))) (sss_never (Wk := []))))))⟩
abbrev s_is_between : Stmt := top 12
theorem sc_is_between : FnScope ["places", "segment", "joint", "ends"] ["places", "segment", "joint"] (defScope s_is_between) := ⟨rfl, rfl, rfl, by decide +kernel, rfl, by decide +kernel, by decide +kernel⟩
def b_is_between : DenS := (dSeq (dSet 3 (dCB oSort (dCons (dLst (dCons (dIx (dV 0) (dIx (dV 2) (dC (.int 1)))) (dCons (dIx (dV 0) (dIx (dV 2) (dC (.int 2)))) dNil))) dNil))) (dSeq (dRet (dOfT (dChT pLt pLt (dIx (dV 3) (dC (.int 0))) (dIx (dV 0) (dV 1)) (dIx (dV 3) (dC (.int 1)))))) dNever))
def d_is_between : DDen := dDef 4 .rep b_is_between
theorem ok_is_between {f : Addr} {fd : FuncData} (B : Bt mg) (F : Fun K "is_between" "is_between" s_is_between f fd) (hm : mg "is_between" = some (.ref f)) (hb : Binds K fd ["places", "segment", "joint"] [])  :
    FOk P w K mg base "is_between" 3 1 .rep d_is_between := fok_of F hm hb sc_is_between rfl rfl fun cdv A outer s H E hr => by
  have nd := sc_is_between.nd; have tk := takes_of (X := cxOf (L2.CX P w) P w K mg base ["places", "segment", "joint", "ends"] "is_between" (defScope s_is_between) f cdv A outer s H E) (E := E) rfl rfl rfl rfl; have hp := passes_of (X := cxOf (L2.CX P w) P w K mg base ["places", "segment", "joint", "ends"] "is_between" (defScope s_is_between) f cdv A outer s H E) rfl
  exact ⟨[], (sss_cons (ss_set 3 nd (se_rep (se_callB cd_sorted B.sorted (by decide +kernel) (sb_cons (se_brw (se_lst (sa_cons (se_ix hr (se_brw (se_var 0)) (se_brw (se_ix hr (se_brw (se_var 2)) (se_brw se_int)))) (sa_cons (se_ix hr (se_brw (se_var 0)) (se_brw (se_ix hr (se_brw (se_var 2)) (se_brw se_int)))) sa_nil)))) sa_nil)))) (sss_cons (ss_ret (se_chain od_lt od_lt (se_brw (se_ix hr (se_brw (se_var 3)) (se_brw se_int))) (se_brw (se_ix hr (se_brw (se_var 0)) (se_brw (se_var 1)))) (se_brw (se_ix hr (se_brw (se_var 3)) (se_brw se_int))))) (sss_never (Wk := []))))⟩
abbrev s_told_fault : Stmt := top 13
theorem sc_told_fault : FnScope ["laid", "joints", "places", "joint"] ["laid", "joints", "places"] (defScope s_told_fault) := ⟨rfl, rfl, rfl, by decide +kernel, rfl, by decide +kernel, by decide +kernel⟩
def b_told_fault : DenS := (dSeq (dFor (dIt (dV 1)) (gdName 3) (dSeq (dIf (dNotT (dTr (dCall d_lies_so (dCons (dIx (dFld "Laid" "signs" (dV 0)) (dIx (dV 3) (dC (.int 0)))) (dCons (dV 3) (dCons (dV 2) dNil)))))) (dSeq (dRet (dTup (dCons (dC (.str "told")) (dCons (dIx (dV 3) (dC (.int 0))) dNil)))) dNever) dSkip) dSkip)) (dSeq (dRet (dC .non)) dNever))
def d_told_fault : DDen := dDef 4 .rep b_told_fault
theorem ok_told_fault {f : Addr} {fd : FuncData} (B : Bt mg) (F : Fun K "told_fault" "told_fault" s_told_fault f fd) (hm : mg "told_fault" = some (.ref f)) (hb : Binds K fd ["laid", "joints", "places"] []) (h_lies_so : FOk P w K mg base "lies_so" 3 1 .rep d_lies_so) (T_Laid : ClF K mg "Laid") (T_Laid_signs : ∀ C, mg "Laid" = some (.ref C) → NoAttr K C "signs") :
    FOk P w K mg base "told_fault" 3 2 .rep d_told_fault := fok_of F hm hb sc_told_fault rfl rfl fun cdv A outer s H E hr => by
  have nd := sc_told_fault.nd; have tk := takes_of (X := cxOf (L2.CX P w) P w K mg base ["laid", "joints", "places", "joint"] "told_fault" (defScope s_told_fault) f cdv A outer s H E) (E := E) rfl rfl rfl rfl; have hp := passes_of (X := cxOf (L2.CX P w) P w K mg base ["laid", "joints", "places", "joint"] "told_fault" (defScope s_told_fault) f cdv A outer s H E) rfl
  exact ⟨[], (sss_cons (ss_for hp rfl (si_seq (se_var 1)) (sg_name 3 nd) (sss_cons (ss_if (st_not (st_val (se_brw (se_call h_lies_so hr (by omega) tk (sa_cons (se_ix hr (se_brw (se_fld T_Laid (T_Laid_signs) (se_brw (se_var 0)))) (se_brw (se_ix hr (se_brw (se_var 3)) (se_brw se_int)))) (sa_cons (se_var 3) (sa_cons (se_var 2) sa_nil))))))) (sss_cons (ss_ret (se_tup (sa_cons se_str (sa_cons (se_ix hr (se_brw (se_var 3)) (se_brw se_int)) sa_nil)))) (sss_never (Wk := []))) sss_nil) sss_nil)) (sss_cons (ss_ret se_non) (sss_never (Wk := []))))⟩
abbrev s_pass_fault : Stmt := top 14
theorem sc_pass_fault : FnScope ["laid", "joints", "segments", "places", "joint", "segment"] ["laid", "joints", "segments", "places"] (defScope s_pass_fault) := ⟨rfl, rfl, rfl, by decide +kernel, rfl, by decide +kernel, by decide +kernel⟩
def b_pass_fault : DenS := (dSeq (dFor (dIt (dV 1)) (gdName 4) (dSeq (dFor (dIt (dV 2)) (gdName 5) (dSeq (dIf (dAndT (dTr (dMeth "Laid" "has_inside" d_Laid_has_inside (dV 0) (dCons (dV 5) (dCons (dMeth "Laid" "spot_of" d_Laid_spot_of (dV 0) (dCons (dIx (dV 4) (dC (.int 0))) dNil)) dNil)))) (dTr (dCall d_is_between (dCons (dV 3) (dCons (dV 5) (dCons (dV 4) dNil)))))) (dSeq (dRet (dTup (dCons (dC (.str "pass")) (dCons (dIx (dV 4) (dC (.int 0))) (dCons (dV 5) dNil))))) dNever) dSkip) dSkip)) dSkip)) (dSeq (dRet (dC .non)) dNever))
def d_pass_fault : DDen := dDef 6 .rep b_pass_fault
theorem ok_pass_fault {f : Addr} {fd : FuncData} (B : Bt mg) (F : Fun K "pass_fault" "pass_fault" s_pass_fault f fd) (hm : mg "pass_fault" = some (.ref f)) (hb : Binds K fd ["laid", "joints", "segments", "places"] []) (h_is_between : FOk P w K mg base "is_between" 3 1 .rep d_is_between) (h_Laid_has_inside : MOk P w K mg base "Laid" "has_inside" 3 2 .rep d_Laid_has_inside) (h_Laid_spot_of : MOk P w K mg base "Laid" "spot_of" 2 1 .rep d_Laid_spot_of) :
    FOk P w K mg base "pass_fault" 4 3 .rep d_pass_fault := fok_of F hm hb sc_pass_fault rfl rfl fun cdv A outer s H E hr => by
  have nd := sc_pass_fault.nd; have tk := takes_of (X := cxOf (L2.CX P w) P w K mg base ["laid", "joints", "segments", "places", "joint", "segment"] "pass_fault" (defScope s_pass_fault) f cdv A outer s H E) (E := E) rfl rfl rfl rfl; have hp := passes_of (X := cxOf (L2.CX P w) P w K mg base ["laid", "joints", "segments", "places", "joint", "segment"] "pass_fault" (defScope s_pass_fault) f cdv A outer s H E) rfl
  exact ⟨[], (sss_cons (ss_for hp rfl (si_seq (se_var 1)) (sg_name 4 nd) (sss_cons (ss_for hp rfl (si_seq (se_var 2)) (sg_name 5 nd) (sss_cons (ss_if (sw_st (sw_and (st_val (se_brw (se_meth h_Laid_has_inside hr (by omega) (se_var 0) (sa_cons (se_var 5) (sa_cons (se_meth h_Laid_spot_of hr (by omega) (se_var 0) (sa_cons (se_ix hr (se_brw (se_var 4)) (se_brw se_int)) sa_nil)) sa_nil))))) (sw_and1 (st_val (se_brw (se_call h_is_between hr (by omega) tk (sa_cons (se_var 3) (sa_cons (se_var 5) (sa_cons (se_var 4) sa_nil))))))))) (sss_cons (ss_ret (se_tup (sa_cons se_str (sa_cons (se_ix hr (se_brw (se_var 4)) (se_brw se_int)) (sa_cons (se_var 5) sa_nil))))) (sss_never (Wk := []))) sss_nil) sss_nil)) sss_nil)) (sss_cons (ss_ret se_non) (sss_never (Wk := []))))⟩
abbrev s_nest_fault : Stmt := top 15
theorem sc_nest_fault : FnScope ["laid", "joints", "places", "at", "joint", "other"] ["laid", "joints", "places"] (defScope s_nest_fault) := ⟨rfl, rfl, rfl, by decide +kernel, rfl, by decide +kernel, by decide +kernel⟩
def b_nest_fault : DenS := (dSeq (dFor (dEnum (dCons (dV 1) dNil)) (gdTup 2 (gdCons (gdName 3) (gdCons (gdName 4) gdNil))) (dSeq (dFor (dIt (dSl pSl (dV 1) (dSome (dBin pPlus (dV 3) (dC (.int 1)))) dNo)) (gdName 5) (dSeq (dIf (dTr (dMeth "Laid" "touches" d_Laid_touches (dV 0) (dCons (dV 4) (dCons (dV 5) dNil)))) (dSeq (dIf (dCmp pNeB (dCall d_is_between (dCons (dV 2) (dCons (dIx (dV 5) (dC (.int 1))) (dCons (dV 4) dNil)))) (dCall d_is_between (dCons (dV 2) (dCons (dIx (dV 5) (dC (.int 2))) (dCons (dV 4) dNil))))) (dSeq (dRet (dTup (dCons (dC (.str "nest")) (dCons (dIx (dV 4) (dC (.int 0))) (dCons (dIx (dV 5) (dC (.int 0))) dNil))))) dNever) dSkip) dSkip) dSkip) dSkip)) dSkip)) (dSeq (dRet (dC .non)) dNever))
def d_nest_fault : DDen := dDef 6 .rep b_nest_fault
theorem ok_nest_fault {f : Addr} {fd : FuncData} (B : Bt mg) (F : Fun K "nest_fault" "nest_fault" s_nest_fault f fd) (hm : mg "nest_fault" = some (.ref f)) (hb : Binds K fd ["laid", "joints", "places"] []) (h_Laid_touches : MOk P w K mg base "Laid" "touches" 3 3 .rep d_Laid_touches) (h_is_between : FOk P w K mg base "is_between" 3 1 .rep d_is_between) :
    FOk P w K mg base "nest_fault" 3 4 .rep d_nest_fault := fok_of F hm hb sc_nest_fault rfl rfl fun cdv A outer s H E hr => by
  have nd := sc_nest_fault.nd; have tk := takes_of (X := cxOf (L2.CX P w) P w K mg base ["laid", "joints", "places", "at", "joint", "other"] "nest_fault" (defScope s_nest_fault) f cdv A outer s H E) (E := E) rfl rfl rfl rfl; have hp := passes_of (X := cxOf (L2.CX P w) P w K mg base ["laid", "joints", "places", "at", "joint", "other"] "nest_fault" (defScope s_nest_fault) f cdv A outer s H E) rfl
  exact ⟨[], (sss_cons (ss_for hp rfl (si_enum B.enumerate (sa_cons (se_var 1) sa_nil)) (sg_tup rfl (sgs_cons (sg_name 3 nd) (sgs_cons (sg_name 4 nd) sgs_nil))) (sss_cons (ss_for hp rfl (si_seq (se_rep (se_slice (se_brw (se_var 1)) (so_some (se_brw (se_op od_plus (se_brw (se_var 3)) (se_brw se_int)))) so_none))) (sg_name 5 nd) (sss_cons (ss_if (st_val (se_brw (se_meth h_Laid_touches hr (by omega) (se_var 0) (sa_cons (se_var 4) (sa_cons (se_var 5) sa_nil))))) (sss_cons (ss_if (st_cmp (od_ne hr) (se_brw (se_call h_is_between hr (by omega) tk (sa_cons (se_var 2) (sa_cons (se_ix hr (se_brw (se_var 5)) (se_brw se_int)) (sa_cons (se_var 4) sa_nil))))) (se_brw (se_call h_is_between hr (by omega) tk (sa_cons (se_var 2) (sa_cons (se_ix hr (se_brw (se_var 5)) (se_brw se_int)) (sa_cons (se_var 4) sa_nil)))))) (sss_cons (ss_ret (se_tup (sa_cons se_str (sa_cons (se_ix hr (se_brw (se_var 4)) (se_brw se_int)) (sa_cons (se_ix hr (se_brw (se_var 5)) (se_brw se_int)) sa_nil))))) (sss_never (Wk := []))) sss_nil) sss_nil) sss_nil) sss_nil)) sss_nil)) (sss_cons (ss_ret se_non) (sss_never (Wk := []))))⟩
abbrev s_fault_among : Stmt := top 16
theorem sc_fault_among : FnScope ["laid", "joints", "segments", "order", "places", "fault"] ["laid", "joints", "segments", "order"] (defScope s_fault_among) := ⟨rfl, rfl, rfl, by decide +kernel, rfl, by decide +kernel, by decide +kernel⟩
def b_fault_among : DenS := (dSeq (dSet 4 (dCall d_places_in (dCons (dV 3) dNil))) (dSeq (dSet 5 (dCall d_told_fault (dCons (dV 0) (dCons (dV 1) (dCons (dV 4) dNil))))) (dSeq (dIf (dCmp pIs (dV 5) (dC .non)) (dSeq (dSet 5 (dCall d_pass_fault (dCons (dV 0) (dCons (dV 1) (dCons (dV 2) (dCons (dV 4) dNil)))))) dSkip) dSkip) (dSeq (dIf (dCmp pIs (dV 5) (dC .non)) (dSeq (dSet 5 (dCall d_nest_fault (dCons (dV 0) (dCons (dV 1) (dCons (dV 4) dNil))))) dSkip) dSkip) (dSeq (dRet (dV 5)) dNever)))))
def d_fault_among : DDen := dDef 6 .rep b_fault_among
theorem ok_fault_among {f : Addr} {fd : FuncData} (B : Bt mg) (F : Fun K "fault_among" "fault_among" s_fault_among f fd) (hm : mg "fault_among" = some (.ref f)) (hb : Binds K fd ["laid", "joints", "segments", "order"] []) (h_places_in : FOk P w K mg base "places_in" 1 1 .frs d_places_in) (h_told_fault : FOk P w K mg base "told_fault" 3 2 .rep d_told_fault) (h_pass_fault : FOk P w K mg base "pass_fault" 4 3 .rep d_pass_fault) (h_nest_fault : FOk P w K mg base "nest_fault" 3 4 .rep d_nest_fault) :
    FOk P w K mg base "fault_among" 4 5 .rep d_fault_among := fok_of F hm hb sc_fault_among rfl rfl fun cdv A outer s H E hr => by
  have nd := sc_fault_among.nd; have tk := takes_of (X := cxOf (L2.CX P w) P w K mg base ["laid", "joints", "segments", "order", "places", "fault"] "fault_among" (defScope s_fault_among) f cdv A outer s H E) (E := E) rfl rfl rfl rfl; have hp := passes_of (X := cxOf (L2.CX P w) P w K mg base ["laid", "joints", "segments", "order", "places", "fault"] "fault_among" (defScope s_fault_among) f cdv A outer s H E) rfl
  exact ⟨[], (sss_cons (ss_set 4 nd (se_rep (se_call h_places_in hr (by omega) tk (sa_cons (se_var 3) sa_nil)))) (sss_cons (ss_set 5 nd (se_call h_told_fault hr (by omega) tk (sa_cons (se_var 0) (sa_cons (se_var 1) (sa_cons (se_var 4) sa_nil))))) (sss_cons (ss_if (st_cmp od_is (se_brw (se_var 5)) (se_brw se_non)) (sss_cons (ss_set 5 nd (se_call h_pass_fault hr (by omega) tk (sa_cons (se_var 0) (sa_cons (se_var 1) (sa_cons (se_var 2) (sa_cons (se_var 4) sa_nil)))))) sss_nil) sss_nil) (sss_cons (ss_if (st_cmp od_is (se_brw (se_var 5)) (se_brw se_non)) (sss_cons (ss_set 5 nd (se_call h_nest_fault hr (by omega) tk (sa_cons (se_var 0) (sa_cons (se_var 1) (sa_cons (se_var 4) sa_nil))))) sss_nil) sss_nil) (sss_cons (ss_ret (se_var 5)) (sss_never (Wk := [])))))))⟩
abbrev s_order_fault : Stmt := top 17
theorem sc_order_fault : FnScope ["laid", "order"] ["laid", "order"] (defScope s_order_fault) := ⟨rfl, rfl, rfl, by decide +kernel, rfl, by decide +kernel, by decide +kernel⟩
def b_order_fault : DenS := (dSeq (dRet (dCall d_fault_among (dCons (dV 0) (dCons (dFld "Laid" "joints" (dV 0)) (dCons (dLR1 (dFld "Laid" "many" (dV 0))) (dCons (dV 1) dNil)))))) dNever)
def d_order_fault : DDen := dDef 2 .rep b_order_fault
theorem ok_order_fault {f : Addr} {fd : FuncData} (B : Bt mg) (F : Fun K "order_fault" "order_fault" s_order_fault f fd) (hm : mg "order_fault" = some (.ref f)) (hb : Binds K fd ["laid", "order"] []) (h_fault_among : FOk P w K mg base "fault_among" 4 5 .rep d_fault_among) (T_Laid : ClF K mg "Laid") (T_Laid_joints : ∀ C, mg "Laid" = some (.ref C) → NoAttr K C "joints") (T_Laid_many : ∀ C, mg "Laid" = some (.ref C) → NoAttr K C "many") :
    FOk P w K mg base "order_fault" 2 6 .rep d_order_fault := fok_of F hm hb sc_order_fault rfl rfl fun cdv A outer s H E hr => by
  have nd := sc_order_fault.nd; have tk := takes_of (X := cxOf (L2.CX P w) P w K mg base ["laid", "order"] "order_fault" (defScope s_order_fault) f cdv A outer s H E) (E := E) rfl rfl rfl rfl; have hp := passes_of (X := cxOf (L2.CX P w) P w K mg base ["laid", "order"] "order_fault" (defScope s_order_fault) f cdv A outer s H E) rfl
  exact ⟨[], (sss_cons (ss_ret (se_call h_fault_among hr (by omega) tk (sa_cons (se_var 0) (sa_cons (se_fld T_Laid (T_Laid_joints) (se_brw (se_var 0))) (sa_cons (se_rep (se_listRg1 rfl B.list B.range (se_brw (se_fld T_Laid (T_Laid_many) (se_brw (se_var 0)))))) (sa_cons (se_var 1) sa_nil)))))) (sss_never (Wk := [])))⟩
abbrev s_is_length : Stmt := top 24
theorem sc_is_length : FnScope ["thing"] ["thing"] (defScope s_is_length) := ⟨rfl, rfl, rfl, by decide +kernel, rfl, by decide +kernel, by decide +kernel⟩
def b_is_length : DenS := (dSeq (dRet (dAnd (dCall d_is_integer (dCons (dV 0) dNil)) (dBin (bo pGt) (dV 0) (dC (.int 0))))) dNever)
def d_is_length : DDen := dDef 1 .rep b_is_length
theorem ok_is_length {f : Addr} {fd : FuncData} (B : Bt mg) (F : Fun K "is_length" "is_length" s_is_length f fd) (hm : mg "is_length" = some (.ref f)) (hb : Binds K fd ["thing"] []) (h_is_integer : FOk P w K mg base "is_integer" 1 1 .rep d_is_integer) :
    FOk P w K mg base "is_length" 1 2 .rep d_is_length := fok_of F hm hb sc_is_length rfl rfl fun cdv A outer s H E hr => by
  have nd := sc_is_length.nd; have tk := takes_of (X := cxOf (L2.CX P w) P w K mg base ["thing"] "is_length" (defScope s_is_length) f cdv A outer s H E) (E := E) rfl rfl rfl rfl; have hp := passes_of (X := cxOf (L2.CX P w) P w K mg base ["thing"] "is_length" (defScope s_is_length) f cdv A outer s H E) rfl
  exact ⟨[], (sss_cons (ss_ret (se_and (se_brw (se_call h_is_integer hr (by omega) tk (sa_cons (se_var 0) sa_nil))) (se_one (se_cmp od_gt (se_brw (se_var 0)) (se_brw se_int))))) (sss_never (Wk := [])))⟩
abbrev s_is_letter : Stmt := top 25
theorem sc_is_letter : FnScope ["thing"] ["thing"] (defScope s_is_letter) := ⟨rfl, rfl, rfl, by decide +kernel, rfl, by decide +kernel, by decide +kernel⟩
def b_is_letter : DenS := (dSeq (dRet (dAnd (dCall d_is_text (dCons (dV 0) dNil)) (dBin (bo pInB) (dV 0) (dTup (dCons (dC (.str "m")) (dCons (dC (.str "v")) (dCons (dC (.str "?")) dNil))))))) dNever)
def d_is_letter : DDen := dDef 1 .rep b_is_letter
theorem ok_is_letter {f : Addr} {fd : FuncData} (B : Bt mg) (F : Fun K "is_letter" "is_letter" s_is_letter f fd) (hm : mg "is_letter" = some (.ref f)) (hb : Binds K fd ["thing"] []) (h_is_text : FOk P w K mg base "is_text" 1 1 .rep d_is_text) :
    FOk P w K mg base "is_letter" 1 2 .rep d_is_letter := fok_of F hm hb sc_is_letter rfl rfl fun cdv A outer s H E hr => by
  have nd := sc_is_letter.nd; have tk := takes_of (X := cxOf (L2.CX P w) P w K mg base ["thing"] "is_letter" (defScope s_is_letter) f cdv A outer s H E) (E := E) rfl rfl rfl rfl; have hp := passes_of (X := cxOf (L2.CX P w) P w K mg base ["thing"] "is_letter" (defScope s_is_letter) f cdv A outer s H E) rfl
  exact ⟨[], (sss_cons (ss_ret (se_and (se_brw (se_call h_is_text hr (by omega) tk (sa_cons (se_var 0) sa_nil))) (se_one (se_cmp od_in (se_brw (se_var 0)) (se_brw (se_tup (sa_cons se_str (sa_cons se_str (sa_cons se_str sa_nil))))))))) (sss_never (Wk := [])))⟩
abbrev s_wrong_lengths : Stmt := top 26
theorem sc_wrong_lengths : FnScope ["lengths", "index", "length"] ["lengths"] (defScope s_wrong_lengths) := ⟨rfl, rfl, rfl, by decide +kernel, rfl, by decide +kernel, by decide +kernel⟩
def b_wrong_lengths : DenS := (dSeq (dIf (dOrT (dNotT (dTr (dCall d_is_list (dCons (dV 0) dNil)))) (dCmp pEqB (dCB oLen (dCons (dV 0) dNil)) (dC (.int 0)))) (dSeq (dRet (dC (.int 0))) dNever) dSkip) (dSeq (dFor (dEnum (dCons (dV 0) dNil)) (gdTup 2 (gdCons (gdName 1) (gdCons (gdName 2) gdNil))) (dSeq (dIf (dNotT (dTr (dCall d_is_length (dCons (dV 2) dNil)))) (dSeq (dRet (dV 1)) dNever) dSkip) dSkip)) (dSeq (dRet (dC .non)) dNever)))
def d_wrong_lengths : DDen := dDef 3 .rep b_wrong_lengths
theorem ok_wrong_lengths {f : Addr} {fd : FuncData} (B : Bt mg) (F : Fun K "wrong_lengths" "wrong_lengths" s_wrong_lengths f fd) (hm : mg "wrong_lengths" = some (.ref f)) (hb : Binds K fd ["lengths"] []) (h_is_list : FOk P w K mg base "is_list" 1 1 .rep d_is_list) (h_is_length : FOk P w K mg base "is_length" 1 2 .rep d_is_length) :
    FOk P w K mg base "wrong_lengths" 1 3 .rep d_wrong_lengths := fok_of F hm hb sc_wrong_lengths rfl rfl fun cdv A outer s H E hr => by
  have nd := sc_wrong_lengths.nd; have tk := takes_of (X := cxOf (L2.CX P w) P w K mg base ["lengths", "index", "length"] "wrong_lengths" (defScope s_wrong_lengths) f cdv A outer s H E) (E := E) rfl rfl rfl rfl; have hp := passes_of (X := cxOf (L2.CX P w) P w K mg base ["lengths", "index", "length"] "wrong_lengths" (defScope s_wrong_lengths) f cdv A outer s H E) rfl
  exact ⟨[], (sss_cons (ss_if (sw_st (sw_or (st_not (st_val (se_brw (se_call h_is_list hr (by omega) tk (sa_cons (se_var 0) sa_nil))))) (sw_or1 (st_cmp (od_eq hr) (se_brw (se_callB cd_len B.len (by decide +kernel) (sb_cons (se_brw (se_var 0)) sa_nil))) (se_brw se_int))))) (sss_cons (ss_ret se_int) (sss_never (Wk := []))) sss_nil) (sss_cons (ss_for hp rfl (si_enum B.enumerate (sa_cons (se_var 0) sa_nil)) (sg_tup rfl (sgs_cons (sg_name 1 nd) (sgs_cons (sg_name 2 nd) sgs_nil))) (sss_cons (ss_if (st_not (st_val (se_brw (se_call h_is_length hr (by omega) tk (sa_cons (se_var 2) sa_nil))))) (sss_cons (ss_ret (se_var 1)) (sss_never (Wk := []))) sss_nil) sss_nil)) (sss_cons (ss_ret se_non) (sss_never (Wk := [])))))⟩
abbrev s_wrong_letters : Stmt := top 27
theorem sc_wrong_letters : FnScope ["many", "letters", "index", "letter"] ["many", "letters"] (defScope s_wrong_letters) := ⟨rfl, rfl, rfl, by decide +kernel, rfl, by decide +kernel, by decide +kernel⟩
def b_wrong_letters : DenS := (dSeq (dIf (dNotT (dTr (dCall d_is_list (dCons (dV 1) dNil)))) (dSeq (dRet (dC (.int 0))) dNever) dSkip) (dSeq (dFor (dEnum (dCons (dV 1) dNil)) (gdTup 2 (gdCons (gdName 2) (gdCons (gdName 3) gdNil))) (dSeq (dIf (dOrT (dCmp pEqB (dV 2) (dV 0)) (dNotT (dTr (dCall d_is_letter (dCons (dV 3) dNil))))) (dSeq (dRet (dV 2)) dNever) dSkip) dSkip)) (dSeq (dRet (dIfE (dCmp pLt (dCB oLen (dCons (dV 1) dNil)) (dV 0)) (dCB oLen (dCons (dV 1) dNil)) (dC .non))) dNever)))
def d_wrong_letters : DDen := dDef 4 .rep b_wrong_letters
theorem ok_wrong_letters {f : Addr} {fd : FuncData} (B : Bt mg) (F : Fun K "wrong_letters" "wrong_letters" s_wrong_letters f fd) (hm : mg "wrong_letters" = some (.ref f)) (hb : Binds K fd ["many", "letters"] []) (h_is_list : FOk P w K mg base "is_list" 1 1 .rep d_is_list) (h_is_letter : FOk P w K mg base "is_letter" 1 2 .rep d_is_letter) :
    FOk P w K mg base "wrong_letters" 2 3 .rep d_wrong_letters := fok_of F hm hb sc_wrong_letters rfl rfl fun cdv A outer s H E hr => by
  have nd := sc_wrong_letters.nd; have tk := takes_of (X := cxOf (L2.CX P w) P w K mg base ["many", "letters", "index", "letter"] "wrong_letters" (defScope s_wrong_letters) f cdv A outer s H E) (E := E) rfl rfl rfl rfl; have hp := passes_of (X := cxOf (L2.CX P w) P w K mg base ["many", "letters", "index", "letter"] "wrong_letters" (defScope s_wrong_letters) f cdv A outer s H E) rfl
  exact ⟨[], (sss_cons (ss_if (st_not (st_val (se_brw (se_call h_is_list hr (by omega) tk (sa_cons (se_var 1) sa_nil))))) (sss_cons (ss_ret se_int) (sss_never (Wk := []))) sss_nil) (sss_cons (ss_for hp rfl (si_enum B.enumerate (sa_cons (se_var 1) sa_nil)) (sg_tup rfl (sgs_cons (sg_name 2 nd) (sgs_cons (sg_name 3 nd) sgs_nil))) (sss_cons (ss_if (sw_st (sw_or (st_cmp (od_eq hr) (se_brw (se_var 2)) (se_brw (se_var 0))) (sw_or1 (st_not (st_val (se_brw (se_call h_is_letter hr (by omega) tk (sa_cons (se_var 3) sa_nil)))))))) (sss_cons (ss_ret (se_var 2)) (sss_never (Wk := []))) sss_nil) sss_nil)) (sss_cons (ss_ret (se_if (st_cmp od_lt (se_brw (se_callB cd_len B.len (by decide +kernel) (sb_cons (se_brw (se_var 1)) sa_nil))) (se_brw (se_var 0))) (se_callB cd_len B.len (by decide +kernel) (sb_cons (se_brw (se_var 1)) sa_nil)) se_non)) (sss_never (Wk := [])))))⟩
abbrev s_Strip_init__ : Stmt := inClass (top 28) 0
theorem sc_Strip_init__ : FnScope ["self", "lengths", "creases", "index"] ["self", "lengths", "creases"] (defScope s_Strip_init__) := ⟨rfl, rfl, rfl, by decide +kernel, rfl, by decide +kernel, by decide +kernel⟩
def b_Strip_init__ : DenS := (dSeq (dSet 3 (dCall d_wrong_lengths (dCons (dV 1) dNil))) (dSeq (dIf (dCmp pIsnt (dV 3) (dC .non)) (dSeq dNever dNever) dSkip) (dSeq (dSet 3 (dCall d_wrong_letters (dCons (dBin pSub (dCB oLen (dCons (dV 1) dNil)) (dC (.int 1))) (dCons (dV 2) dNil)))) (dSeq (dIf (dCmp pIsnt (dV 3) (dC .non)) (dSeq dNever dNever) dSkip) (dSeq (dFldS 0 "Strip" "_lengths" (dCB oList (dCons (dV 1) dNil))) (dSeq (dFldS 0 "Strip" "_creases" (dCB oList (dCons (dV 2) dNil))) dSkip))))))
def d_Strip_init__ : DDen := dInit 4 "Strip" b_Strip_init__
theorem ok_Strip_init__ {f C : Addr} {fd : FuncData} (B : Bt mg) (F : Fun K "__init__" "Strip.__init__" s_Strip_init__ f fd) (hm : mg "Strip" = some (.ref C)) (hM : Mk K C f) (hb : Binds K fd ["self", "lengths", "creases"] []) (h_wrong_lengths : FOk P w K mg base "wrong_lengths" 1 3 .rep d_wrong_lengths) (h_wrong_letters : FOk P w K mg base "wrong_letters" 2 3 .rep d_wrong_letters) (T_Strip : ClF K mg "Strip") (T_Strip__creases : ∀ C, mg "Strip" = some (.ref C) → NoAttr K C "_creases") (T_Strip__lengths : ∀ C, mg "Strip" = some (.ref C) → NoAttr K C "_lengths") :
    IOk P w K mg base "Strip" 3 4 d_Strip_init__ := iok_of F hm hM hb sc_Strip_init__ rfl rfl fun cdv A outer s H E hr => by
  have nd := sc_Strip_init__.nd; have tk := takes_of (X := cxOf (L2.CX P w) P w K mg base ["self", "lengths", "creases", "index"] "Strip.__init__" (defScope s_Strip_init__) f cdv A outer s H E) (E := E) rfl rfl rfl rfl; have hp := passes_of (X := cxOf (L2.CX P w) P w K mg base ["self", "lengths", "creases", "index"] "Strip.__init__" (defScope s_Strip_init__) f cdv A outer s H E) rfl
  exact (sss_cons (ss_set 3 nd (se_call h_wrong_lengths hr (by omega) tk (sa_cons (se_var 1) sa_nil))) (sss_cons (ss_if (st_cmp od_isnt (se_brw (se_var 3)) (se_brw se_non)) (sss_cons ss_never (sss_never (Wk := []))) sss_nil) (sss_cons (ss_set 3 nd (se_call h_wrong_letters hr (by omega) tk (sa_cons (se_op od_sub (se_brw (se_callB cd_len B.len (by decide +kernel) (sb_cons (se_brw (se_var 1)) sa_nil))) (se_brw se_int)) (sa_cons (se_var 2) sa_nil)))) (sss_cons (ss_if (st_cmp od_isnt (se_brw (se_var 3)) (se_brw se_non)) (sss_cons ss_never (sss_never (Wk := []))) sss_nil) (sss_cons (ss_fldS 0 T_Strip T_Strip__lengths (se_rep (se_callTy cd_list B.list (by decide +kernel) (sb_cons (se_brw (se_var 1)) sa_nil)))) (sss_cons (ss_fldS 0 T_Strip T_Strip__creases (se_rep (se_callTy cd_list B.list (by decide +kernel) (sb_cons (se_brw (se_var 2)) sa_nil)))) sss_nil))))))
abbrev s_Strip_lengths : Stmt := inClass (top 28) 1
theorem sc_Strip_lengths : FnScope ["self"] ["self"] (defScope s_Strip_lengths) := ⟨rfl, rfl, rfl, by decide +kernel, rfl, by decide +kernel, by decide +kernel⟩
def b_Strip_lengths : DenS := (dSeq (dRet (dCB oList (dCons (dFld "Strip" "_lengths" (dV 0)) dNil))) dNever)
def d_Strip_lengths : DDen := dDef 1 .frs b_Strip_lengths
theorem ok_Strip_lengths {f C : Addr} {fd : FuncData} (B : Bt mg) (F : Fun K "lengths" "Strip.lengths" s_Strip_lengths f fd) (hm : mg "Strip" = some (.ref C)) (hc : Cls K C) (hM : Meth K C "lengths" f) (hb : Binds K fd ["self"] []) (T_Strip : ClF K mg "Strip") (T_Strip__lengths : ∀ C, mg "Strip" = some (.ref C) → NoAttr K C "_lengths") :
    MOk P w K mg base "Strip" "lengths" 1 1 .frs d_Strip_lengths := mok_of F hm hc hM hb sc_Strip_lengths rfl rfl fun cdv A outer s H E hr => by
  have nd := sc_Strip_lengths.nd; have tk := takes_of (X := cxOf (L2.CX P w) P w K mg base ["self"] "Strip.lengths" (defScope s_Strip_lengths) f cdv A outer s H E) (E := E) rfl rfl rfl rfl; have hp := passes_of (X := cxOf (L2.CX P w) P w K mg base ["self"] "Strip.lengths" (defScope s_Strip_lengths) f cdv A outer s H E) rfl
  exact ⟨[], (sss_cons (ss_retF (se_callTy cd_list B.list (by decide +kernel) (sb_cons (se_brw (se_fld T_Strip (T_Strip__lengths) (se_brw (se_var 0)))) sa_nil))) (sss_never (Wk := [])))⟩
abbrev s_Strip_creases : Stmt := inClass (top 28) 2
theorem sc_Strip_creases : FnScope ["self"] ["self"] (defScope s_Strip_creases) := ⟨rfl, rfl, rfl, by decide +kernel, rfl, by decide +kernel, by decide +kernel⟩
def b_Strip_creases : DenS := (dSeq (dRet (dCB oList (dCons (dFld "Strip" "_creases" (dV 0)) dNil))) dNever)
def d_Strip_creases : DDen := dDef 1 .frs b_Strip_creases
theorem ok_Strip_creases {f C : Addr} {fd : FuncData} (B : Bt mg) (F : Fun K "creases" "Strip.creases" s_Strip_creases f fd) (hm : mg "Strip" = some (.ref C)) (hc : Cls K C) (hM : Meth K C "creases" f) (hb : Binds K fd ["self"] []) (T_Strip : ClF K mg "Strip") (T_Strip__creases : ∀ C, mg "Strip" = some (.ref C) → NoAttr K C "_creases") :
    MOk P w K mg base "Strip" "creases" 1 1 .frs d_Strip_creases := mok_of F hm hc hM hb sc_Strip_creases rfl rfl fun cdv A outer s H E hr => by
  have nd := sc_Strip_creases.nd; have tk := takes_of (X := cxOf (L2.CX P w) P w K mg base ["self"] "Strip.creases" (defScope s_Strip_creases) f cdv A outer s H E) (E := E) rfl rfl rfl rfl; have hp := passes_of (X := cxOf (L2.CX P w) P w K mg base ["self"] "Strip.creases" (defScope s_Strip_creases) f cdv A outer s H E) rfl
  exact ⟨[], (sss_cons (ss_retF (se_callTy cd_list B.list (by decide +kernel) (sb_cons (se_brw (se_fld T_Strip (T_Strip__creases) (se_brw (se_var 0)))) sa_nil))) (sss_never (Wk := [])))⟩
abbrev s_need_strip : Stmt := top 29
theorem sc_need_strip : FnScope ["strip"] ["strip"] (defScope s_need_strip) := ⟨rfl, rfl, rfl, by decide +kernel, rfl, by decide +kernel, by decide +kernel⟩
def b_need_strip : DenS := (dSeq (dIf (dNotT (dTr (dIsIn "Strip" (dV 0)))) (dSeq dNever dNever) dSkip) dSkip)
def d_need_strip : DDen := dDef 1 .rep b_need_strip
theorem ok_need_strip {f : Addr} {fd : FuncData} (B : Bt mg) (F : Fun K "need_strip" "need_strip" s_need_strip f fd) (hm : mg "need_strip" = some (.ref f)) (hb : Binds K fd ["strip"] []) (I_Strip : InF K mg "Strip") :
    FOk P w K mg base "need_strip" 1 1 .rep d_need_strip := fok_of F hm hb sc_need_strip rfl rfl fun cdv A outer s H E hr => by
  have nd := sc_need_strip.nd; have tk := takes_of (X := cxOf (L2.CX P w) P w K mg base ["strip"] "need_strip" (defScope s_need_strip) f cdv A outer s H E) (E := E) rfl rfl rfl rfl; have hp := passes_of (X := cxOf (L2.CX P w) P w K mg base ["strip"] "need_strip" (defScope s_need_strip) f cdv A outer s H E) rfl
  exact ⟨[], (sss_cons (ss_if (st_not (st_val (se_brw (se_isIn I_Strip (se_brw (se_var 0)) B.isinstance)))) (sss_cons ss_never (sss_never (Wk := []))) sss_nil) sss_nil)⟩
abbrev s_is_order_of : Stmt := top 31
theorem sc_is_order_of : FnScope ["many", "thing", "segment"] ["many", "thing"] (defScope s_is_order_of) := ⟨rfl, rfl, rfl, by decide +kernel, rfl, by decide +kernel, by decide +kernel⟩
def b_is_order_of : DenS := (dSeq (dIf (dOrT (dNotT (dTr (dCall d_is_list (dCons (dV 1) dNil)))) (dOrT (dCmp pNeB (dCB oLen (dCons (dV 1) dNil)) (dV 0)) (dNotT (dTr (dCB oAll (dCons (dComp (dIt (dV 1)) [2] (gdName 2) dYes (dCall d_is_number (dCons (dV 2) dNil))) dNil)))))) (dSeq (dRet (dC (.bl false))) dNever) dSkip) (dSeq (dRet (dBin (bo pEqB) (dCB oSort (dCons (dCB oList (dCons (dV 1) dNil)) dNil)) (dLR1 (dV 0)))) dNever))
def d_is_order_of : DDen := dDef 3 .rep b_is_order_of
theorem ok_is_order_of {f : Addr} {fd : FuncData} (B : Bt mg) (F : Fun K "is_order_of" "is_order_of" s_is_order_of f fd) (hm : mg "is_order_of" = some (.ref f)) (hb : Binds K fd ["many", "thing"] []) (h_is_number : FOk P w K mg base "is_number" 1 2 .rep d_is_number) (h_is_list : FOk P w K mg base "is_list" 1 1 .rep d_is_list) :
    FOk P w K mg base "is_order_of" 2 3 .rep d_is_order_of := fok_of F hm hb sc_is_order_of rfl rfl fun cdv A outer s H E hr => by
  have nd := sc_is_order_of.nd; have tk := takes_of (X := cxOf (L2.CX P w) P w K mg base ["many", "thing", "segment"] "is_order_of" (defScope s_is_order_of) f cdv A outer s H E) (E := E) rfl rfl rfl rfl; have hp := passes_of (X := cxOf (L2.CX P w) P w K mg base ["many", "thing", "segment"] "is_order_of" (defScope s_is_order_of) f cdv A outer s H E) rfl
  exact ⟨[], (sss_cons (ss_if (sw_st (sw_or (st_not (st_val (se_brw (se_call h_is_list hr (by omega) tk (sa_cons (se_var 1) sa_nil))))) (sw_or (st_cmp (od_ne hr) (se_brw (se_callB cd_len B.len (by decide +kernel) (sb_cons (se_brw (se_var 1)) sa_nil))) (se_brw (se_var 0))) (sw_or1 (st_not (st_val (se_brw (se_callB (cd_all rfl) B.all (by decide +kernel) (sb_cons (se_brw (se_lc rfl nd (own := [("segment", 2)]) (blkOk_by (N := ["many", "thing", "segment"]) (sc := defScope s_is_order_of) (by decide +kernel)) (si_seq (se_var 1)) (fun _ _ _ _ _ => (sg_name 2 nd)) (fun _ _ _ _ _ => sts_nil) (fun _ _ _ _ _ => (se_call h_is_number hr (by omega) takes0 (sa_cons (se_var 2) sa_nil))))) sa_nil))))))))) (sss_cons (ss_ret se_bl) (sss_never (Wk := []))) sss_nil) (sss_cons (ss_ret (se_cmp (od_eq hr) (se_brw (se_callB cd_sorted B.sorted (by decide +kernel) (sb_cons (se_brw (se_callTy cd_list B.list (by decide +kernel) (sb_cons (se_brw (se_var 1)) sa_nil))) sa_nil))) (se_brw (se_listRg1 rfl B.list B.range (se_brw (se_var 0)))))) (sss_never (Wk := []))))⟩
abbrev s_need_order : Stmt := top 32
theorem sc_need_order : FnScope ["many", "order"] ["many", "order"] (defScope s_need_order) := ⟨rfl, rfl, rfl, by decide +kernel, rfl, by decide +kernel, by decide +kernel⟩
def b_need_order : DenS := (dSeq (dIf (dNotT (dTr (dCall d_is_order_of (dCons (dV 0) (dCons (dV 1) dNil))))) (dSeq dNever dNever) dSkip) dSkip)
def d_need_order : DDen := dDef 2 .rep b_need_order
theorem ok_need_order {f : Addr} {fd : FuncData} (B : Bt mg) (F : Fun K "need_order" "need_order" s_need_order f fd) (hm : mg "need_order" = some (.ref f)) (hb : Binds K fd ["many", "order"] []) (h_is_order_of : FOk P w K mg base "is_order_of" 2 3 .rep d_is_order_of) :
    FOk P w K mg base "need_order" 2 4 .rep d_need_order := fok_of F hm hb sc_need_order rfl rfl fun cdv A outer s H E hr => by
  have nd := sc_need_order.nd; have tk := takes_of (X := cxOf (L2.CX P w) P w K mg base ["many", "order"] "need_order" (defScope s_need_order) f cdv A outer s H E) (E := E) rfl rfl rfl rfl; have hp := passes_of (X := cxOf (L2.CX P w) P w K mg base ["many", "order"] "need_order" (defScope s_need_order) f cdv A outer s H E) rfl
  exact ⟨[], (sss_cons (ss_if (st_not (st_val (se_brw (se_call h_is_order_of hr (by omega) tk (sa_cons (se_var 0) (sa_cons (se_var 1) sa_nil)))))) (sss_cons ss_never (sss_never (Wk := []))) sss_nil) sss_nil)⟩
abbrev s_laid_strip : Stmt := top 33
theorem sc_laid_strip : FnScope ["strip"] ["strip"] (defScope s_laid_strip) := ⟨rfl, rfl, rfl, by decide +kernel, rfl, by decide +kernel, by decide +kernel⟩
def b_laid_strip : DenS := (dSeq (dRet (dMake d_Laid_init__ (dCons (dMeth "Strip" "lengths" d_Strip_lengths (dV 0) dNil) (dCons (dMeth "Strip" "creases" d_Strip_creases (dV 0) dNil) (dCons (dC (.bl false)) dNil))))) dNever)
def d_laid_strip : DDen := dDef 1 .frs b_laid_strip
theorem ok_laid_strip {f : Addr} {fd : FuncData} (B : Bt mg) (F : Fun K "laid_strip" "laid_strip" s_laid_strip f fd) (hm : mg "laid_strip" = some (.ref f)) (hb : Binds K fd ["strip"] []) (h_Laid_init__ : IOk P w K mg base "Laid" 4 1 d_Laid_init__) (h_Strip_creases : MOk P w K mg base "Strip" "creases" 1 1 .frs d_Strip_creases) (h_Strip_lengths : MOk P w K mg base "Strip" "lengths" 1 1 .frs d_Strip_lengths) :
    FOk P w K mg base "laid_strip" 1 3 .frs d_laid_strip := fok_of F hm hb sc_laid_strip rfl rfl fun cdv A outer s H E hr => by
  have nd := sc_laid_strip.nd; have tk := takes_of (X := cxOf (L2.CX P w) P w K mg base ["strip"] "laid_strip" (defScope s_laid_strip) f cdv A outer s H E) (E := E) rfl rfl rfl rfl; have hp := passes_of (X := cxOf (L2.CX P w) P w K mg base ["strip"] "laid_strip" (defScope s_laid_strip) f cdv A outer s H E) rfl
  exact ⟨[], (sss_cons (ss_retF (se_make h_Laid_init__ hr (by omega) (sa_cons (se_rep (se_meth0 h_Strip_lengths hr (by omega) (se_var 0))) (sa_cons (se_rep (se_meth0 h_Strip_creases hr (by omega) (se_var 0))) (sa_cons se_bl sa_nil))))) (sss_never (Wk := [])))⟩
abbrev s_folding_fault : Stmt := top 34
theorem sc_folding_fault : FnScope ["strip", "order"] ["strip", "order"] (defScope s_folding_fault) := ⟨rfl, rfl, rfl, by decide +kernel, rfl, by decide +kernel, by decide +kernel⟩
def b_folding_fault : DenS := (dSeq (dExpr (dCall d_need_strip (dCons (dV 0) dNil))) (dSeq (dExpr (dCall d_need_order (dCons (dCB oLen (dCons (dMeth "Strip" "lengths" d_Strip_lengths (dV 0) dNil) dNil)) (dCons (dV 1) dNil)))) (dSeq (dRet (dCall d_order_fault (dCons (dCall d_laid_strip (dCons (dV 0) dNil)) (dCons (dV 1) dNil)))) dNever)))
def d_folding_fault : DDen := dDef 2 .rep b_folding_fault
theorem ok_folding_fault {f : Addr} {fd : FuncData} (B : Bt mg) (F : Fun K "folding_fault" "folding_fault" s_folding_fault f fd) (hm : mg "folding_fault" = some (.ref f)) (hb : Binds K fd ["strip", "order"] []) (h_need_strip : FOk P w K mg base "need_strip" 1 1 .rep d_need_strip) (h_need_order : FOk P w K mg base "need_order" 2 4 .rep d_need_order) (h_Strip_lengths : MOk P w K mg base "Strip" "lengths" 1 1 .frs d_Strip_lengths) (h_order_fault : FOk P w K mg base "order_fault" 2 6 .rep d_order_fault) (h_laid_strip : FOk P w K mg base "laid_strip" 1 3 .frs d_laid_strip) :
    FOk P w K mg base "folding_fault" 2 7 .rep d_folding_fault := fok_of F hm hb sc_folding_fault rfl rfl fun cdv A outer s H E hr => by
  have nd := sc_folding_fault.nd; have tk := takes_of (X := cxOf (L2.CX P w) P w K mg base ["strip", "order"] "folding_fault" (defScope s_folding_fault) f cdv A outer s H E) (E := E) rfl rfl rfl rfl; have hp := passes_of (X := cxOf (L2.CX P w) P w K mg base ["strip", "order"] "folding_fault" (defScope s_folding_fault) f cdv A outer s H E) rfl
  exact ⟨[], (sss_cons (ss_expr (se_call h_need_strip hr (by omega) tk (sa_cons (se_var 0) sa_nil))) (sss_cons (ss_expr (se_call h_need_order hr (by omega) tk (sa_cons (se_callB cd_len B.len (by decide +kernel) (sb_cons (se_brw (se_meth0 h_Strip_lengths hr (by omega) (se_var 0))) sa_nil)) (sa_cons (se_var 1) sa_nil)))) (sss_cons (ss_ret (se_call h_order_fault hr (by omega) tk (sa_cons (se_rep (se_call h_laid_strip hr (by omega) tk (sa_cons (se_var 0) sa_nil))) (sa_cons (se_var 1) sa_nil)))) (sss_never (Wk := [])))))⟩
abbrev s_is_folding : Stmt := top 35
theorem sc_is_folding : FnScope ["strip", "order"] ["strip", "order"] (defScope s_is_folding) := ⟨rfl, rfl, rfl, by decide +kernel, rfl, by decide +kernel, by decide +kernel⟩
def b_is_folding : DenS := (dSeq (dRet (dBin (bo pIs) (dCall d_folding_fault (dCons (dV 0) (dCons (dV 1) dNil))) (dC .non))) dNever)
def d_is_folding : DDen := dDef 2 .rep b_is_folding
theorem ok_is_folding {f : Addr} {fd : FuncData} (B : Bt mg) (F : Fun K "is_folding" "is_folding" s_is_folding f fd) (hm : mg "is_folding" = some (.ref f)) (hb : Binds K fd ["strip", "order"] []) (h_folding_fault : FOk P w K mg base "folding_fault" 2 7 .rep d_folding_fault) :
    FOk P w K mg base "is_folding" 2 8 .rep d_is_folding := fok_of F hm hb sc_is_folding rfl rfl fun cdv A outer s H E hr => by
  have nd := sc_is_folding.nd; have tk := takes_of (X := cxOf (L2.CX P w) P w K mg base ["strip", "order"] "is_folding" (defScope s_is_folding) f cdv A outer s H E) (E := E) rfl rfl rfl rfl; have hp := passes_of (X := cxOf (L2.CX P w) P w K mg base ["strip", "order"] "is_folding" (defScope s_is_folding) f cdv A outer s H E) rfl
  exact ⟨[], (sss_cons (ss_ret (se_cmp od_is (se_brw (se_call h_folding_fault hr (by omega) tk (sa_cons (se_var 0) (sa_cons (se_var 1) sa_nil)))) (se_brw se_non))) (sss_never (Wk := [])))⟩
abbrev s_pairs_over : Stmt := top 36
theorem sc_pairs_over : FnScope ["laid", "order", "found", "place", "segment", "other"] ["laid", "order"] (defScope s_pairs_over) := ⟨rfl, rfl, rfl, by decide +kernel, rfl, by decide +kernel, by decide +kernel⟩
def b_pairs_over : DenS := (dSeq (dSetW 2 (dLst dNil)) (dSeq (dFor (dEnum (dCons (dV 1) dNil)) (gdTup 2 (gdCons (gdName 3) (gdCons (gdName 4) gdNil))) (dSeq (dExt 2 (dComp (dIt (dSl pSl (dV 1) (dSome (dBin pPlus (dV 3) (dC (.int 1)))) dNo)) [5] (gdName 5) (dTr (dMeth "Laid" "have_common" d_Laid_have_common (dV 0) (dCons (dV 4) (dCons (dV 5) dNil)))) (dTup (dCons (dV 4) (dCons (dV 5) dNil))))) dSkip)) (dSeq (dRet (dCB oSort (dCons (dV 2) dNil))) dNever)))
def d_pairs_over : DDen := dDef 6 .frs b_pairs_over
theorem ok_pairs_over {f : Addr} {fd : FuncData} (B : Bt mg) (F : Fun K "pairs_over" "pairs_over" s_pairs_over f fd) (hm : mg "pairs_over" = some (.ref f)) (hb : Binds K fd ["laid", "order"] []) (h_Laid_have_common : MOk P w K mg base "Laid" "have_common" 3 2 .rep d_Laid_have_common) :
    FOk P w K mg base "pairs_over" 2 3 .frs d_pairs_over := fok_of F hm hb sc_pairs_over rfl rfl fun cdv A outer s H E hr => by
  have nd := sc_pairs_over.nd; have tk := takes_of (X := cxOf (L2.CX P w) P w K mg base ["laid", "order", "found", "place", "segment", "other"] "pairs_over" (defScope s_pairs_over) f cdv A outer s H E) (E := E) rfl rfl rfl rfl; have hp := passes_of (X := cxOf (L2.CX P w) P w K mg base ["laid", "order", "found", "place", "segment", "other"] "pairs_over" (defScope s_pairs_over) f cdv A outer s H E) rfl
  exact ⟨[], (sss_cons (ss_setW 2 nd (se_lst sa_nil)) (sss_cons (ss_for hp rfl (si_enum B.enumerate (sa_cons (se_var 1) sa_nil)) (sg_tup rfl (sgs_cons (sg_name 3 nd) (sgs_cons (sg_name 4 nd) sgs_nil))) (sss_cons (ss_extend 2 (se_rep (se_lc rfl nd (own := [("other", 5)]) (blkOk_by (N := ["laid", "order", "found", "place", "segment", "other"]) (sc := defScope s_pairs_over) (by decide +kernel)) (si_seq (se_rep (se_slice (se_brw (se_var 1)) (so_some (se_brw (se_op od_plus (se_brw (se_var 3)) (se_brw se_int)))) so_none))) (fun _ _ _ _ _ => (sg_name 5 nd)) (fun _ _ _ _ _ => (sts_one (st_val (se_brw (se_meth h_Laid_have_common hr (by omega) (se_var 0) (sa_cons (se_var 4) (sa_cons (se_var 5) sa_nil))))))) (fun _ _ _ _ _ => (se_tup (sa_cons (se_var 4) (sa_cons (se_var 5) sa_nil))))))) sss_nil)) (sss_cons (ss_retF (se_callB cd_sorted B.sorted (by decide +kernel) (sb_cons (sb_var 2) sa_nil))) (sss_never (Wk := [])))))⟩
abbrev s_same_folding : Stmt := top 37
theorem sc_same_folding : FnScope ["strip", "order", "other", "laid"] ["strip", "order", "other"] (defScope s_same_folding) := ⟨rfl, rfl, rfl, by decide +kernel, rfl, by decide +kernel, by decide +kernel⟩
def b_same_folding : DenS := (dSeq (dExpr (dCall d_need_strip (dCons (dV 0) dNil))) (dSeq (dExpr (dCall d_need_order (dCons (dCB oLen (dCons (dMeth "Strip" "lengths" d_Strip_lengths (dV 0) dNil) dNil)) (dCons (dV 1) dNil)))) (dSeq (dIf (dNotT (dTr (dCall d_is_order_of (dCons (dCB oLen (dCons (dMeth "Strip" "lengths" d_Strip_lengths (dV 0) dNil) dNil)) (dCons (dV 2) dNil))))) (dSeq dNever dNever) dSkip) (dSeq (dSet 3 (dCall d_laid_strip (dCons (dV 0) dNil))) (dSeq (dRet (dBin (bo pEqB) (dCall d_pairs_over (dCons (dV 3) (dCons (dV 1) dNil))) (dCall d_pairs_over (dCons (dV 3) (dCons (dV 2) dNil))))) dNever)))))
def d_same_folding : DDen := dDef 4 .rep b_same_folding
theorem ok_same_folding {f : Addr} {fd : FuncData} (B : Bt mg) (F : Fun K "same_folding" "same_folding" s_same_folding f fd) (hm : mg "same_folding" = some (.ref f)) (hb : Binds K fd ["strip", "order", "other"] []) (h_need_strip : FOk P w K mg base "need_strip" 1 1 .rep d_need_strip) (h_need_order : FOk P w K mg base "need_order" 2 4 .rep d_need_order) (h_Strip_lengths : MOk P w K mg base "Strip" "lengths" 1 1 .frs d_Strip_lengths) (h_is_order_of : FOk P w K mg base "is_order_of" 2 3 .rep d_is_order_of) (h_laid_strip : FOk P w K mg base "laid_strip" 1 3 .frs d_laid_strip) (h_pairs_over : FOk P w K mg base "pairs_over" 2 3 .frs d_pairs_over) :
    FOk P w K mg base "same_folding" 3 5 .rep d_same_folding := fok_of F hm hb sc_same_folding rfl rfl fun cdv A outer s H E hr => by
  have nd := sc_same_folding.nd; have tk := takes_of (X := cxOf (L2.CX P w) P w K mg base ["strip", "order", "other", "laid"] "same_folding" (defScope s_same_folding) f cdv A outer s H E) (E := E) rfl rfl rfl rfl; have hp := passes_of (X := cxOf (L2.CX P w) P w K mg base ["strip", "order", "other", "laid"] "same_folding" (defScope s_same_folding) f cdv A outer s H E) rfl
  exact ⟨[], (sss_cons (ss_expr (se_call h_need_strip hr (by omega) tk (sa_cons (se_var 0) sa_nil))) (sss_cons (ss_expr (se_call h_need_order hr (by omega) tk (sa_cons (se_callB cd_len B.len (by decide +kernel) (sb_cons (se_brw (se_meth0 h_Strip_lengths hr (by omega) (se_var 0))) sa_nil)) (sa_cons (se_var 1) sa_nil)))) (sss_cons (ss_if (st_not (st_val (se_brw (se_call h_is_order_of hr (by omega) tk (sa_cons (se_callB cd_len B.len (by decide +kernel) (sb_cons (se_brw (se_meth0 h_Strip_lengths hr (by omega) (se_var 0))) sa_nil)) (sa_cons (se_var 2) sa_nil)))))) (sss_cons ss_never (sss_never (Wk := []))) sss_nil) (sss_cons (ss_set 3 nd (se_rep (se_call h_laid_strip hr (by omega) tk (sa_cons (se_var 0) sa_nil)))) (sss_cons (ss_ret (se_cmp (od_eq hr) (se_brw (se_call h_pairs_over hr (by omega) tk (sa_cons (se_var 3) (sa_cons (se_var 1) sa_nil)))) (se_brw (se_call h_pairs_over hr (by omega) tk (sa_cons (se_var 3) (sa_cons (se_var 2) sa_nil)))))) (sss_never (Wk := [])))))))⟩
abbrev s_law_one : Stmt := top 41
theorem sc_law_one : FnScope ["state", "things"] ["state", "things"] (defScope s_law_one) := ⟨rfl, rfl, rfl, by decide +kernel, rfl, by decide +kernel, by decide +kernel⟩
def b_law_one : DenS := (dSeq (dRet (dIx (dV 1) (dCall d_law_pick (dCons (dV 0) (dCons (dCB oLen (dCons (dV 1) dNil)) dNil))))) dNever)
def d_law_one : DDen := dDef 2 .rep b_law_one
theorem ok_law_one {f : Addr} {fd : FuncData} (B : Bt mg) (F : Fun K "_law_one" "_law_one" s_law_one f fd) (hm : mg "_law_one" = some (.ref f)) (hb : Binds K fd ["state", "things"] []) (h_law_pick : FOk P w K mg base "_law_pick" 2 1 .rep dPick) :
    FOk P w K mg base "_law_one" 2 2 .rep d_law_one := fok_of F hm hb sc_law_one rfl rfl fun cdv A outer s H E hr => by
  have nd := sc_law_one.nd; have tk := takes_of (X := cxOf (L2.CX P w) P w K mg base ["state", "things"] "_law_one" (defScope s_law_one) f cdv A outer s H E) (E := E) rfl rfl rfl rfl; have hp := passes_of (X := cxOf (L2.CX P w) P w K mg base ["state", "things"] "_law_one" (defScope s_law_one) f cdv A outer s H E) rfl
  exact ⟨[], (sss_cons (ss_ret (se_ix hr (se_brw (se_var 1)) (se_brw (se_call h_law_pick hr (by omega) tk (sa_cons (se_var 0) (sa_cons (se_callB cd_len B.len (by decide +kernel) (sb_cons (se_brw (se_var 1)) sa_nil)) sa_nil)))))) (sss_never (Wk := [])))⟩
abbrev s_law_mixed : Stmt := top 42
theorem sc_law_mixed : FnScope ["state", "things", "left", "found", "k"] ["state", "things"] (defScope s_law_mixed) := ⟨rfl, rfl, rfl, by decide +kernel, rfl, by decide +kernel, by decide +kernel⟩
def b_law_mixed : DenS := (dSeq (dParW 2 3 (dCB oList (dCons (dV 1) dNil)) (dLst dNil)) (dSeq (dFor (dRng1 (dCons (dCB oLen (dCons (dV 2) dNil)) dNil)) (gdName 4) (dSeq (dAppPop 3 2 (dCall d_law_pick (dCons (dV 0) (dCons (dCB oLen (dCons (dV 2) dNil)) dNil)))) dSkip)) (dSeq (dRet (dV 3)) dNever)))
def d_law_mixed : DDen := dDef 5 .frs b_law_mixed
theorem ok_law_mixed {f : Addr} {fd : FuncData} (B : Bt mg) (F : Fun K "_law_mixed" "_law_mixed" s_law_mixed f fd) (hm : mg "_law_mixed" = some (.ref f)) (hb : Binds K fd ["state", "things"] []) (h_law_pick : FOk P w K mg base "_law_pick" 2 1 .rep dPick) :
    FOk P w K mg base "_law_mixed" 2 2 .frs d_law_mixed := fok_of F hm hb sc_law_mixed rfl rfl fun cdv A outer s H E hr => by
  have nd := sc_law_mixed.nd; have tk := takes_of (X := cxOf (L2.CX P w) P w K mg base ["state", "things", "left", "found", "k"] "_law_mixed" (defScope s_law_mixed) f cdv A outer s H E) (E := E) rfl rfl rfl rfl; have hp := passes_of (X := cxOf (L2.CX P w) P w K mg base ["state", "things", "left", "found", "k"] "_law_mixed" (defScope s_law_mixed) f cdv A outer s H E) rfl
  exact ⟨[], (sss_cons (ss_parW 2 3 rfl nd (se_callTy cd_list B.list (by decide +kernel) (sb_cons (se_brw (se_var 1)) sa_nil)) (se_lst sa_nil)) (sss_cons (ss_for hp rfl (si_range1 B.range (sb_cons (se_brw (se_callB cd_len B.len (by decide +kernel) (sb_cons (sb_var 2) sa_nil))) sa_nil)) (sg_name 4 nd) (sss_cons (ss_appPop 3 2 (se_brw (se_call h_law_pick hr (by omega) tk (sa_cons (se_var 0) (sa_cons (se_callB cd_len B.len (by decide +kernel) (sb_cons (sb_var 2) sa_nil)) sa_nil))))) sss_nil)) (sss_cons (ss_retW 3) (sss_never (Wk := [])))))⟩
abbrev s_law_same : Stmt := top 43
theorem sc_law_same : FnScope ["found", "due", "key", "mine", "theirs"] ["found", "due"] (defScope s_law_same) := ⟨rfl, rfl, rfl, by decide +kernel, rfl, by decide +kernel, by decide +kernel⟩
def b_law_same (rec_ : DDen) : DenS := (dSeq (dIf (dTr (dIsa2 "list" "tuple" (dV 1))) (dSeq (dIf (dOrT (dCmp pNeB (dIsa "list" (dV 0)) (dIsa "list" (dV 1))) (dCmp pNeB (dIsa "tuple" (dV 0)) (dIsa "tuple" (dV 1)))) (dSeq (dRet (dC (.bl false))) dNever) dSkip) (dSeq (dRet (dAnd (dBin (bo pEqB) (dCB oLen (dCons (dV 0) dNil)) (dCB oLen (dCons (dV 1) dNil))) (dCB oAll (dCons (dComp (dZip (dCons (dV 0) (dCons (dV 1) dNil))) [3, 4] (gdTup 2 (gdCons (gdName 3) (gdCons (gdName 4) gdNil))) dYes (dCall rec_ (dCons (dV 3) (dCons (dV 4) dNil)))) dNil)))) dNever)) dSkip) (dSeq (dIf (dTr (dIsa "dict" (dV 1))) (dSeq (dIf (dOrT (dNotT (dTr (dIsa "dict" (dV 0)))) (dNotT (dTr (dCall rec_ (dCons (dCB oList (dCons (dV 0) dNil)) (dCons (dCB oList (dCons (dV 1) dNil)) dNil)))))) (dSeq (dRet (dC (.bl false))) dNever) dSkip) (dSeq (dRet (dCB oAll (dCons (dComp (dIt (dV 1)) [2] (gdName 2) dYes (dCall rec_ (dCons (dIx (dV 0) (dV 2)) (dCons (dIx (dV 1) (dV 2)) dNil)))) dNil))) dNever)) dSkip) (dSeq (dIf (dCmp pIs (dV 1) (dC .non)) (dSeq (dRet (dBin (bo pIs) (dV 0) (dC .non))) dNever) dSkip) (dSeq (dIf (dTr (dIsa "bool" (dV 1))) (dSeq (dRet (dAnd (dIsa "bool" (dV 0)) (dBin (bo pEqB) (dV 0) (dV 1)))) dNever) dSkip) (dSeq (dIf (dTr (dIsa "int" (dV 1))) (dSeq (dRet (dAnd (dIsa "int" (dV 0)) (dAnd (dNot (dIsa "bool" (dV 0))) (dBin (bo pEqB) (dV 0) (dV 1))))) dNever) dSkip) (dSeq (dRet (dAnd (dIsa "str" (dV 0)) (dBin (bo pEqB) (dV 0) (dV 1)))) dNever))))))
def d_law_same_ : Nat → DDen
  | 0 => fun _ _ => .stuck
  | n + 1 => dDef 5 .rep (b_law_same (d_law_same_ n))
abbrev d_law_same : DDen := d_law_same_ 20
theorem okr_law_same {f : Addr} {fd : FuncData} (B : Bt mg) (F : Fun K "_law_same" "_law_same" s_law_same f fd) (hm : mg "_law_same" = some (.ref f)) (hb : Binds K fd ["found", "due"] [])  : (n : Nat) →
    FOk P w K mg base "_law_same" 2 (1 + n) .rep (d_law_same_ n)
  | 0 => fok_zero hm F.kp hb rfl
  | n + 1 => fok_of (k := 1 + n) F hm hb sc_law_same rfl rfl fun cdv A outer s H E hr => by
    have ih := okr_law_same B F hm hb n
    have nd := sc_law_same.nd; have tk := takes_of (X := cxOf (L2.CX P w) P w K mg base ["found", "due", "key", "mine", "theirs"] "_law_same" (defScope s_law_same) f cdv A outer s H E) (E := E) rfl rfl rfl rfl; have hp := passes_of (X := cxOf (L2.CX P w) P w K mg base ["found", "due", "key", "mine", "theirs"] "_law_same" (defScope s_law_same) f cdv A outer s H E) rfl
    exact ⟨[], (sss_cons (ss_if (st_val (se_brw (se_isa2 (se_brw (se_var 1)) B.isinstance B.list (by decide +kernel) B.tuple (by decide +kernel)))) (sss_cons (ss_if (sw_st (sw_or (st_cmp (od_ne hr) (se_brw (se_isa (se_brw (se_var 0)) B.isinstance B.list (by decide +kernel))) (se_brw (se_isa (se_brw (se_var 1)) B.isinstance B.list (by decide +kernel)))) (sw_or1 (st_cmp (od_ne hr) (se_brw (se_isa (se_brw (se_var 0)) B.isinstance B.tuple (by decide +kernel))) (se_brw (se_isa (se_brw (se_var 1)) B.isinstance B.tuple (by decide +kernel))))))) (sss_cons (ss_ret se_bl) (sss_never (Wk := []))) sss_nil) (sss_cons (ss_ret (se_and (se_brw (se_cmp (od_eq hr) (se_brw (se_callB cd_len B.len (by decide +kernel) (sb_cons (se_brw (se_var 0)) sa_nil))) (se_brw (se_callB cd_len B.len (by decide +kernel) (sb_cons (se_brw (se_var 1)) sa_nil))))) (se_one (se_callB (cd_all rfl) B.all (by decide +kernel) (sb_cons (se_brw (se_lc rfl nd (own := [("mine", 3), ("theirs", 4)]) (blkOk_by (N := ["found", "due", "key", "mine", "theirs"]) (sc := defScope s_law_same) (by decide +kernel)) (si_zip B.zip (sa_cons (se_var 0) (sa_cons (se_var 1) sa_nil))) (fun _ _ _ _ _ => (sg_tup rfl (sgs_cons (sg_name 3 nd) (sgs_cons (sg_name 4 nd) sgs_nil)))) (fun _ _ _ _ _ => sts_nil) (fun _ _ _ _ _ => (se_call ih hr (by omega) takes0 (sa_cons (se_var 3) (sa_cons (se_var 4) sa_nil)))))) sa_nil))))) (sss_never (Wk := [])))) sss_nil) (sss_cons (ss_if (st_val (se_brw (se_isa (se_brw (se_var 1)) B.isinstance B.dict (by decide +kernel)))) (sss_cons (ss_if (sw_st (sw_or (st_not (st_val (se_brw (se_isa (se_brw (se_var 0)) B.isinstance B.dict (by decide +kernel))))) (sw_or1 (st_not (st_val (se_brw (se_call ih hr (by omega) tk (sa_cons (se_rep (se_callTy cd_list B.list (by decide +kernel) (sb_cons (se_brw (se_var 0)) sa_nil))) (sa_cons (se_rep (se_callTy cd_list B.list (by decide +kernel) (sb_cons (se_brw (se_var 1)) sa_nil))) sa_nil))))))))) (sss_cons (ss_ret se_bl) (sss_never (Wk := []))) sss_nil) (sss_cons (ss_ret (se_callB (cd_all rfl) B.all (by decide +kernel) (sb_cons (se_brw (se_lc rfl nd (own := [("key", 2)]) (blkOk_by (N := ["found", "due", "key", "mine", "theirs"]) (sc := defScope s_law_same) (by decide +kernel)) (si_seq (se_var 1)) (fun _ _ _ _ _ => (sg_name 2 nd)) (fun _ _ _ _ _ => sts_nil) (fun _ _ _ _ _ => (se_call ih hr (by omega) takes0 (sa_cons (se_ix hr (se_brw (se_var 0)) (se_brw (se_var 2))) (sa_cons (se_ix hr (se_brw (se_var 1)) (se_brw (se_var 2))) sa_nil)))))) sa_nil))) (sss_never (Wk := [])))) sss_nil) (sss_cons (ss_if (st_cmp od_is (se_brw (se_var 1)) (se_brw se_non)) (sss_cons (ss_ret (se_cmp od_is (se_brw (se_var 0)) (se_brw se_non))) (sss_never (Wk := []))) sss_nil) (sss_cons (ss_if (st_val (se_brw (se_isa (se_brw (se_var 1)) B.isinstance B.bool (by decide +kernel)))) (sss_cons (ss_ret (se_and (se_brw (se_isa (se_brw (se_var 0)) B.isinstance B.bool (by decide +kernel))) (se_one (se_cmp (od_eq hr) (se_brw (se_var 0)) (se_brw (se_var 1)))))) (sss_never (Wk := []))) sss_nil) (sss_cons (ss_if (st_val (se_brw (se_isa (se_brw (se_var 1)) B.isinstance B.int (by decide +kernel)))) (sss_cons (ss_ret (se_and (se_brw (se_isa (se_brw (se_var 0)) B.isinstance B.int (by decide +kernel))) (se_and (se_brw (se_not (se_brw (se_isa (se_brw (se_var 0)) B.isinstance B.bool (by decide +kernel))))) (se_one (se_cmp (od_eq hr) (se_brw (se_var 0)) (se_brw (se_var 1))))))) (sss_never (Wk := []))) sss_nil) (sss_cons (ss_ret (se_and (se_brw (se_isa (se_brw (se_var 0)) B.isinstance B.str (by decide +kernel))) (se_one (se_cmp (od_eq hr) (se_brw (se_var 0)) (se_brw (se_var 1)))))) (sss_never (Wk := []))))))))⟩
theorem ok_law_same {f : Addr} {fd : FuncData} (B : Bt mg) (F : Fun K "_law_same" "_law_same" s_law_same f fd) (hm : mg "_law_same" = some (.ref f)) (hb : Binds K fd ["found", "due"] [])  :
    FOk P w K mg base "_law_same" 2 21 .rep d_law_same := okr_law_same B F hm hb 20
abbrev s_law_orders : Stmt := top 44
theorem sc_law_orders : FnScope ["many", "found", "segment", "longer", "order", "place"] ["many"] (defScope s_law_orders) := ⟨rfl, rfl, rfl, by decide +kernel, rfl, by decide +kernel, by decide +kernel⟩
def b_law_orders : DenS := (dSeq (dSet 1 (dLst (dCons (dLst dNil) dNil))) (dSeq (dFor (dRng1 (dCons (dV 0) dNil)) (gdName 2) (dSeq (dSetW 3 (dLst dNil)) (dSeq (dFor (dIt (dV 1)) (gdName 4) (dSeq (dExt 3 (dComp (dRng1 (dCons (dBin pPlus (dCB oLen (dCons (dV 4) dNil)) (dC (.int 1))) dNil)) [5] (gdName 5) dYes (dBin pPlus (dBin pPlus (dSl pSl (dV 4) dNo (dSome (dV 5))) (dLst (dCons (dV 2) dNil))) (dSl pSl (dV 4) (dSome (dV 5)) dNo)))) dSkip)) (dSeq (dSet 1 (dV 3)) dSkip)))) (dSeq (dRet (dV 1)) dNever)))
def d_law_orders : DDen := dDef 6 .rep b_law_orders
theorem ok_law_orders {f : Addr} {fd : FuncData} (B : Bt mg) (F : Fun K "_law_orders" "_law_orders" s_law_orders f fd) (hm : mg "_law_orders" = some (.ref f)) (hb : Binds K fd ["many"] [])  :
    FOk P w K mg base "_law_orders" 1 1 .rep d_law_orders := fok_of F hm hb sc_law_orders rfl rfl fun cdv A outer s H E hr => by
  have nd := sc_law_orders.nd; have tk := takes_of (X := cxOf (L2.CX P w) P w K mg base ["many", "found", "segment", "longer", "order", "place"] "_law_orders" (defScope s_law_orders) f cdv A outer s H E) (E := E) rfl rfl rfl rfl; have hp := passes_of (X := cxOf (L2.CX P w) P w K mg base ["many", "found", "segment", "longer", "order", "place"] "_law_orders" (defScope s_law_orders) f cdv A outer s H E) rfl
  exact ⟨[], (sss_cons (ss_set 1 nd (se_rep (se_lst (sa_cons (se_rep (se_lst sa_nil)) sa_nil)))) (sss_cons (ss_for hp rfl (si_range1 B.range (sb_cons (se_brw (se_var 0)) sa_nil)) (sg_name 2 nd) (sss_cons (ss_setW 3 nd (se_lst sa_nil)) (sss_cons (ss_for hp rfl (si_seq (se_var 1)) (sg_name 4 nd) (sss_cons (ss_extend 3 (se_rep (se_lc rfl nd (own := [("place", 5)]) (blkOk_by (N := ["many", "found", "segment", "longer", "order", "place"]) (sc := defScope s_law_orders) (by decide +kernel)) (si_range1 B.range (sb_cons (se_brw (se_op od_plus (se_brw (se_callB cd_len B.len (by decide +kernel) (sb_cons (se_brw (se_var 4)) sa_nil))) (se_brw se_int))) sa_nil)) (fun _ _ _ _ _ => (sg_name 5 nd)) (fun _ _ _ _ _ => sts_nil) (fun _ _ _ _ _ => (se_op od_plus (se_brw (se_op od_plus (se_brw (se_slice (se_brw (se_var 4)) so_none (so_some (se_brw (se_var 5))))) (se_brw (se_lst (sa_cons (se_var 2) sa_nil))))) (se_brw (se_slice (se_brw (se_var 4)) (so_some (se_brw (se_var 5))) so_none))))))) sss_nil)) (sss_cons (ss_drop (fun i => i != 3) (ss_set 1 nd (se_var 3))) sss_nil)))) (sss_cons (ss_ret (se_var 1)) (sss_never (Wk := [])))))⟩
abbrev s_law_start : Stmt := top 39
theorem sc_law_start : FnScope ["script"] ["script"] (defScope s_law_start) := ⟨rfl, rfl, rfl, by decide +kernel, rfl, by decide +kernel, by decide +kernel⟩
theorem ok_law_start {f : Addr} {fd : FuncData} (B : Bt mg) (F : Fun K "_law_start" "_law_start" s_law_start f fd) (hm : mg "_law_start" = some (.ref f)) (hb : Binds K fd ["script"] []) : StOk P w K mg base := by
  refine ⟨f, fd, hm, F.kp, hb, F.okX sc_law_start (fun vs H Q E h => by obtain ⟨a, ns, rfl, _⟩ := h; rfl) fun cdv A outer s H vs Q E hr hh => ?_⟩
  obtain ⟨a, ns, rfl, hs, hq⟩ := hh
  exact ⟨_, pss_one (ps_ret (pe_lst (pa_cons (pe_callTy call_list_of (by rfl) B.list (by decide +kernel) (pa_cons (pv 0) pa_nil)) (pa_cons pe_int (pa_cons pe_int (pa_cons pe_int pa_nil)))))), start_read rfl hs hq⟩
abbrev s_law : Stmt := top 45
theorem sc_law : FnScope ["script", "state", "many", "strip", "found", "order", "back", "other", "one"] ["script"] (defScope s_law) := ⟨rfl, rfl, rfl, by decide +kernel, rfl, by decide +kernel, by decide +kernel⟩
def b_law : DenS := (dSeq (dSet 2 (dBin pPlus (dC (.int 1)) (dCall d_law_pick (dCons (dV 1) (dCons (dC (.int 6)) dNil))))) (dSeq (dIf (dAndT (dCmp pEqB (dV 2) (dC (.int 6))) (dCmp pGt (dCall d_law_pick (dCons (dV 1) (dCons (dC (.int 3)) dNil))) (dC (.int 0)))) (dSeq (dSet 2 (dC (.int 4))) dSkip) dSkip) (dSeq (dSet 3 (dMake d_Strip_init__ (dCons (dBin pTimes (dLst (dCons (dBin pPlus (dC (.int 1)) (dCall d_law_pick (dCons (dV 1) (dCons (dC (.int 9)) dNil)))) dNil)) (dV 2)) (dCons (dBin pTimes (dLst (dCons (dC (.str "?")) dNil)) (dBin pSub (dV 2) (dC (.int 1)))) dNil)))) (dSeq (dSet 4 (dComp (dIt (dCall d_law_orders (dCons (dV 2) dNil))) [5] (gdName 5) (dTr (dCall d_is_folding (dCons (dV 3) (dCons (dCB oList (dCons (dV 5) dNil)) dNil)))) (dV 5))) (dSeq (dIf (dCmp pNeB (dCB oLen (dCons (dV 4) dNil)) (dIx (dLst (dCons (dC (.int 1)) (dCons (dC (.int 2)) (dCons (dC (.int 6)) (dCons (dC (.int 16)) (dCons (dC (.int 50)) (dCons (dC (.int 144)) dNil))))))) (dBin pSub (dV 2) (dC (.int 1))))) (dSeq (dRet (dC (.bl false))) dNever) dSkip) (dSeq (dFor (dIt (dSl pSl (dCall d_law_mixed (dCons (dV 1) (dCons (dV 4) dNil))) dNo (dSome (dC (.int 20))))) (gdName 5) (dSeq (dSet 6 (dComp (dIt (dV 5)) [8] (gdName 8) dYes (dBin pSub (dBin pSub (dV 2) (dC (.int 1))) (dV 8)))) (dSeq (dIf (dOrT (dCmp pIsnt (dCall d_is_folding (dCons (dV 3) (dCons (dRev (dV 5)) dNil))) (dC (.bl true))) (dCmp pIsnt (dCall d_is_folding (dCons (dV 3) (dCons (dV 6) dNil))) (dC (.bl true)))) (dSeq (dRet (dC (.bl false))) dNever) dSkip) (dSeq (dSet 7 (dCall d_law_one (dCons (dV 1) (dCons (dV 4) dNil)))) (dSeq (dIf (dNotT (dTr (dCall d_law_same (dCons (dCall d_same_folding (dCons (dV 3) (dCons (dCB oList (dCons (dV 5) dNil)) (dCons (dCB oList (dCons (dV 7) dNil)) dNil)))) (dCons (dBin (bo pEqB) (dV 5) (dV 7)) dNil))))) (dSeq (dRet (dC (.bl false))) dNever) dSkip) dSkip))))) (dSeq (dRet (dC (.bl true))) dNever)))))))
theorem ok_law {f : Addr} {fd : FuncData} (B : Bt mg) (F : Fun K "law" "law" s_law f fd) (hS : StOk P w K mg base) (h_law_pick : FOk P w K mg base "_law_pick" 2 1 .rep dPick) (h_Strip_init__ : IOk P w K mg base "Strip" 3 4 d_Strip_init__) (h_law_orders : FOk P w K mg base "_law_orders" 1 1 .rep d_law_orders) (h_is_folding : FOk P w K mg base "is_folding" 2 8 .rep d_is_folding) (h_law_one : FOk P w K mg base "_law_one" 2 2 .rep d_law_one) (h_law_same : FOk P w K mg base "_law_same" 2 21 .rep d_law_same) (h_same_folding : FOk P w K mg base "same_folding" 3 5 .rep d_same_folding) (h_law_mixed : FOk P w K mg base "_law_mixed" 2 2 .frs d_law_mixed)
    (hlaw : ∀ ns : List Int, ns.length ≤ 63 → ∃ g2, b_law (lawP 9) ⟨ns, 0, 0, 29⟩ = .ret (.bl true) g2) : FnOk P w K mg base (L2.CX P w) 22 f fd ["script"] (spLaw 63 K) := by
  refine F.okX (k := 21) sc_law (fun vs H Q E h => by obtain ⟨a, ns, rfl, _⟩ := h; rfl) fun cdv A outer s H vs Q E hr hh => ?_
  obtain ⟨a, ns, rfl, hl, hs, hq⟩ := hh
  obtain ⟨g2, hg2⟩ := hlaw ns hl
  obtain ⟨fS, fdS, hmS, hkS, hbS, FS⟩ := hS.ex
  have nd := sc_law.nd; have tk := takes_of (X := cxOf (L2.CX P w) P w K mg base ["script", "state", "many", "strip", "found", "order", "back", "other", "one"] "law" (defScope s_law) f cdv A outer s H E) (E := E) rfl rfl rfl rfl; have hp := passes_of (X := cxOf (L2.CX P w) P w K mg base ["script", "state", "many", "strip", "found", "order", "back", "other", "one"] "law" (defScope s_law) f cdv A outer s H E) rfl
  obtain ⟨t, ht, hh⟩ := law_go (X := cxOf (L2.CX P w) P w K mg base ["script", "state", "many", "strip", "found", "order", "back", "other", "one"] "law" (defScope s_law) f cdv A outer s H E) (E := E) (rest := (defBody s_law).drop 1) (N := ["script", "state", "many", "strip", "found", "order", "back", "other", "one"]) (n := 9) (a := a) (H := H) (Wk' := []) (D := { nx := fun _ H2 => Q .non H2, rt := Q }) rfl ((sss_cons (ss_set 2 nd (se_op od_plus (se_brw se_int) (se_brw (se_call h_law_pick hr (by omega) tk (sa_cons (se_var 1) (sa_cons se_int sa_nil)))))) (sss_cons (ss_if (sw_st (sw_and (st_cmp (od_eq hr) (se_brw (se_var 2)) (se_brw se_int)) (sw_and1 (st_cmp od_gt (se_brw (se_call h_law_pick hr (by omega) tk (sa_cons (se_var 1) (sa_cons se_int sa_nil)))) (se_brw se_int))))) (sss_cons (ss_set 2 nd se_int) sss_nil) sss_nil) (sss_cons (ss_set 3 nd (se_rep (se_make h_Strip_init__ hr (by omega) (sa_cons (se_op od_times (se_brw (se_lst (sa_cons (se_op od_plus (se_brw se_int) (se_brw (se_call h_law_pick hr (by omega) tk (sa_cons (se_var 1) (sa_cons se_int sa_nil))))) sa_nil))) (se_brw (se_var 2))) (sa_cons (se_op od_times (se_brw (se_lst (sa_cons se_str sa_nil))) (se_brw (se_op od_sub (se_brw (se_var 2)) (se_brw se_int)))) sa_nil))))) (sss_cons (ss_setLc 4 rfl nd (own := [("order", 5)]) (blkOk_by (N := ["script", "state", "many", "strip", "found", "order", "back", "other", "one"]) (sc := defScope s_law) (by decide +kernel)) (si_seq (se_call h_law_orders hr (by omega) tk (sa_cons (se_var 2) sa_nil))) (fun _ _ _ _ _ => (sg_name 5 nd)) (fun _ _ _ _ _ => (sts_one (st_val (se_brw (se_call h_is_folding hr (by omega) takes0 (sa_cons (se_var 3) (sa_cons (se_rep (se_callTy cd_list B.list (by decide +kernel) (sb_cons (se_brw (se_var 5)) sa_nil))) sa_nil))))))) (fun _ _ _ _ _ => (se_var 5)) (sw_true rfl rfl rfl (by decide +kernel))) (sss_cons (ss_if (st_cmp (od_ne hr) (se_brw (se_callB cd_len B.len (by decide +kernel) (sb_cons (se_brw (se_var 4)) sa_nil))) (se_brw (se_ix hr (se_brw (se_lst (sa_cons se_int (sa_cons se_int (sa_cons se_int (sa_cons se_int (sa_cons se_int (sa_cons se_int sa_nil)))))))) (se_brw (se_op od_sub (se_brw (se_var 2)) (se_brw se_int)))))) (sss_cons (ss_ret se_bl) (sss_never (Wk := []))) sss_nil) (sss_cons (ss_for hp rfl (si_seq (se_rep (se_slice (se_brw (se_call h_law_mixed hr (by omega) tk (sa_cons (se_var 1) (sa_cons (se_var 4) sa_nil)))) so_none (so_some (se_brw se_int))))) (sg_name 5 nd) (sss_cons (ss_setLc 6 rfl nd (own := [("one", 8)]) (blkOk_by (N := ["script", "state", "many", "strip", "found", "order", "back", "other", "one"]) (sc := defScope s_law) (by decide +kernel)) (si_seq (se_var 5)) (fun _ _ _ _ _ => (sg_name 8 nd)) (fun _ _ _ _ _ => sts_nil) (fun _ _ _ _ _ => (se_op od_sub (se_brw (se_op od_sub (se_brw (se_var 2)) (se_brw se_int))) (se_brw (se_var 8)))) (sw_true rfl rfl rfl (by decide +kernel))) (sss_cons (ss_if (sw_st (sw_or (st_cmp od_isnt (se_brw (se_call h_is_folding hr (by omega) tk (sa_cons (se_var 3) (sa_cons (se_rep (se_rev (se_brw (se_var 5)))) sa_nil)))) (se_brw se_bl)) (sw_or1 (st_cmp od_isnt (se_brw (se_call h_is_folding hr (by omega) tk (sa_cons (se_var 3) (sa_cons (se_var 6) sa_nil)))) (se_brw se_bl))))) (sss_cons (ss_ret se_bl) (sss_never (Wk := []))) sss_nil) (sss_cons (ss_set 7 nd (se_call h_law_one hr (by omega) tk (sa_cons (se_var 1) (sa_cons (se_var 4) sa_nil)))) (sss_cons (ss_if (st_not (st_val (se_brw (se_call h_law_same hr (by omega) tk (sa_cons (se_call h_same_folding hr (by omega) tk (sa_cons (se_var 3) (sa_cons (se_rep (se_callTy cd_list B.list (by decide +kernel) (sb_cons (se_brw (se_var 5)) sa_nil))) (sa_cons (se_rep (se_callTy cd_list B.list (by decide +kernel) (sb_cons (se_brw (se_var 7)) sa_nil))) sa_nil)))) (sa_cons (se_cmp (od_eq hr) (se_brw (se_var 5)) (se_brw (se_var 7))) sa_nil)))))) (sss_cons (ss_ret se_bl) (sss_never (Wk := []))) sss_nil) sss_nil))))) (sss_cons (ss_ret se_bl) (sss_never (Wk := [])))))))))) rfl (by decide) hl hg2 hq
  refine ⟨_, pss_cons (ps_set (i := 1) nd rfl (by first | exact Or.inl rfl | exact Or.inr rfl) (pe_callS FS (hr.mono (by omega)) (by rfl) hmS hkS hbS (fun σ => passAt tk σ) (pa_cons (pv 0) pa_nil))) ht, ?_⟩
  exact ⟨_, rfl, _, _, rfl, hs, hh⟩
end
end Tr

namespace Tr
open PySem PySem.Spec PyProof.Rows L2
section
variable {σ : Sl} {g : Rg}
/-! ### the denotations as equations -/
@[simp] theorem noX_ok {α : Type} (a : α) (g : Rg) : noX (Res.ok a g) = .ok a g := rfl
@[simp] theorem x_dDef (n : Nat) (md : Md) (d : DenS) (ps : List PV) : dDef n md d ps g = toRes md (d (startP n ps) g) := Eq.trans rfl rfl
@[simp] theorem x_toRes_ret (md : Md) (p : PV) : toRes md (.ret p g) = .ok p g := by cases md <;> rfl
@[simp] theorem x_toRes_next (σ : Sl) : toRes .rep (.next σ g) = .ok .non g := Eq.trans rfl rfl
@[simp] theorem x_toRes_exc (md : Md) (k : Str) (ns : List Str) (ps : List PV) : toRes md (.exc k ns ps g) = .exc k ns ps g := by cases md <;> rfl
@[simp] theorem x_startP (n : Nat) (ps : List PV) : startP n ps = ps.map some ++ List.replicate (n - ps.length) none := Eq.trans rfl rfl
@[simp] theorem x_dSeq (a b : DenS) : dSeq a b σ g = match a σ g with | .next σ' g' => b σ' g' | r => r := Eq.trans rfl rfl
@[simp] theorem x_dSkip : dSkip σ g = .next σ g := Eq.trans rfl rfl
@[simp] theorem x_dRet (d : Den) : dRet d σ g = (d σ g).bindS fun p g => .ret p g := Eq.trans rfl rfl
@[simp] theorem x_dRetN : dRetN σ g = .ret .non g := Eq.trans rfl rfl
@[simp] theorem x_dExpr (d : Den) : dExpr d σ g = (d σ g).bindS fun _ g => .next σ g := Eq.trans rfl rfl
@[simp] theorem x_dIf (c : DenT) (a b : DenS) : dIf c a b σ g = (c σ g).bindS fun t g => if t = true then a σ g else b σ g := Eq.trans rfl rfl
@[simp] theorem x_dSet (i : Nat) (d : Den) : dSet i d σ g = (d σ g).bindS fun p g => .next (σ.set i (some p)) g := Eq.trans rfl rfl
@[simp] theorem x_dSetW (i : Nat) (d : Den) : dSetW i d σ g = (d σ g).bindS fun p g => if i < σ.length then .next (σ.set i (some p)) g else .stuck := Eq.trans rfl rfl
@[simp] theorem x_dPar (i j : Nat) (da db : Den) : dPar i j da db σ g = (da σ g).bindS fun p g => (db σ g).bindS fun q g => .next ((σ.set i (some p)).set j (some q)) g := Eq.trans rfl rfl
@[simp] theorem x_dParW (i j : Nat) (da db : Den) : dParW i j da db σ g = if i < σ.length ∧ j < σ.length then (da σ g).bindS fun p g => (db σ g).bindS fun q g => .next ((σ.set i (some p)).set j (some q)) g else .stuck := Eq.trans rfl rfl
@[simp] theorem x_dAsg (gd : DenG) (d : Den) : dAsg gd d σ g = (d σ g).bindS fun p g => match gd p σ with | some σ' => .next σ' g | none => .stuck := Eq.trans rfl rfl
@[simp] theorem x_dFor (di : DenL) (gd : DenG) (b : DenS) : dFor di gd b σ g = (di σ g).bindS fun items g => loopS gd b items σ g := Eq.trans rfl rfl
@[simp] theorem x_dC (p : PV) : dC p σ g = .ok p g := Eq.trans rfl rfl
@[simp] theorem x_dV (i : Nat) : dV i σ g = match σ[i]? with | some (some p) => .ok p g | _ => .stuck := Eq.trans rfl rfl
@[simp] theorem x_dBin (o : PV → PV → Option PV) (da db : Den) : dBin o da db σ g = (da σ g).bind fun p g => (db σ g).bind fun q g => match o p q with | some w => .ok w g | none => .stuck := Eq.trans rfl rfl
@[simp] theorem x_bo (o : PV → PV → Option Bool) (p q : PV) : bo o p q = (o p q).map PV.bl := Eq.trans rfl rfl
@[simp] theorem x_dTr (d : Den) : dTr d σ g = (d σ g).bind fun p g => match truth p with | some b => .ok b g | none => .stuck := Eq.trans rfl rfl
@[simp] theorem x_dCmp (o : PV → PV → Option Bool) (da db : Den) : dCmp o da db σ g = (da σ g).bind fun p g => (db σ g).bind fun q g => match o p q with | some w => .ok w g | none => .stuck := Eq.trans rfl rfl
@[simp] theorem x_dChT (o o' : PV → PV → Option Bool) (da db dc : Den) : dChT o o' da db dc σ g = (da σ g).bind fun p g => (db σ g).bind fun q g => match o p q with
  | some true => (dc σ g).bind fun r g => match o' q r with | some w => .ok w g | none => .stuck
  | some false => .ok false g
  | none => .stuck := Eq.trans rfl rfl
@[simp] theorem x_dOfT (d : DenT) : dOfT d σ g = (d σ g).bind fun b g => .ok (.bl b) g := Eq.trans rfl rfl
@[simp] theorem x_dAndT (a b : DenT) : dAndT a b σ g = (a σ g).bind fun c g => if c = true then b σ g else .ok false g := Eq.trans rfl rfl
@[simp] theorem x_dOrT (a b : DenT) : dOrT a b σ g = (a σ g).bind fun c g => if c = true then .ok true g else b σ g := Eq.trans rfl rfl
@[simp] theorem x_dNotT (a : DenT) : dNotT a σ g = (a σ g).bind fun c g => .ok (!c) g := Eq.trans rfl rfl
@[simp] theorem x_dYes : dYes σ g = .ok true g := Eq.trans rfl rfl
def andR (p : PV) (k : Res PV) (g : Rg) : Res PV := match p with | .bl true => k | .bl false => .ok (.bl false) g | _ => .stuck
def orR (p : PV) (k : Res PV) (g : Rg) : Res PV := match p with | .bl false => k | .bl true => .ok (.bl true) g | _ => .stuck
@[simp] theorem andR_bl (b : Bool) (k : Res PV) : andR (.bl b) k g = if b = true then k else .ok (.bl false) g := by cases b <;> rfl
@[simp] theorem orR_bl (b : Bool) (k : Res PV) : orR (.bl b) k g = if b = true then .ok (.bl true) g else k := by cases b <;> rfl
@[simp] theorem x_dAnd (da db : Den) : dAnd da db σ g = (da σ g).bind fun p g => andR p (db σ g) g := Eq.trans rfl rfl
@[simp] theorem x_dOr (da db : Den) : dOr da db σ g = (da σ g).bind fun p g => orR p (db σ g) g := Eq.trans rfl rfl
@[simp] theorem x_dNot (da : Den) : dNot da σ g = (da σ g).bind fun p g => match p with | .bl b => .ok (.bl (!b)) g | _ => .stuck := Eq.trans rfl rfl
@[simp] theorem x_dIfE (c : DenT) (a b : Den) : dIfE c a b σ g = (c σ g).bind fun t g => if t = true then a σ g else b σ g := Eq.trans rfl rfl
@[simp] theorem x_dNeg (da : Den) : dNeg da σ g = (da σ g).bind fun p g => match p with | .int i => .ok (.int (-i)) g | _ => .stuck := Eq.trans rfl rfl
@[simp] theorem x_dNil : dNil σ g = .ok [] g := Eq.trans rfl rfl
@[simp] theorem x_dCons (d : Den) (ds : DenL) : dCons d ds σ g = (d σ g).bind fun p g => (ds σ g).bind fun ps g => .ok (p :: ps) g := Eq.trans rfl rfl
@[simp] theorem x_dLst (ds : DenL) : dLst ds σ g = (ds σ g).bind fun ps g => .ok (.lst ps) g := Eq.trans rfl rfl
@[simp] theorem x_dTup (ds : DenL) : dTup ds σ g = (ds σ g).bind fun ps g => .ok (.tup ps) g := Eq.trans rfl rfl
@[simp] theorem x_dIx (da db : Den) : dIx da db σ g = (da σ g).bind fun p g => (db σ g).bind fun q g => match pIx p q with | some w => .ok w g | none => .stuck := Eq.trans rfl rfl
@[simp] theorem x_dNo : dNo σ g = .ok none g := Eq.trans rfl rfl
@[simp] theorem x_dSome (d : Den) : dSome d σ g = (d σ g).bind fun p g => match p with | .int i => .ok (some i) g | _ => .stuck := Eq.trans rfl rfl
@[simp] theorem x_dSl (f : PV → Option Int → Option Int → Option PV) (d : Den) (lo hi : DenO) : dSl f d lo hi σ g = (d σ g).bind fun p g => (lo σ g).bind fun a g => (hi σ g).bind fun b g => match f p a b with | some w => .ok w g | none => .stuck := Eq.trans rfl rfl
@[simp] theorem x_dRev (d : Den) : dRev d σ g = (d σ g).bind fun p g => match p with | .lst l => .ok (.lst l.reverse) g | _ => .stuck := Eq.trans rfl rfl
@[simp] theorem x_dFld (k f : Str) (d : Den) : dFld k f d σ g = (d σ g).bind fun p g => match p with
  | .ins k' ns ps => if k' = k then (match fldP ns ps f with | some w => .ok w g | none => .stuck) else .stuck
  | _ => .stuck := Eq.trans rfl rfl
@[simp] theorem x_dCB (o : List PV → Option PV) (ds : DenL) : dCB o ds σ g = (ds σ g).bind fun ps g => match o ps with | some w => .ok w g | none => .stuck := Eq.trans rfl rfl
@[simp] theorem x_dIsa (n : String) (d : Den) : dIsa n d σ g = (d σ g).bind fun p g => match tyP p with | some t => .ok (.bl (isaT t n)) g | none => .stuck := Eq.trans rfl rfl
@[simp] theorem x_dIsa2 (n m : String) (d : Den) : dIsa2 n m d σ g = (d σ g).bind fun p g => match tyP p with | some t => .ok (.bl (isaT t n || isaT t m)) g | none => .stuck := Eq.trans rfl rfl
@[simp] theorem x_dIsIn (k : Str) (d : Den) : dIsIn k d σ g = (d σ g).bind fun p g => match p with
  | .ins k' _ _ => if k' = k then .ok (.bl true) g else .stuck
  | _ => .stuck := Eq.trans rfl rfl
@[simp] theorem x_dCall (D : DDen) (ds : DenL) : dCall D ds σ g = (ds σ g).bind fun ps g => D ps g := Eq.trans rfl rfl
@[simp] theorem x_dMeth (k m : Str) (D : DDen) (d : Den) (ds : DenL) : dMeth k m D d ds σ g = (d σ g).bind fun p g => match p with
  | .ins k' ns qs => if k' = k ∧ (ns.zip qs).lookup m = none then (ds σ g).bind fun ps g => noX (D (.ins k' ns qs :: ps) g) else .stuck
  | _ => .stuck := Eq.trans rfl rfl
@[simp] theorem x_dMake (D : DDen) (ds : DenL) : dMake D ds σ g = (ds σ g).bind fun ps g => noX (D ps g) := Eq.trans rfl rfl
@[simp] theorem x_dIt (d : Den) : dIt d σ g = (d σ g).bind fun p g => match p with | .lst l => .ok l g | .tup l => .ok l g | _ => .stuck := Eq.trans rfl rfl
@[simp] theorem x_dRng1 (d : DenL) : dRng1 d σ g = (d σ g).bind fun ps g => match ps with
  | [.int j] => if j ≤ 1000 ∧ -1000 ≤ j then .ok (rngP 0 j.toNat) g else .stuck
  | _ => .stuck := Eq.trans rfl rfl
@[simp] theorem x_dRng2 (d : DenL) : dRng2 d σ g = (d σ g).bind fun ps g => match ps with
  | [.int i, .int j] => if i ≤ 1000 ∧ -1000 ≤ i ∧ j ≤ 1000 ∧ -1000 ≤ j then .ok (rngP i (j - i).toNat) g else .stuck
  | _ => .stuck := Eq.trans rfl rfl
@[simp] theorem x_dEnum (d : DenL) : dEnum d σ g = (d σ g).bind fun ps g => match ps with | [.lst l] => .ok (enumP l) g | _ => .stuck := Eq.trans rfl rfl
@[simp] theorem x_dZip (d : DenL) : dZip d σ g = (d σ g).bind fun ps g => match ps with | [.lst l, .lst m] => .ok (zipP l m) g | _ => .stuck := Eq.trans rfl rfl
@[simp] theorem x_dComp (di : DenL) (vs : List Nat) (gd : DenG) (dt : DenT) (de : Den) : dComp di vs gd dt de σ g = (di σ g).bind fun items g => if items.length ≤ sizeLine then (compL gd dt de (wipeP σ vs) items g).bind fun qs g => .ok (.lst qs) g else .stuck := Eq.trans rfl rfl
@[simp] theorem x_dDComp (di : DenL) (vs : List Nat) (gd : DenG) (dt : DenT) (dk dv : Den) : dDComp di vs gd dt dk dv σ g = (di σ g).bind fun items g => if items.length ≤ sizeLine then compD gd dt dk dv (wipeP σ vs) items [] [] g else .stuck := Eq.trans rfl rfl
@[simp] theorem x_gdName (i : Nat) (p : PV) : gdName i p σ = some (σ.set i (some p)) := Eq.trans rfl rfl
@[simp] theorem x_onLst (i : Nat) (f : List PV → SRes) : onLst i σ f = match σ[i]? with | some (some (.lst l)) => f l | _ => .stuck := Eq.trans rfl rfl
@[simp] theorem x_dApp (i : Nat) (d : Den) : dApp i d σ g = onLst i σ fun l => (d σ g).bindS fun p g => if l.length < sizeLine then .next (σ.set i (some (.lst (l ++ [p])))) g else .stuck := Eq.trans rfl rfl
@[simp] theorem x_dExt (i : Nat) (d : Den) : dExt i d σ g = onLst i σ fun l => (d σ g).bindS fun p g => match p with
  | .lst m => if l.length + m.length ≤ sizeLine then .next (σ.set i (some (.lst (l ++ m)))) g else .stuck
  | _ => .stuck := Eq.trans rfl rfl
/-! operators at their kinds -/
@[simp] theorem o_plus (i j : Int) : pPlus (.int i) (.int j) = some (.int (i + j)) := rfl
@[simp] theorem o_plusL (a b : List PV) : pPlus (.lst a) (.lst b) = if a.length + b.length ≤ sizeLine then some (.lst (a ++ b)) else none := by simp only [pPlus, pAdd, pCat, pCatS, por]; split <;> simp_all
@[simp] theorem o_cat (a b : List PV) : pCat (.lst a) (.lst b) = if a.length + b.length ≤ sizeLine then some (.lst (a ++ b)) else none := rfl
@[simp] theorem o_sub (i j : Int) : pSub (.int i) (.int j) = some (.int (i - j)) := rfl
@[simp] theorem o_mod (i j : Int) : pMod (.int i) (.int j) = if j ≠ 0 then some (.int (i.fmod j)) else none := rfl
@[simp] theorem o_lt (i j : Int) : pLt (.int i) (.int j) = some (decide (i < j)) := rfl
@[simp] theorem o_le (i j : Int) : pLe (.int i) (.int j) = some (decide (i ≤ j)) := rfl
@[simp] theorem o_gt (i j : Int) : pGt (.int i) (.int j) = some (decide (j < i)) := rfl
@[simp] theorem o_ge (i j : Int) : pGe (.int i) (.int j) = some (decide (j ≤ i)) := rfl
@[simp] theorem o_isN (p : PV) : pIs p .non = some (isNonP p) := rfl
@[simp] theorem o_isntN (p : PV) : pIsnt p .non = some (!isNonP p) := rfl
@[simp] theorem o_isB (a b : Bool) : pIs (.bl a) (.bl b) = some (decide (a = b)) := rfl
@[simp] theorem o_isntB (a b : Bool) : pIsnt (.bl a) (.bl b) = some (!decide (a = b)) := rfl
@[simp] theorem o_non1 : isNonP .non = true := rfl
@[simp] theorem o_non2 (i : Int) : isNonP (.int i) = false := rfl
@[simp] theorem o_non3 (l : List PV) : isNonP (.tup l) = false := rfl
@[simp] theorem o_non4 (l : List PV) : isNonP (.lst l) = false := rfl
@[simp] theorem o_non6 (b : Bool) : isNonP (.bl b) = false := rfl
@[simp] theorem o_non7 (ks : List Key) (vs : List PV) : isNonP (.dct ks vs) = false := rfl
@[simp] theorem o_non5 (s : Str) : isNonP (.str s) = false := rfl
@[simp] theorem o_ixL (l : List PV) (i : Int) : pIx (.lst l) (.int i) = atI l i := rfl
@[simp] theorem o_ixT (l : List PV) (i : Int) : pIx (.tup l) (.int i) = atI l i := rfl
@[simp] theorem o_ixD (ks : List Key) (vs : List PV) (i : Int) : pIx (.dct ks vs) (.int i) = valP ks vs (.inl i) := rfl
@[simp] theorem o_ixS (ks : List Key) (vs : List PV) (i : Str) : pIx (.dct ks vs) (.str i) = valP ks vs (.inr i) := rfl
@[simp] theorem o_sl (l : List PV) (a b : Option Int) : pSl (.lst l) a b = some (.lst (cutL l a b)) := rfl
@[simp] theorem o_lenL (l : List PV) : oLen [.lst l] = some (.int (l.length : Nat)) := rfl
@[simp] theorem o_lenT (l : List PV) : oLen [.tup l] = some (.int (l.length : Nat)) := rfl
@[simp] theorem o_list (l : List PV) : oList [.lst l] = some (.lst l) := rfl
@[simp] theorem o_listT (l : List PV) : oList [.tup l] = some (.lst l) := rfl
@[simp] theorem o_min (i j : Int) : oMin [.int i, .int j] = some (.int (min i j)) := rfl
@[simp] theorem o_max (i j : Int) : oMax [.int i, .int j] = some (.int (max i j)) := rfl
@[simp] theorem o_tB (b : Bool) : truth (.bl b) = some b := rfl
@[simp] theorem ty1 (i : Int) : tyP (.int i) = some "int" := rfl
@[simp] theorem ty2 (i : Bool) : tyP (.bl i) = some "bool" := rfl
@[simp] theorem ty3 (i : Str) : tyP (.str i) = some "str" := rfl
@[simp] theorem ty4 (i : List PV) : tyP (.lst i) = some "list" := rfl
@[simp] theorem ty5 (i : List PV) : tyP (.tup i) = some "tuple" := rfl
@[simp] theorem ty6 : tyP .non = some "NoneType" := rfl
@[simp] theorem ty7 (ks : List Key) (vs : List PV) : tyP (.dct ks vs) = some "dict" := rfl
@[simp] theorem isa1 : isaT "int" "int" = true := by decide
@[simp] theorem isa2 : isaT "int" "bool" = false := by decide
@[simp] theorem isa3 : isaT "bool" "bool" = true := by decide
@[simp] theorem isa4 : isaT "bool" "int" = true := by decide
@[simp] theorem isa5 : isaT "str" "str" = true := by decide
@[simp] theorem isa6 : isaT "list" "list" = true := by decide
@[simp] theorem isa7 : isaT "tuple" "tuple" = true := by decide
@[simp] theorem isa8 : isaT "list" "tuple" = false := by decide
@[simp] theorem isa9 : isaT "tuple" "list" = false := by decide
@[simp] theorem isa10 : isaT "bool" "list" = false := by decide
@[simp] theorem isa11 : isaT "bool" "tuple" = false := by decide
@[simp] theorem isa12 : isaT "bool" "dict" = false := by decide
@[simp] theorem isa13 : isaT "int" "list" = false := by decide
@[simp] theorem isa14 : isaT "int" "tuple" = false := by decide
@[simp] theorem isa15 : isaT "int" "dict" = false := by decide
@[simp] theorem isa16 : isaT "list" "dict" = false := by decide
@[simp] theorem isa17 : isaT "tuple" "dict" = false := by decide
@[simp] theorem isa18 : isaT "str" "list" = false := by decide
@[simp] theorem isa19 : isaT "str" "tuple" = false := by decide
@[simp] theorem isa20 : isaT "str" "dict" = false := by decide
@[simp] theorem isa21 : isaT "str" "bool" = false := by decide
@[simp] theorem isa22 : isaT "str" "int" = false := by decide
@[simp] theorem isa23 : isaT "list" "int" = false := by decide
@[simp] theorem isa24 : isaT "list" "bool" = false := by decide
@[simp] theorem isa25 : isaT "list" "str" = false := by decide
/-! equality -/
theorem eqvAll_map {α : Type} [DecidableEq α] (f : α → PyData) (h : ∀ a b, PyData.eqv (f a) (f b) = decide (a = b)) : ∀ l m : List α, PyData.eqvAll (l.map f) (m.map f) = decide (l = m)
  | [], [] => by simp [PyData.eqvAll]
  | [], b :: m => by simp [PyData.eqvAll]
  | a :: l, [] => by simp [PyData.eqvAll]
  | a :: l, b :: m => by simp [PyData.eqvAll, h, eqvAll_map f h l m]
theorem toDs_map {α : Type} (f : α → PV) (d : α → PyData) (h : ∀ a, toD (f a) = some (d a)) : ∀ l : List α, toDs (l.map f) = some (l.map d)
  | [] => by simp [toDs]
  | a :: l => by simp [toDs, h, toDs_map f d h l]
theorem canLay_map {α : Type} (d : α → PyData) (h : ∀ a, PyData.canLay0 (d a) = true) : ∀ l : List α, PyData.canLayAll0 (l.map d) = true
  | [] => by simp [PyData.canLayAll0]
  | a :: l => by simp [PyData.canLayAll0, h, canLay_map d h l]
theorem depth_map {α : Type} (d : α → PyData) (k : Nat) (h : ∀ a, PyData.depth (d a) ≤ k) : ∀ l : List α, PyData.depthAll (l.map d) ≤ k
  | [] => by simp [PyData.depthAll]
  | a :: l => by
    have := h a
    have := depth_map d k h l
    simp only [List.map_cons, PyData.depthAll]
    omega
theorem eq_list {α : Type} [DecidableEq α] (f : α → PV) (d : α → PyData) (k : Nat) (hk : k < 64) (h1 : ∀ a, toD (f a) = some (d a)) (h2 : ∀ a, PyData.canLay0 (d a) = true) (h3 : ∀ a, PyData.depth (d a) ≤ k) (h4 : ∀ a b, PyData.eqv (d a) (d b) = decide (a = b)) (l m : List α) :
    pEqB (.lst (l.map f)) (.lst (m.map f)) = some (decide (l = m)) := by
  have e : ∀ l : List α, SeqAt.shaped (.list (l.map d)) = true := fun l => by
    have := depth_map d k h3 l
    simp only [SeqAt.shaped, PyData.canLay0, canLay_map d h2, PyData.depth, Bool.true_and, decide_eq_true_eq]
    exact decide_eq_true (Nat.succ_le_succ (Nat.le_trans this (Nat.le_of_lt_succ hk)))
  simp only [pEqB, toD, toDs_map f d h1, Option.map_some, e, and_self, if_true, PyData.eqv, eqvAll_map d h4]
theorem eqv_int (i j : Int) : PyData.eqv (.int i) (.int j) = decide (i = j) := by simp only [PyData.eqv]; rw [Bool.eq_iff_iff]; simp
@[simp] theorem o_eqI (i j : Int) : pEqB (.int i) (.int j) = some (decide (i = j)) := by
  simp only [pEqB, toD, SeqAt.shaped, PyData.canLay0, PyData.depth, eqv_int]; rfl
@[simp] theorem o_eqB (i j : Bool) : pEqB (.bl i) (.bl j) = some (i == j) := by cases i <;> cases j <;> rfl
@[simp] theorem o_neB (i j : Bool) : pNeB (.bl i) (.bl j) = some (i != j) := by cases i <;> cases j <;> rfl
@[simp] theorem o_neI (i j : Int) : pNeB (.int i) (.int j) = some (!decide (i = j)) := by simp only [pNeB, o_eqI]; rfl
@[simp] theorem o_eqLI (l m : List Int) : pEqB (.lst (l.map .int)) (.lst (m.map .int)) = some (decide (l = m)) :=
  eq_list .int .int 0 (by decide) (fun _ => by simp [toD]) (fun _ => by simp [PyData.canLay0]) (fun _ => by simp [PyData.depth]) eqv_int l m
@[simp] theorem o_eqLP (l m : List (Int × Int)) : pEqB (.lst (l.map tup2)) (.lst (m.map tup2)) = some (decide (l = m)) :=
  eq_list tup2 (fun x => .tuple [.int x.1, .int x.2]) 1 (by decide) (fun _ => by simp [toD, toDs, tup2]) (fun _ => by simp [PyData.canLay0, PyData.canLayAll0]) (fun _ => by simp [PyData.depth, PyData.depthAll])
    (fun a b => by simp only [PyData.eqv, PyData.eqvAll, Bool.and_true]; rw [Bool.eq_iff_iff]; simp [Prod.ext_iff]) l m
end
end Tr

namespace Tr
open PySem PySem.Spec PyProof.Rows L2
/-! ### loops and comprehensions in the plain -/
theorem compL_map {α : Type} {gd : DenG} {dt : DenT} {de : Den} {σ : Sl} {g : Rg} (f : α → PV) (t : α → Bool) (e : α → PV) : ∀ (l : List α), (∀ a ∈ l, ∃ σ1, gd (f a) σ = some σ1 ∧ dt σ1 g = .ok (t a) g ∧ (t a = true → de σ1 g = .ok (e a) g)) →
    compL gd dt de σ (l.map f) g = .ok ((l.filter t).map e) g
  | [], _ => rfl
  | a :: l, h => by
    obtain ⟨σ1, h1, h2, h3⟩ := h a (by simp)
    have ih := compL_map f t e l fun b hb => h b (by simp [hb])
    simp only [List.map_cons, compL, h1, h2, noX_ok, Res.bind_ok]
    cases ht : t a with
    | true => simp only [if_true, h3 ht, noX_ok, Res.bind_ok, ih, List.filter_cons, ht, List.map_cons]
    | false => simp only [Bool.false_eq_true, if_false, ih, List.filter_cons, ht]
/-- a comprehension without a test -/
theorem compL_all {α : Type} {gd : DenG} {de : Den} {σ : Sl} {g : Rg} (f : α → PV) (e : α → PV) (l : List α) (h : ∀ a ∈ l, ∃ σ1, gd (f a) σ = some σ1 ∧ de σ1 g = .ok (e a) g) :
    compL gd dYes de σ (l.map f) g = .ok (l.map e) g := by
  rw [compL_map f (fun _ => true) e l fun a ha => by obtain ⟨σ1, h1, h2⟩ := h a ha; exact ⟨σ1, h1, rfl, fun _ => h2⟩]
  rw [show l.filter (fun _ => true) = l from List.filter_eq_self.mpr fun _ _ => rfl]
theorem loop_find {α : Type} {gd : DenG} {body : DenS} {g : Rg} (f : α → PV) (I : Sl → Prop) (c : α → Option PV) : ∀ (l : List α), (∀ a ∈ l, ∀ σ, I σ → ∃ σ1, gd (f a) σ = some σ1 ∧ match c a with | some r => body σ1 g = .ret r g | none => ∃ σ2, body σ1 g = .next σ2 g ∧ I σ2) → ∀ σ, I σ →
    match l.findSome? c with | some r => loopS gd body (l.map f) σ g = .ret r g | none => ∃ σ2, loopS gd body (l.map f) σ g = .next σ2 g ∧ I σ2
  | [], _, σ, i => ⟨σ, rfl, i⟩
  | a :: l, h, σ, i => by
    obtain ⟨σ1, h1, h2⟩ := h a (by simp) σ i
    simp only [List.findSome?_cons, List.map_cons, loopS, h1]
    cases hc : c a with
    | some r => rw [hc] at h2; simp only [h2]
    | none =>
      rw [hc] at h2
      obtain ⟨σ2, h2, i2⟩ := h2
      simp only [h2]
      exact loop_find f I c l (fun b hb => h b (by simp [hb])) σ2 i2
/-- a loop that goes through -/
theorem loop_fold {α β : Type} {gd : DenG} {body : DenS} {g : Rg} (f : α → PV) (I : β → Sl → Prop) (s : β → α → β) : ∀ (l : List α) (b : β), (∀ a ∈ l, ∀ b σ, I b σ → ∃ σ1 σ2, gd (f a) σ = some σ1 ∧ body σ1 g = .next σ2 g ∧ I (s b a) σ2) → ∀ σ, I b σ →
    ∃ σ2, loopS gd body (l.map f) σ g = .next σ2 g ∧ I (l.foldl s b) σ2
  | [], b, _, σ, i => ⟨σ, rfl, i⟩
  | a :: l, b, h, σ, i => by
    obtain ⟨σ1, σ2, h1, h2, i2⟩ := h a (by simp) b σ i
    simp only [List.map_cons, loopS, h1, h2, List.foldl_cons]
    exact loop_fold f I s l (s b a) (fun c hc => h c (by simp [hc])) σ2 i2
theorem rngP_map (n : Nat) : rngP 0 n = (List.range n).map fun i => PV.int (i : Nat) := by simp [rngP]
theorem enumP_map {α : Type} (f : α → PV) (l : List α) : enumP (l.map f) = l.zipIdx.map fun x => .tup [.int (x.2 : Nat), f x.1] := by
  simp only [enumP, List.mapIdx_eq_zipIdx_map, List.zipIdx_map, List.map_map]
  rfl
end Tr

namespace Tr
open PySem PySem.Spec PyProof.Rows L2
section
variable {g : Rg}
@[simp] theorem p_is_integer (i : Int) : d_is_integer [.int i] g = .ok (.bl true) g := by simp [d_is_integer, b_is_integer]
@[simp] theorem p_is_number (i : Int) : d_is_number [.int i] g = .ok (.bl (decide (0 ≤ i))) g := by simp [d_is_number, b_is_number]
@[simp] theorem p_is_list (l : List PV) : d_is_list [.lst l] g = .ok (.bl true) g := by simp [d_is_list, b_is_list]
@[simp] theorem p_is_text (s : Str) : d_is_text [.str s] g = .ok (.bl true) g := by simp [d_is_text, b_is_text]
/-- a Laid's fields -/
def nLaid : List Str := ["many", "ends", "joints", "signs"]
abbrev laidP (many : Int) (ends : List Int) (joints : List PV) (ks : List Key) (vs : List PV) : PV := .ins "Laid" nLaid [.int many, .lst (ends.map .int), .lst joints, .dct ks vs]
@[simp] theorem f_many (a b c d : PV) : fldP nLaid [a, b, c, d] "many" = some a := by rfl
@[simp] theorem f_ends (a b c d : PV) : fldP nLaid [a, b, c, d] "ends" = some b := by rfl
@[simp] theorem f_joints (a b c d : PV) : fldP nLaid [a, b, c, d] "joints" = some c := by rfl
@[simp] theorem f_signs (a b c d : PV) : fldP nLaid [a, b, c, d] "signs" = some d := by rfl
@[simp] theorem l_lowest (a b c d : PV) : (nLaid.zip [a, b, c, d]).lookup ("lowest" : Str) = none := by rfl
@[simp] theorem l_highest (a b c d : PV) : (nLaid.zip [a, b, c, d]).lookup ("highest" : Str) = none := by rfl
@[simp] theorem l_spot_of (a b c d : PV) : (nLaid.zip [a, b, c, d]).lookup ("spot_of" : Str) = none := by rfl
theorem atI_nat {α : Type} (l : List α) (n : Nat) : atI l (n : Int) = l[n]? := by
  unfold atI ixN
  by_cases h : n < l.length
  · have h1 : (n : Int) < l.length := by omega
    simp [h1]
  · have h1 : ¬ (n : Int) < l.length := by omega
    simp [h1]
    omega
/-- the spot at a place -/
def sp (ends : List Int) (k : Nat) : Int := ends.getD k 0
theorem at_ends {ends : List Int} {k : Nat} (h : k < ends.length) : atI (ends.map PV.int) (k : Int) = some (.int (sp ends k)) := by
  rw [atI_nat, List.getElem?_map, List.getElem?_eq_getElem h]
  simp [sp, List.getD, h]
theorem at_ends1 {ends : List Int} {k : Nat} (h : k + 1 < ends.length) : atI (ends.map PV.int) ((k : Int) + 1) = some (.int (sp ends (k + 1))) := by
  rw [← at_ends h]
  congr 1
def low (E : List Int) (s : Nat) : Int := min (sp E s) (sp E (s + 1))
def high (E : List Int) (s : Nat) : Int := max (sp E s) (sp E (s + 1))
theorem p_lowest {many : Int} {ends : List Int} {js : List PV} {ks : List Key} {vs : List PV} {s : Nat} (h : s + 1 < ends.length) : d_Laid_lowest [laidP many ends js ks vs, .int (s : Nat)] g = .ok (.int (low ends s)) g := by
  have h1 := at_ends (ends := ends) (k := s) (by omega)
  have h2 := at_ends1 h
  simp [d_Laid_lowest, b_Laid_lowest, h1, h2, low]
theorem p_highest {many : Int} {ends : List Int} {js : List PV} {ks : List Key} {vs : List PV} {s : Nat} (h : s + 1 < ends.length) : d_Laid_highest [laidP many ends js ks vs, .int (s : Nat)] g = .ok (.int (high ends s)) g := by
  have h1 := at_ends (ends := ends) (k := s) (by omega)
  have h2 := at_ends1 h
  simp [d_Laid_highest, b_Laid_highest, h1, h2, high]
theorem p_spot_of {many : Int} {ends : List Int} {js : List PV} {ks : List Key} {vs : List PV} {s : Nat} (h : s < ends.length) : d_Laid_spot_of [laidP many ends js ks vs, .int (s : Nat)] g = .ok (.int (sp ends s)) g := by
  have h1 := at_ends h
  simp [d_Laid_spot_of, b_Laid_spot_of, h1]
theorem p_has_inside {many : Int} {ends : List Int} {js : List PV} {ks : List Key} {vs : List PV} {s : Nat} {x : Int} (h : s + 1 < ends.length) : d_Laid_has_inside [laidP many ends js ks vs, .int (s : Nat), .int x] g = .ok (.bl (decide (low ends s < x) && decide (x < high ends s))) g := by
  have h1 := p_lowest (g := g) (many := many) (js := js) (ks := ks) (vs := vs) h
  have h2 := p_highest (g := g) (many := many) (js := js) (ks := ks) (vs := vs) h
  by_cases c : low ends s < x
  · simp [d_Laid_has_inside, b_Laid_has_inside, h1, h2, c]
  · simp [d_Laid_has_inside, b_Laid_has_inside, h1, h2, c]
theorem p_have_common {many : Int} {ends : List Int} {js : List PV} {ks : List Key} {vs : List PV} {s t : Nat} (h : s + 1 < ends.length) (h' : t + 1 < ends.length) : d_Laid_have_common [laidP many ends js ks vs, .int (s : Nat), .int (t : Nat)] g = .ok (.bl (decide (max (low ends s) (low ends t) < min (high ends s) (high ends t)))) g := by
  have h1 := p_lowest (g := g) (many := many) (js := js) (ks := ks) (vs := vs) h
  have h2 := p_highest (g := g) (many := many) (js := js) (ks := ks) (vs := vs) h
  have h3 := p_lowest (g := g) (many := many) (js := js) (ks := ks) (vs := vs) h'
  have h4 := p_highest (g := g) (many := many) (js := js) (ks := ks) (vs := vs) h'
  simp [d_Laid_have_common, b_Laid_have_common, h1, h2, h3, h4]
abbrev Jt := Nat × Nat × Nat
abbrev jt (x : Jt) : PV := .tup [.int (x.1 : Nat), .int (x.2.1 : Nat), .int (x.2.2 : Nat)]
@[simp] theorem at0 (a b c : PV) : atI [a, b, c] 0 = some a := rfl
@[simp] theorem at1 (a b c : PV) : atI [a, b, c] 1 = some b := rfl
@[simp] theorem at2 (a b c : PV) : atI [a, b, c] 2 = some c := rfl
@[simp] theorem at20 (a b : PV) : atI [a, b] 0 = some a := rfl
@[simp] theorem at21 (a b : PV) : atI [a, b] 1 = some b := rfl
def isLeft (E : List Int) (j : Jt) : Bool := decide (high E j.2.1 = sp E j.1)
@[simp] theorem l_is_left (a b c d : PV) : (nLaid.zip [a, b, c, d]).lookup ("is_left" : Str) = none := by rfl
@[simp] theorem l_touches (a b c d : PV) : (nLaid.zip [a, b, c, d]).lookup ("touches" : Str) = none := by rfl
@[simp] theorem l_has_inside (a b c d : PV) : (nLaid.zip [a, b, c, d]).lookup ("has_inside" : Str) = none := by rfl
@[simp] theorem l_have_common (a b c d : PV) : (nLaid.zip [a, b, c, d]).lookup ("have_common" : Str) = none := by rfl
theorem p_is_left {many : Int} {ends : List Int} {js : List PV} {ks : List Key} {vs : List PV} {j : Jt} (h : j.1 < ends.length) (h' : j.2.1 + 1 < ends.length) : d_Laid_is_left [laidP many ends js ks vs, jt j] g = .ok (.bl (isLeft ends j)) g := by
  have h1 := p_spot_of (g := g) (many := many) (js := js) (ks := ks) (vs := vs) h
  have h2 := p_highest (g := g) (many := many) (js := js) (ks := ks) (vs := vs) h'
  simp [d_Laid_is_left, b_Laid_is_left, h1, h2, isLeft]
def touch (E : List Int) (j k : Jt) : Bool := decide (sp E j.1 = sp E k.1) && (isLeft E j == isLeft E k)
theorem p_touches {many : Int} {ends : List Int} {js : List PV} {ks : List Key} {vs : List PV} {j k : Jt} (h : j.1 < ends.length) (h' : j.2.1 + 1 < ends.length) (k1 : k.1 < ends.length) (k2 : k.2.1 + 1 < ends.length) : d_Laid_touches [laidP many ends js ks vs, jt j, jt k] g = .ok (.bl (touch ends j k)) g := by
  have h1 := p_spot_of (g := g) (many := many) (js := js) (ks := ks) (vs := vs) h
  have h2 := p_spot_of (g := g) (many := many) (js := js) (ks := ks) (vs := vs) k1
  have h3 := p_is_left (g := g) (many := many) (js := js) (ks := ks) (vs := vs) h h'
  have h4 := p_is_left (g := g) (many := many) (js := js) (ks := ks) (vs := vs) k1 k2
  by_cases c : sp ends j.1 = sp ends k.1
  · simp [d_Laid_touches, b_Laid_touches, h1, h2, h3, h4, c, touch]
  · simp [d_Laid_touches, b_Laid_touches, h1, h2, h3, h4, c, touch]
/-! ### orders -/
abbrev nv (o : List Nat) : PV := .lst (o.map fun (i : Nat) => .int (i : Nat))
abbrev kN (i : Nat) : Key := .inl (i : Int)
abbrev plP (o : List Nat) : PV := .dct (o.map kN) ((List.range o.length).map fun (i : Nat) => .int (i : Nat))
theorem compD_new {α : Type} {gd : DenG} {dk dv : Den} {σ : Sl} (f : α → PV) (k : α → Key) (v : α → PV) : ∀ (l : List α) (ks : List Key) (ps : List PV), ks.length = ps.length → (∀ a ∈ l, ∃ σ1 q, gd (f a) σ = some σ1 ∧ dk σ1 g = .ok q g ∧ keyP q = some (k a) ∧ dv σ1 g = .ok (v a) g) → (ks ++ l.map k).Nodup →
    compD gd dYes dk dv σ (l.map f) ks ps g = .ok (.dct (ks ++ l.map k) (ps ++ l.map v)) g
  | [], ks, ps, _, _, _ => by simp [compD]
  | a :: l, ks, ps, hl, h, nd => by
    obtain ⟨σ1, q, h1, h2, h3, h4⟩ := h a (by simp)
    have nk : k a ∉ ks := fun z => by
      have := List.nodup_append.mp nd
      exact this.2.2 _ z (k a) (by simp) rfl
    have hk : hasK ks (k a) = false := by
      unfold hasK
      rw [List.any_eq_false]
      intro x hx
      simp only [decide_eq_true_eq]
      exact fun e => nk (e ▸ hx)
    have pk : putKs ks (k a) = ks ++ [k a] := by simp [putKs, hk]
    have pv : ∀ (ks : List Key) (ps : List PV), ks.length = ps.length → hasK ks (k a) = false → putVs ks ps (k a) (v a) = ps ++ [v a] := by
      intro ks
      induction ks with
      | nil => intro ps h _; simp [putVs]
      | cons x ks ih =>
        intro ps h hk
        cases ps with
        | nil => simp at h
        | cons p ps =>
          have hx : decide (x = k a) = false ∧ hasK ks (k a) = false := by simpa [hasK] using hk
          simp only [putVs, if_neg (of_decide_eq_false hx.1), List.cons_append]
          rw [ih ps (by simpa using h) hx.2]
    simp only [List.map_cons, compD, h1, x_dYes, noX_ok, Res.bind_ok, if_true, h2, h3, h4, pk, pv ks ps hl hk]
    rw [compD_new f k v l (ks ++ [k a]) (ps ++ [v a]) (by simp [hl]) (fun b hb => h b (by simp [hb])) (by simpa using nd)]
    simp
theorem valP_at {o : List Nat} : ∀ {vs : List PV} {s : Nat}, s ∈ o → o.length = vs.length → valP (o.map kN) vs (kN s) = vs[o.idxOf s]? := by
  induction o with
  | nil => intro vs s h; cases h
  | cons a o ih =>
    intro vs s h hl
    cases vs with
    | nil => simp at hl
    | cons v vs =>
      by_cases e : a = s
      · subst e
        simp [valP]
      · have ih' := ih (vs := vs) (s := s) (by rcases List.mem_cons.mp h with h | h; exact absurd h.symm e; exact h) (by simpa using hl)
        have ne : ¬ (kN a = kN s) := fun z => e (Int.ofNat.inj (Sum.inl.inj z))
        have eb : (a == s) = false := by simpa using e
        have hi : List.idxOf s (a :: o) = List.idxOf s o + 1 := by rw [List.idxOf_cons, eb]; rfl
        rw [hi]
        simp only [valP, List.map_cons, List.zip_cons_cons, List.find?_cons, ne, decide_false] at ih' ⊢
        rw [ih']
        rfl
theorem at_place {o : List Nat} {s : Nat} (h : s ∈ o) : valP (o.map kN) ((List.range o.length).map fun (i : Nat) => PV.int (i : Nat)) (kN s) = some (.int (o.idxOf s : Nat)) := by
  rw [valP_at h (by simp)]
  rw [List.getElem?_map, List.getElem?_range (List.idxOf_lt_length_of_mem h)]
  rfl
theorem p_places_in {o : List Nat} (nd : o.Nodup) (hl : o.length ≤ 1000) : d_places_in [nv o] g = .ok (plP o) g := by
  have e : enumP (o.map fun (i : Nat) => PV.int (i : Nat)) = o.zipIdx.map fun x => .tup [.int (x.2 : Nat), .int (x.1 : Nat)] := enumP_map _ o
  have h1 : (o.zipIdx.map fun x => kN x.1) = o.map kN := by
    rw [show (o.zipIdx.map fun x => kN x.1) = (o.zipIdx.map Prod.fst).map kN by rw [List.map_map]; rfl]
    simp
  have h2 : (o.zipIdx.map fun x => PV.int (x.2 : Nat)) = (List.range o.length).map fun (i : Nat) => .int (i : Nat) := by
    rw [show (o.zipIdx.map fun x => PV.int (x.2 : Nat)) = (o.zipIdx.map Prod.snd).map (fun (i : Nat) => PV.int (i : Nat)) by rw [List.map_map]; rfl]
    simp [List.range_eq_range']
  have h3 := compD_new (g := g) (σ := [some (nv o), none, none]) (gd := gdTup 2 (gdCons (gdName 1) (gdCons (gdName 2) gdNil))) (dk := dV 2) (dv := dV 1) (fun x : Nat × Nat => .tup [.int (x.2 : Nat), .int (x.1 : Nat)]) (fun x => kN x.1) (fun x => .int (x.2 : Nat)) o.zipIdx [] [] rfl
    (fun a _ => ⟨_, _, rfl, rfl, rfl, rfl⟩) (by
      rw [List.nil_append, h1]
      exact List.Pairwise.map kN (fun a b h e => h (Int.ofNat.inj (Sum.inl.inj e))) nd)
  have hs : o.length ≤ sizeLine := Nat.le_trans hl (by decide)
  simp only [List.nil_append, h1, h2] at h3
  simp [d_places_in, b_places_in, e, hs, wipeP, h3]
/-- a letter -/
inductive Lt where | m | v | q
instance : DecidableEq Lt := fun a b => by cases a <;> cases b <;> first | exact isTrue rfl | exact isFalse (fun h => by cases h)
def ltS : Lt → Str
  | .m => "m"
  | .v => "v"
  | .q => "?"
@[simp] theorem lt_q (c : Lt) : pEqB (.str (ltS c)) (.str "?") = some (decide (c = .q)) := by cases c <;> decide +kernel
@[simp] theorem lt_v (c : Lt) : pEqB (.str (ltS c)) (.str "v") = some (decide (c = .v)) := by cases c <;> decide +kernel
@[simp] theorem lt_m (c : Lt) : pEqB (.str (ltS c)) (.str "m") = some (decide (c = .m)) := by cases c <;> decide +kernel
@[simp] theorem nat_fmod2 (n : Nat) : (n : Int).fmod 2 = ((n % 2 : Nat) : Int) := by rw [Int.fmod_eq_emod_of_nonneg _ (by decide)]; omega
@[simp] theorem even_iff (n : Nat) : ((n : Int) % 2 = 0) ↔ n % 2 = 0 := by omega
def liesSo (c : Lt) (j : Jt) (o : List Nat) : Bool := decide (c = .q) || (decide (c = .v) == (decide (o.idxOf j.2.1 < o.idxOf j.2.2) == decide (j.2.1 % 2 = 0)))
theorem p_lies_so {c : Lt} {j : Jt} {o : List Nat} (h1 : j.2.1 ∈ o) (h2 : j.2.2 ∈ o) : d_lies_so [.str (ltS c), jt j, plP o] g = .ok (.bl (liesSo c j o)) g := by
  have e1 := at_place h1
  have e2 := at_place h2
  simp only [kN] at e1 e2
  by_cases hc : c = .q
  · simp [d_lies_so, b_lies_so, hc, liesSo]
  · simp [d_lies_so, b_lies_so, hc, liesSo, gdTup, gdCons, gdNil, e1, e2]
def btw (o : List Nat) (s : Nat) (j : Jt) : Bool := decide (min (o.idxOf j.2.1) (o.idxOf j.2.2) < o.idxOf s) && decide (o.idxOf s < max (o.idxOf j.2.1) (o.idxOf j.2.2))
theorem o_sort2 (a b : Int) : oSort [.lst [.int a, .int b]] = some (.lst [.int (min a b), .int (max a b)]) := by
  have e : oSortI [.lst [.int a, .int b]] = some (.lst [.int (min a b), .int (max a b)]) := by
    simp only [oSortI, intsP, Option.map_some, sortI, insI]
    by_cases h : a ≤ b
    · rw [if_pos h]; simp [Int.min_eq_left h, Int.max_eq_right h]
    · have h' : b ≤ a := by omega
      rw [if_neg h]; simp [insI, Int.min_eq_right h', Int.max_eq_left h']
  simp [oSort, por, e]
theorem p_is_between {o : List Nat} {s : Nat} {j : Jt} (h : s ∈ o) (h1 : j.2.1 ∈ o) (h2 : j.2.2 ∈ o) : d_is_between [plP o, .int (s : Nat), jt j] g = .ok (.bl (btw o s j)) g := by
  have e := at_place h
  have e1 := at_place h1
  have e2 := at_place h2
  simp only [kN] at e e1 e2
  have x1 : (min (o.idxOf j.2.1 : Int) (o.idxOf j.2.2 : Int) < (o.idxOf s : Int)) ↔ min (o.idxOf j.2.1) (o.idxOf j.2.2) < o.idxOf s := by omega
  have x2 : ((o.idxOf s : Int) < max (o.idxOf j.2.1 : Int) (o.idxOf j.2.2 : Int)) ↔ o.idxOf s < max (o.idxOf j.2.1) (o.idxOf j.2.2) := by omega
  by_cases c : min (o.idxOf j.2.1) (o.idxOf j.2.2) < o.idxOf s
  · simp [d_is_between, b_is_between, e, e1, e2, o_sort2, btw, x1, x2, c]
  · simp [d_is_between, b_is_between, e, e1, e2, o_sort2, btw, x1, x2, c]
/-! ### the three looks -/
def toldC (sg : Jt → Lt) (o : List Nat) (j : Jt) : Option PV := if liesSo (sg j) j o then none else some (.tup [.str "told", .int (j.1 : Nat)])
theorem p_told_fault {many : Int} {ends : List Int} {jv : List PV} {ks : List Key} {vs : List PV} {js : List Jt} {o : List Nat} {sg : Jt → Lt} (h1 : ∀ j ∈ js, j.2.1 ∈ o ∧ j.2.2 ∈ o) (h2 : ∀ j ∈ js, valP ks vs (kN j.1) = some (.str (ltS (sg j)))) :
    d_told_fault [laidP many ends jv ks vs, .lst (js.map jt), plP o] g = .ok ((js.findSome? (toldC sg o)).getD .non) g := by
  have h := loop_find (g := g) (gd := gdName 3) (body := (dSeq (dIf (dNotT (dTr (dCall d_lies_so (dCons (dIx (dFld "Laid" "signs" (dV 0)) (dIx (dV 3) (dC (.int 0)))) (dCons (dV 3) (dCons (dV 2) dNil)))))) (dSeq (dRet (dTup (dCons (dC (.str "told")) (dCons (dIx (dV 3) (dC (.int 0))) dNil)))) dNever) dSkip) dSkip)) jt
    (fun σ => ∃ x, σ = [some (laidP many ends jv ks vs), some (.lst (js.map jt)), some (plP o), x]) (toldC sg o) js (fun j hj σ => by
      rintro ⟨x, rfl⟩
      refine ⟨_, rfl, ?_⟩
      have e := p_lies_so (g := g) (c := sg j) (h1 j hj).1 (h1 j hj).2
      have e2 := h2 j hj
      simp only [kN] at e2
      unfold toldC
      by_cases c : liesSo (sg j) j o = true
      · simp [e, e2, c]
      · simp [e, e2, c]) _ ⟨none, rfl⟩
  cases hc : js.findSome? (toldC sg o) with
  | some r =>
    rw [hc] at h
    simp only at h
    simp [d_told_fault, b_told_fault, h]
  | none =>
    rw [hc] at h
    obtain ⟨σ2, h, x, rfl⟩ := h
    simp [d_told_fault, b_told_fault, h]
def passC (E : List Int) (o : List Nat) (j : Jt) (s : Nat) : Option PV := if (decide (low E s < sp E j.1) && decide (sp E j.1 < high E s)) && btw o s j then some (.tup [.str "pass", .int (j.1 : Nat), .int (s : Nat)]) else none
theorem p_pass_fault {many : Int} {ends : List Int} {jv : List PV} {ks : List Key} {vs : List PV} {js : List Jt} {o : List Nat} {n : Nat} (h1 : ∀ j ∈ js, j.2.1 ∈ o ∧ j.2.2 ∈ o ∧ j.1 < ends.length) (h2 : ∀ s < n, s ∈ o ∧ s + 1 < ends.length) :
    d_pass_fault [laidP many ends jv ks vs, .lst (js.map jt), nv (List.range n), plP o] g = .ok ((js.findSome? fun j => (List.range n).findSome? (passC ends o j)).getD .non) g := by
  have h := loop_find (g := g) (gd := gdName 4) (body := (dSeq (dFor (dIt (dV 2)) (gdName 5) (dSeq (dIf (dAndT (dTr (dMeth "Laid" "has_inside" d_Laid_has_inside (dV 0) (dCons (dV 5) (dCons (dMeth "Laid" "spot_of" d_Laid_spot_of (dV 0) (dCons (dIx (dV 4) (dC (.int 0))) dNil)) dNil)))) (dTr (dCall d_is_between (dCons (dV 3) (dCons (dV 5) (dCons (dV 4) dNil)))))) (dSeq (dRet (dTup (dCons (dC (.str "pass")) (dCons (dIx (dV 4) (dC (.int 0))) (dCons (dV 5) dNil))))) dNever) dSkip) dSkip)) dSkip)) jt
    (fun σ => ∃ x y, σ = [some (laidP many ends jv ks vs), some (.lst (js.map jt)), some (nv (List.range n)), some (plP o), x, y]) (fun j => (List.range n).findSome? (passC ends o j)) js (fun j hj σ => by
      rintro ⟨x, y, rfl⟩
      refine ⟨_, rfl, ?_⟩
      have hin := loop_find (g := g) (gd := gdName 5) (body := (dSeq (dIf (dAndT (dTr (dMeth "Laid" "has_inside" d_Laid_has_inside (dV 0) (dCons (dV 5) (dCons (dMeth "Laid" "spot_of" d_Laid_spot_of (dV 0) (dCons (dIx (dV 4) (dC (.int 0))) dNil)) dNil)))) (dTr (dCall d_is_between (dCons (dV 3) (dCons (dV 5) (dCons (dV 4) dNil)))))) (dSeq (dRet (dTup (dCons (dC (.str "pass")) (dCons (dIx (dV 4) (dC (.int 0))) (dCons (dV 5) dNil))))) dNever) dSkip) dSkip)) (fun (i : Nat) => PV.int (i : Nat))
        (fun σ => ∃ z, σ = [some (laidP many ends jv ks vs), some (.lst (js.map jt)), some (nv (List.range n)), some (plP o), some (jt j), z]) (passC ends o j) (List.range n) (fun s hs σ => by
          rintro ⟨z, rfl⟩
          refine ⟨_, rfl, ?_⟩
          obtain ⟨a1, a2⟩ := h2 s (List.mem_range.mp hs)
          obtain ⟨b1, b2, b3⟩ := h1 j hj
          have e1 := p_spot_of (g := g) (many := many) (js := jv) (ks := ks) (vs := vs) b3
          have e2 := p_has_inside (g := g) (many := many) (js := jv) (ks := ks) (vs := vs) (x := sp ends j.1) a2
          have e3 := p_is_between (g := g) a1 b1 b2
          unfold passC
          by_cases c1 : (decide (low ends s < sp ends j.1) && decide (sp ends j.1 < high ends s)) = true
          · by_cases c2 : btw o s j = true
            · simp [e1, e2, e3, c1, c2]
            · simp [e1, e2, e3, c1, c2]
          · simp [e1, e2, c1]) _ ⟨y, rfl⟩
      cases hc : (List.range n).findSome? (passC ends o j) with
      | some r =>
        rw [hc] at hin
        simp only at hin
        simp [hin]
      | none =>
        rw [hc] at hin
        obtain ⟨σ2, hin, z, rfl⟩ := hin
        refine ⟨_, ?_, some (jt j), z, rfl⟩
        simp [hin]) _ ⟨none, none, rfl⟩
  cases hc : js.findSome? fun j => (List.range n).findSome? (passC ends o j) with
  | some r =>
    rw [hc] at h
    simp only at h
    simp [d_pass_fault, b_pass_fault, h]
  | none =>
    rw [hc] at h
    obtain ⟨σ2, h, x, y, rfl⟩ := h
    simp [d_pass_fault, b_pass_fault, h]
theorem cut_from {α : Type} (l : List α) (n : Nat) : cutL l (some (n : Int)) none = l.drop n := by
  unfold cutL
  rw [HT.sIx_nat, HT.sIx_none]
  by_cases h : n ≤ l.length
  · rw [Nat.min_eq_left h, List.take_of_length_le (by simp)]
  · have h : l.length ≤ n := by omega
    rw [Nat.min_eq_right h, List.drop_of_length_le (Nat.le_refl _), List.drop_of_length_le h]
    simp
def nestC (E : List Int) (o : List Nat) (j k : Jt) : Option PV := if touch E j k && (btw o k.2.1 j != btw o k.2.2 j) then some (.tup [.str "nest", .int (j.1 : Nat), .int (k.1 : Nat)]) else none
theorem p_nest_fault {many : Int} {ends : List Int} {jv : List PV} {ks : List Key} {vs : List PV} {js : List Jt} {o : List Nat} (h1 : ∀ j ∈ js, j.2.1 ∈ o ∧ j.2.2 ∈ o ∧ j.1 < ends.length ∧ j.2.1 + 1 < ends.length) :
    d_nest_fault [laidP many ends jv ks vs, .lst (js.map jt), plP o] g = .ok ((js.zipIdx.findSome? fun x => (js.drop (x.2 + 1)).findSome? (nestC ends o x.1)).getD .non) g := by
  have h := loop_find (g := g) (gd := gdTup 2 (gdCons (gdName 3) (gdCons (gdName 4) gdNil))) (body := (dSeq (dFor (dIt (dSl pSl (dV 1) (dSome (dBin pPlus (dV 3) (dC (.int 1)))) dNo)) (gdName 5) (dSeq (dIf (dTr (dMeth "Laid" "touches" d_Laid_touches (dV 0) (dCons (dV 4) (dCons (dV 5) dNil)))) (dSeq (dIf (dCmp pNeB (dCall d_is_between (dCons (dV 2) (dCons (dIx (dV 5) (dC (.int 1))) (dCons (dV 4) dNil)))) (dCall d_is_between (dCons (dV 2) (dCons (dIx (dV 5) (dC (.int 2))) (dCons (dV 4) dNil))))) (dSeq (dRet (dTup (dCons (dC (.str "nest")) (dCons (dIx (dV 4) (dC (.int 0))) (dCons (dIx (dV 5) (dC (.int 0))) dNil))))) dNever) dSkip) dSkip) dSkip) dSkip)) dSkip)) (fun x : Jt × Nat => .tup [.int (x.2 : Nat), jt x.1])
    (fun σ => ∃ x y z, σ = [some (laidP many ends jv ks vs), some (.lst (js.map jt)), some (plP o), x, y, z]) (fun x => (js.drop (x.2 + 1)).findSome? (nestC ends o x.1)) js.zipIdx (fun x hx σ => by
      rintro ⟨x1, x2, x3, rfl⟩
      refine ⟨_, rfl, ?_⟩
      have hj : x.1 ∈ js := by
        have := List.mem_map_of_mem (f := Prod.fst) hx
        simpa using this
      have hin := loop_find (g := g) (gd := gdName 5) (body := (dSeq (dIf (dTr (dMeth "Laid" "touches" d_Laid_touches (dV 0) (dCons (dV 4) (dCons (dV 5) dNil)))) (dSeq (dIf (dCmp pNeB (dCall d_is_between (dCons (dV 2) (dCons (dIx (dV 5) (dC (.int 1))) (dCons (dV 4) dNil)))) (dCall d_is_between (dCons (dV 2) (dCons (dIx (dV 5) (dC (.int 2))) (dCons (dV 4) dNil))))) (dSeq (dRet (dTup (dCons (dC (.str "nest")) (dCons (dIx (dV 4) (dC (.int 0))) (dCons (dIx (dV 5) (dC (.int 0))) dNil))))) dNever) dSkip) dSkip) dSkip) dSkip)) jt
        (fun σ => ∃ z, σ = [some (laidP many ends jv ks vs), some (.lst (js.map jt)), some (plP o), some (.int (x.2 : Nat)), some (jt x.1), z]) (nestC ends o x.1) (js.drop (x.2 + 1)) (fun k hk σ => by
          rintro ⟨z, rfl⟩
          refine ⟨_, rfl, ?_⟩
          have hk := List.mem_of_mem_drop hk
          obtain ⟨a1, a2, a3, a4⟩ := h1 x.1 hj
          obtain ⟨b1, b2, b3, b4⟩ := h1 k hk
          have e1 := p_touches (g := g) (many := many) (js := jv) (ks := ks) (vs := vs) a3 a4 b3 b4
          have e2 := p_is_between (g := g) b1 a1 a2
          have e3 := p_is_between (g := g) b2 a1 a2
          unfold nestC
          by_cases c1 : touch ends x.1 k = true
          · by_cases c2 : (btw o k.2.1 x.1 != btw o k.2.2 x.1) = true
            · simp [e1, e2, e3, c1, c2]
            · simp [e1, e2, e3, c1, c2]
          · simp [e1, c1]) _ ⟨x3, rfl⟩
      have ec : cutL (js.map jt) (some ((x.2 : Int) + 1)) none = (js.drop (x.2 + 1)).map jt := by
        rw [List.map_drop, ← cut_from]; rfl
      cases hc : (js.drop (x.2 + 1)).findSome? (nestC ends o x.1) with
      | some r =>
        rw [hc] at hin
        simp only at hin
        simp [-List.map_drop, gdTup, gdCons, gdNil, ec, hin]
      | none =>
        rw [hc] at hin
        obtain ⟨σ2, hin, z, rfl⟩ := hin
        refine ⟨_, ?_, some (.int (x.2 : Nat)), some (jt x.1), z, rfl⟩
        simp [-List.map_drop, gdTup, gdCons, gdNil, ec, hin]) _ ⟨none, none, none, rfl⟩
  have ee : enumP (js.map jt) = js.zipIdx.map fun x => .tup [.int (x.2 : Nat), jt x.1] := enumP_map _ js
  cases hc : js.zipIdx.findSome? fun x => (js.drop (x.2 + 1)).findSome? (nestC ends o x.1) with
  | some r =>
    rw [hc] at h
    simp only at h
    simp [d_nest_fault, b_nest_fault, ee, h]
  | none =>
    rw [hc] at h
    obtain ⟨σ2, h, x, y, z, rfl⟩ := h
    simp [d_nest_fault, b_nest_fault, ee, h]
def faultP (E : List Int) (sg : Jt → Lt) (js : List Jt) (n : Nat) (o : List Nat) : PV := match js.findSome? (toldC sg o) with
  | some r => r
  | none => match js.findSome? (fun j => (List.range n).findSome? (passC E o j)) with
    | some r => r
    | none => (js.zipIdx.findSome? fun x => (js.drop (x.2 + 1)).findSome? (nestC E o x.1)).getD .non
/-- a law's strip is laid so -/
structure Laidly (E : List Int) (sg : Jt → Lt) (js : List Jt) (n : Nat) (o : List Nat) (ks : List Key) (vs : List PV) : Prop where
  nd : o.Nodup
  ln : o.length ≤ 1000
  nn : n ≤ 1000
  lj : ∀ j ∈ js, j.2.1 ∈ o ∧ j.2.2 ∈ o ∧ j.1 < E.length ∧ j.2.1 + 1 < E.length
  sg : ∀ j ∈ js, valP ks vs (kN j.1) = some (.str (ltS (sg j)))
  seg : ∀ s < n, s ∈ o ∧ s + 1 < E.length
theorem toldC_some {sg : Jt → Lt} {o : List Nat} {js : List Jt} {r : PV} (h : js.findSome? (toldC sg o) = some r) : isNonP r = false := by
  obtain ⟨j, _, e⟩ := List.exists_of_findSome?_eq_some h
  unfold toldC at e
  split at e <;> cases e
  rfl
theorem passC_some {E : List Int} {o : List Nat} {js : List Jt} {n : Nat} {r : PV} (h : js.findSome? (fun j => (List.range n).findSome? (passC E o j)) = some r) : isNonP r = false := by
  obtain ⟨j, _, e⟩ := List.exists_of_findSome?_eq_some h
  obtain ⟨s, _, e⟩ := List.exists_of_findSome?_eq_some e
  unfold passC at e
  split at e <;> cases e
  rfl
theorem p_fault_among {many : Int} {E : List Int} {jv : List PV} {ks : List Key} {vs : List PV} {js : List Jt} {n : Nat} {o : List Nat} {sg : Jt → Lt} (L : Laidly E sg js n o ks vs) :
    d_fault_among [laidP many E jv ks vs, .lst (js.map jt), nv (List.range n), nv o] g = .ok (faultP E sg js n o) g := by
  have e1 := p_places_in (g := g) L.nd L.ln
  have e2 := p_told_fault (g := g) (many := many) (ends := E) (jv := jv) (fun j hj => ⟨(L.lj j hj).1, (L.lj j hj).2.1⟩) L.sg
  have e3 := p_pass_fault (g := g) (many := many) (ends := E) (jv := jv) (ks := ks) (vs := vs) (fun j hj => ⟨(L.lj j hj).1, (L.lj j hj).2.1, (L.lj j hj).2.2.1⟩) L.seg
  have e4 := p_nest_fault (g := g) (many := many) (ends := E) (jv := jv) (ks := ks) (vs := vs) L.lj
  unfold faultP
  cases h1 : js.findSome? (toldC sg o) with
  | some r =>
    rw [h1] at e2
    have := toldC_some h1
    simp [d_fault_among, b_fault_among, e1, e2, this]
  | none =>
    rw [h1] at e2
    cases h2 : js.findSome? (fun j => (List.range n).findSome? (passC E o j)) with
    | some r =>
      rw [h2] at e3
      have := passC_some h2
      simp [d_fault_among, b_fault_among, e1, e2, e3, this]
    | none =>
      rw [h2] at e3
      simp [d_fault_among, b_fault_among, e1, e2, e3, e4]
theorem rgOk_nat {n : Nat} (h : n ≤ 1000) : rgOk 0 (n : Int) := ⟨by decide, by decide, by omega, by omega⟩
def lr1 (n : Int) (g : Rg) : Res PV := if rgOk 0 n then .ok (.lst (rngP 0 (n - 0).toNat)) g else .stuck
@[simp] theorem x_dLR1 (d : Den) (σ : Sl) : dLR1 d σ g = (d σ g).bind fun p g => match p with | .int n => lr1 n g | _ => .stuck := Eq.trans rfl rfl
theorem lr1_nat {n : Nat} (hn : n ≤ 1000) : lr1 n g = .ok (nv (List.range n)) g := by
  unfold lr1
  rw [if_pos (rgOk_nat hn)]
  rw [show ((n : Int) - 0).toNat = n by omega, rngP_map]
theorem p_order_fault {E : List Int} {ks : List Key} {vs : List PV} {js : List Jt} {n : Nat} {o : List Nat} {sg : Jt → Lt} (L : Laidly E sg js n o ks vs) :
    d_order_fault [laidP (n : Nat) E (js.map jt) ks vs, nv o] g = .ok (faultP E sg js n o) g := by
  have e := p_fault_among (g := g) (many := (n : Nat)) (jv := js.map jt) L
  simp [d_order_fault, b_order_fault, lr1_nat L.nn, e]
/-! ### strips -/
def nStrip : List Str := ["_lengths", "_creases"]
abbrev lv (c : List Lt) : PV := .lst (c.map fun x => .str (ltS x))
abbrev stripP (ls : List Nat) (cs : List Lt) : PV := .ins "Strip" nStrip [nv ls, lv cs]
@[simp] theorem f_lengths (a b : PV) : fldP nStrip [a, b] "_lengths" = some a := by rfl
@[simp] theorem f_creases (a b : PV) : fldP nStrip [a, b] "_creases" = some b := by rfl
@[simp] theorem l_lengths (a b : PV) : (nStrip.zip [a, b]).lookup ("lengths" : Str) = none := by rfl
@[simp] theorem l_creases (a b : PV) : (nStrip.zip [a, b]).lookup ("creases" : Str) = none := by rfl
@[simp] theorem p_lengths (ls : List Nat) (cs : List Lt) : d_Strip_lengths [stripP ls cs] g = .ok (nv ls) g := by simp [d_Strip_lengths, b_Strip_lengths]
@[simp] theorem p_creases (ls : List Nat) (cs : List Lt) : d_Strip_creases [stripP ls cs] g = .ok (lv cs) g := by simp [d_Strip_creases, b_Strip_creases]
@[simp] theorem p_need_strip (ls : List Nat) (cs : List Lt) : d_need_strip [stripP ls cs] g = .ok .non g := by simp [d_need_strip, b_need_strip]
@[simp] theorem p_is_length (n : Nat) : d_is_length [.int (n : Nat)] g = .ok (.bl (decide (0 < n))) g := by simp [d_is_length, b_is_length]
theorem p_is_letter (c : Lt) : d_is_letter [.str (ltS c)] g = .ok (.bl true) g := by
  have e : pInB (.str (ltS c)) (.tup [.str "m", .str "v", .str "?"]) = some true := by cases c <;> decide +kernel
  simp [d_is_letter, b_is_letter, e]
theorem p_wrong_lengths {ls : List Nat} (h0 : ls ≠ []) (h1 : ∀ l ∈ ls, 0 < l) : d_wrong_lengths [nv ls] g = .ok .non g := by
  have ee : enumP (ls.map fun (i : Nat) => PV.int (i : Nat)) = ls.zipIdx.map fun x => .tup [.int (x.2 : Nat), .int (x.1 : Nat)] := enumP_map _ ls
  have h := loop_find (g := g) (gd := gdTup 2 (gdCons (gdName 1) (gdCons (gdName 2) gdNil))) (body := (dSeq (dIf (dNotT (dTr (dCall d_is_length (dCons (dV 2) dNil)))) (dSeq (dRet (dV 1)) dNever) dSkip) dSkip)) (fun x : Nat × Nat => .tup [.int (x.2 : Nat), .int (x.1 : Nat)])
    (fun σ => ∃ x y, σ = [some (nv ls), x, y]) (fun _ => none) ls.zipIdx (fun x hx σ => by
      rintro ⟨x1, x2, rfl⟩
      have hj : x.1 ∈ ls := by
        have := List.mem_map_of_mem (f := Prod.fst) hx
        simpa using this
      refine ⟨_, rfl, _, ?_, some (.int (x.2 : Nat)), some (.int (x.1 : Nat)), rfl⟩
      simp [gdTup, gdCons, gdNil, h1 x.1 hj]) [some (nv ls), none, none] ⟨none, none, rfl⟩
  have hn : ls.zipIdx.findSome? (fun _ => (none : Option PV)) = none := by simp
  rw [hn] at h
  obtain ⟨σ2, h, x, y, rfl⟩ := h
  have hl : ¬ (ls.length : Int) = 0 := by
    have := List.length_pos_iff.mpr h0
    omega
  simp [d_wrong_lengths, b_wrong_lengths, ee, h, h0]
theorem p_wrong_letters {cs : List Lt} {n : Nat} (hn : cs.length = n) : d_wrong_letters [.int (n : Nat), lv cs] g = .ok .non g := by
  have ee : enumP (cs.map fun x => PV.str (ltS x)) = cs.zipIdx.map fun x => .tup [.int (x.2 : Nat), .str (ltS x.1)] := enumP_map _ cs
  have h := loop_find (g := g) (gd := gdTup 2 (gdCons (gdName 2) (gdCons (gdName 3) gdNil))) (body := (dSeq (dIf (dOrT (dCmp pEqB (dV 2) (dV 0)) (dNotT (dTr (dCall d_is_letter (dCons (dV 3) dNil))))) (dSeq (dRet (dV 2)) dNever) dSkip) dSkip)) (fun x : Lt × Nat => .tup [.int (x.2 : Nat), .str (ltS x.1)])
    (fun σ => ∃ x y, σ = [some (.int (n : Nat)), some (lv cs), x, y]) (fun _ => none) cs.zipIdx (fun x hx σ => by
      rintro ⟨x1, x2, rfl⟩
      have hj : x.2 < n := by
        have := List.snd_lt_of_mem_zipIdx hx
        omega
      refine ⟨_, rfl, _, ?_, some (.int (x.2 : Nat)), some (.str (ltS x.1)), rfl⟩
      have hne : ¬ (x.2 : Int) = (n : Int) := by omega
      simp [gdTup, gdCons, gdNil, hne, p_is_letter]) [some (.int (n : Nat)), some (lv cs), none, none] ⟨none, none, rfl⟩
  have hn0 : cs.zipIdx.findSome? (fun _ => (none : Option PV)) = none := by simp
  rw [hn0] at h
  obtain ⟨σ2, h, x, y, rfl⟩ := h
  simp [d_wrong_letters, b_wrong_letters, ee, h, hn]
@[simp] theorem x_dInit (n : Nat) (k : Str) (d : DenS) (ps : List PV) : dInit n k d ps g = match d (startP n (.ins k [] [] :: ps)) g with
  | .next σ g => (match σ[(0 : Nat)]? with | some (some p) => .ok p g | _ => .stuck)
  | _ => .stuck := Eq.trans rfl rfl
@[simp] theorem x_dFldS (i : Nat) (k f : Str) (d : Den) (σ : Sl) : dFldS i k f d σ g = onIns i k σ fun ns ps => (d σ g).bindS fun p g => if ns.length < 1000 then .next (σ.set i (some (.ins k (putNs ns f) (putPs ns ps f p)))) g else .stuck := Eq.trans rfl rfl
@[simp] theorem x_onIns (i : Nat) (k : Str) (σ : Sl) (f : List Str → List PV → SRes) : onIns i k σ f = match σ[i]? with
  | some (some (.ins k' ns ps)) => if k' = k then f ns ps else .stuck
  | _ => .stuck := Eq.trans rfl rfl
@[simp] theorem put_s1 : putNs [] "_lengths" = (["_lengths"] : List Str) := rfl
@[simp] theorem put_s2 : putNs ["_lengths"] "_creases" = nStrip := rfl
@[simp] theorem putp_s1 (p : PV) : putPs [] [] "_lengths" p = [p] := rfl
@[simp] theorem putp_s2 (p q : PV) : putPs ["_lengths"] [p] "_creases" q = [p, q] := rfl
theorem p_Strip_init {ls : List Nat} {cs : List Lt} (h0 : ls ≠ []) (h1 : ∀ l ∈ ls, 0 < l) (h2 : cs.length + 1 = ls.length) : d_Strip_init__ [nv ls, lv cs] g = .ok (stripP ls cs) g := by
  have e1 := p_wrong_lengths (g := g) h0 h1
  have e2 := p_wrong_letters (g := g) (cs := cs) (n := cs.length) rfl
  have e3 : (ls.length : Int) - 1 = (cs.length : Nat) := by omega
  simp [d_Strip_init__, b_Strip_init__, e1, e2, e3]
/-! ### is it an order -/
/-- all segments once -/
def isOrd (n : Nat) (o : List Nat) : Bool := decide (o.length = n) && decide (sortI (o.map Int.ofNat) = (List.range n).map Int.ofNat)
theorem o_sortN (o : List Nat) : oSort [nv o] = some (.lst ((sortI (o.map fun (i : Nat) => (i : Int))).map .int)) := by
  have e : ∀ o : List Nat, intsP (o.map fun (i : Nat) => PV.int (i : Nat)) = some (o.map fun (i : Nat) => (i : Int)) := fun o => by
    induction o with
    | nil => rfl
    | cons a o ih => simp [intsP, ih]
  simp [oSort, por, oSortI, e]
theorem bls_mapF {α : Type} (l : List α) (f : α → Bool) : blsP (l.map fun x => .bl (f x)) = some (l.map f) := by
  induction l with
  | nil => rfl
  | cons a l ih => simp [blsP, ih]
theorem o_eqLN (l : List Int) (m : List Nat) : pEqB (.lst (l.map .int)) (nv m) = some (decide (l = m.map fun (i : Nat) => (i : Int))) := by
  rw [← o_eqLI, List.map_map]
  rfl
theorem p_is_order_of {n : Nat} {o : List Nat} (hn : n ≤ 1000) (ho : o.length ≤ 1000) : d_is_order_of [.int (n : Nat), nv o] g = .ok (.bl (decide (o.length = n) && decide (sortI (o.map fun (i : Nat) => (i : Int)) = (List.range n).map fun (i : Nat) => (i : Int)))) g := by
  have hc := compL_all (g := g) (gd := gdName 2) (de := dCall d_is_number (dCons (dV 2) dNil)) (σ := [some (.int (n : Nat)), some (nv o), none]) (fun (i : Nat) => PV.int (i : Nat)) (fun _ => .bl true) o (fun a _ => ⟨_, rfl, by simp⟩)
  have hb : blsP (o.map fun _ => PV.bl true) = some (o.map fun _ => true) := bls_mapF o fun _ => true
  have ha : oAll [.lst (o.map fun _ => PV.bl true)] = some (.bl true) := by simp [oAll, hb]
  have hs : o.length ≤ sizeLine := Nat.le_trans ho (by decide)
  by_cases h : (o.length : Int) = (n : Int)
  · have h' : o.length = n := by omega
    subst h'
    simp [d_is_order_of, b_is_order_of, wipeP, hs, hc, ha, o_sortN, lr1_nat hn, o_eqLN]
  · have h' : ¬ o.length = n := by omega
    simp [d_is_order_of, b_is_order_of, wipeP, hs, hc, ha, h, h']
end
end Tr

namespace Tr
open PySem PySem.Spec PyProof.Rows L2
section
variable {g : Rg}
/-! ### a strip laid -/
def endsF (p : Nat) (e : Int) : List Nat → List Int
  | [] => []
  | l :: r => (if p % 2 = 0 then e + l else e - l) :: endsF (p + 1) (if p % 2 = 0 then e + l else e - l) r
def endsOf (ls : List Nat) : List Int := 0 :: endsF 0 0 ls
theorem endsF_len : ∀ (p : Nat) (e : Int) (r : List Nat), (endsF p e r).length = r.length
  | _, _, [] => rfl
  | p, e, l :: r => by simp [endsF, endsF_len]
theorem endsOf_len (ls : List Nat) : (endsOf ls).length = ls.length + 1 := by simp [endsOf, endsF_len]
@[simp] theorem f_ends2 (a b : PV) : fldP ["many", "ends"] [a, b] "ends" = some b := by rfl
theorem loopE_ends {n : Int} {a b c d : Option PV} : ∀ (r : List Nat) (p : Nat) (E : List Int) (e : Int) (x y z : Option PV), E.length = p + 1 → E[p]? = some e → (p + r.length ≤ 1000) →
    ∃ x' y', loopE "Laid" "many" "ends" n (gdTup 2 (gdCons (gdName 5) (gdCons (gdName 6) gdNil))) (dBin pPlus (dIx (dFld "Laid" "ends" (dV 0)) (dV 5)) (dIfE (dCmp pEqB (dBin pMod (dV 5) (dC (.int 2))) (dC (.int 0))) (dV 6) (dNeg (dV 6))))
      ((r.zipIdx p).map fun x => .tup [.int (x.2 : Nat), .int (x.1 : Nat)]) [none, a, b, c, d, x, y, z] (E.map .int) g = .next [some (.ins "Laid" ["many", "ends"] [.int n, .lst ((E ++ endsF p e r).map .int)]), a, b, c, d, x', y', z] g
  | [], p, E, e, x, y, z, h1, h2, h3 => ⟨x, y, by simp [loopE, endsF]⟩
  | l :: r, p, E, e, x, y, z, h1, h2, h3 => by
    have hE : atI (E.map PV.int) (p : Int) = some (.int e) := by rw [atI_nat, List.getElem?_map, h2]; rfl
    have hl : E.length < sizeLine := Nat.lt_of_lt_of_le (m := 1002) (by simp at h3; omega) (by decide)
    by_cases hp : p % 2 = 0
    · obtain ⟨x', y', ih⟩ := loopE_ends (n := n) (a := a) (b := b) (c := c) (d := d) r (p + 1) (E ++ [e + l]) (e + l) (some (.int (p : Nat))) (some (.int (l : Nat))) z (by simp [h1]) (by rw [List.getElem?_append_right (by omega), h1]; simp) (by simp at h3; omega)
      refine ⟨x', y', ?_⟩
      simp only [List.append_assoc, List.singleton_append] at ih
      simp only [endsF, hp, if_true]
      simp [loopE, gdTup, gdCons, gdNil, hE, hp, hl]
      simpa using ih
    · obtain ⟨x', y', ih⟩ := loopE_ends (n := n) (a := a) (b := b) (c := c) (d := d) r (p + 1) (E ++ [e - l]) (e - l) (some (.int (p : Nat))) (some (.int (l : Nat))) z (by simp [h1]) (by rw [List.getElem?_append_right (by omega), h1]; simp) (by simp at h3; omega)
      refine ⟨x', y', ?_⟩
      simp only [List.append_assoc, List.singleton_append] at ih
      simp only [endsF, hp, if_false]
      have e3 : e + -(l : Int) = e - l := by omega
      simp [loopE, gdTup, gdCons, gdNil, hE, hp, hl, e3]
      simpa using ih
/-- the joints of a strip -/
def jts (n : Nat) : List Jt := (List.range (n - 1)).map fun i => (i + 1, i, i + 1)
def sgK (n : Nat) : List Key := (List.range (n - 1)).map fun i => kN (i + 1)
abbrev laidOf (ls : List Nat) (cs : List Lt) : PV := laidP (ls.length : Nat) (endsOf ls) ((jts ls.length).map jt) (sgK ls.length) (cs.map fun x => .str (ltS x))
@[simp] theorem put_l1 : putNs [] "many" = (["many"] : List Str) := rfl
@[simp] theorem put_l2 : putNs ["many", "ends"] "joints" = (["many", "ends", "joints"] : List Str) := rfl
@[simp] theorem put_l3 : putNs ["many", "ends", "joints"] "signs" = nLaid := rfl
@[simp] theorem putp_l1 (p : PV) : putPs [] [] "many" p = [p] := rfl
@[simp] theorem putp_l2 (p q r : PV) : putPs ["many", "ends"] [p, q] "joints" r = [p, q, r] := rfl
@[simp] theorem putp_l3 (p q r s : PV) : putPs ["many", "ends", "joints"] [p, q, r] "signs" s = [p, q, r, s] := rfl
theorem rng1 (k : Nat) : rngP 1 k = (List.range k).map fun (i : Nat) => PV.int ((i : Int) + 1) := by
  unfold rngP
  congr 1
  funext i
  rw [Int.add_comm]
theorem p_Laid_init {ls : List Nat} {cs : List Lt} (h0 : ls ≠ []) (h2 : cs.length + 1 = ls.length) (hn : ls.length ≤ 1000) : d_Laid_init__ [nv ls, lv cs, .bl false] g = .ok (laidOf ls cs) g := by
  have ee : enumP (ls.map fun (i : Nat) => PV.int (i : Nat)) = (ls.zipIdx 0).map fun x => .tup [.int (x.2 : Nat), .int (x.1 : Nat)] := enumP_map _ ls
  obtain ⟨x, y, he⟩ := loopE_ends (g := g) (n := (ls.length : Nat)) (a := some (nv ls)) (b := some (lv cs)) (c := some (.bl false)) (d := some (.int (ls.length : Nat))) ls 0 [0] 0 none none none rfl rfl (by omega)
  have e1 := compL_all (g := g) (gd := gdName 7) (de := dTup (dCons (dV 7) (dCons (dBin pSub (dV 7) (dC (.int 1))) (dCons (dV 7) dNil)))) (σ := [some (.ins "Laid" ["many", "ends"] [.int (ls.length : Nat), .lst ((endsOf ls).map .int)]), some (nv ls), some (lv cs), some (.bl false), some (.int (ls.length : Nat)), x, y, none])
    (fun (i : Nat) => PV.int ((i : Int) + 1)) (fun i => jt (i + 1, i, i + 1)) (List.range (ls.length - 1)) (fun i _ => ⟨_, rfl, by simp⟩)
  have e2 := compD_new (g := g) (gd := gdName 7) (dk := dV 7) (dv := dIx (dV 2) (dBin pSub (dV 7) (dC (.int 1)))) (σ := [some (.ins "Laid" ["many", "ends", "joints"] [.int (ls.length : Nat), .lst ((endsOf ls).map .int), .lst ((jts ls.length).map jt)]), some (nv ls), some (lv cs), some (.bl false), some (.int (ls.length : Nat)), x, y, none])
    (fun (i : Nat) => PV.int ((i : Int) + 1)) (fun i => kN (i + 1)) (fun i => .str (ltS (cs.getD i .q))) (List.range (ls.length - 1)) [] [] rfl (fun i hi => by
      have hi := List.mem_range.mp hi
      have e : atI (cs.map fun x => PV.str (ltS x)) (i : Int) = some (.str (ltS (cs.getD i .q))) := by
        have hi' : i < cs.length := by omega
        rw [atI_nat, List.getElem?_map, List.getElem?_eq_getElem hi']
        simp [List.getD, hi']
      refine ⟨_, .int ((i : Int) + 1), rfl, rfl, rfl, ?_⟩
      simp [e]) (by
      rw [List.nil_append]
      refine List.Pairwise.map _ (fun a b h e => h ?_) List.nodup_range
      have := Int.ofNat.inj (Sum.inl.inj e)
      omega)
  have ev : (List.range (ls.length - 1)).map (fun i => PV.str (ltS (cs.getD i .q))) = cs.map fun x => .str (ltS x) := by
    apply List.ext_getElem?
    intro i
    rw [List.getElem?_map, List.getElem?_map]
    by_cases hi : i < cs.length
    · rw [List.getElem?_range (by omega), List.getElem?_eq_getElem hi]
      simp [List.getD, hi]
    · rw [List.getElem?_eq_none (by simp; omega), List.getElem?_eq_none (by omega)]
      rfl
  have ej : ((List.range (ls.length - 1)).map fun (i : Nat) => jt (i + 1, i, i + 1)) = (jts ls.length).map jt := by simp [jts]
  have es : ((List.range (ls.length - 1)).map fun (i : Nat) => kN (i + 1)) = sgK ls.length := rfl
  rw [ej] at e1
  rw [List.nil_append, List.nil_append, ev, es] at e2
  have er := rng1 (ls.length - 1)
  have hs : ls.length - 1 ≤ sizeLine := Nat.le_trans (by omega : ls.length - 1 ≤ 1000) (by decide)
  have h62 : (ls.length : Int) ≤ 1000 ∧ -1000 ≤ (ls.length : Int) := by omega
  have hcat : ([0] : List Int) ++ endsF 0 0 ls = endsOf ls := rfl
  simp only [hcat] at he
  have hE : dEnds "Laid" "many" "ends" (dLst (dCons (dC (.int 0)) dNil)) (dEnum (dCons (dV 1) dNil)) (gdTup 2 (gdCons (gdName 5) (gdCons (gdName 6) gdNil))) (dBin pPlus (dIx (dFld "Laid" "ends" (dV 0)) (dV 5)) (dIfE (dCmp pEqB (dBin pMod (dV 5) (dC (.int 2))) (dC (.int 0))) (dV 6) (dNeg (dV 6))))
      [some (.ins "Laid" ["many"] [.int (ls.length : Nat)]), some (nv ls), some (lv cs), some (.bl false), some (.int (ls.length : Nat)), none, none, none] g = .next [some (.ins "Laid" ["many", "ends"] [.int (ls.length : Nat), .lst ((endsOf ls).map .int)]), some (nv ls), some (lv cs), some (.bl false), some (.int (ls.length : Nat)), x, y, none] g := by
    rw [← he]
    simp [dEnds, ee]
  simp [d_Laid_init__, b_Laid_init__, hE, h62, er, hs, wipeP, e1, e2]
theorem p_laid_strip {ls : List Nat} {cs : List Lt} (h0 : ls ≠ []) (h2 : cs.length + 1 = ls.length) (hn : ls.length ≤ 1000) : d_laid_strip [stripP ls cs] g = .ok (laidOf ls cs) g := by
  have e := p_Laid_init (g := g) h0 h2 hn
  simp [d_laid_strip, b_laid_strip, e]
/-- an order of n segments -/
structure Ord (n : Nat) (o : List Nat) : Prop where
  perm : o.Perm (List.range n)
theorem Ord.len {n : Nat} {o : List Nat} (h : Ord n o) : o.length = n := by simpa using h.perm.length_eq
theorem Ord.nodup {n : Nat} {o : List Nat} (h : Ord n o) : o.Nodup := h.perm.nodup_iff.mpr List.nodup_range
theorem Ord.mem {n : Nat} {o : List Nat} (h : Ord n o) {s : Nat} : s ∈ o ↔ s < n := by rw [h.perm.mem_iff, List.mem_range]
theorem sort_of_perm {n : Nat} {o : List Nat} (h : Ord n o) : sortI (o.map fun (i : Nat) => (i : Int)) = (List.range n).map fun (i : Nat) => (i : Int) := by
  refine sorted_unique ((sortI_perm _).trans (h.perm.map _)) (sortI_sorted _) ?_
  refine List.Pairwise.map _ (fun a b h => ?_) (List.pairwise_lt_range)
  omega
theorem p_order {n : Nat} {o : List Nat} (h : Ord n o) (hn : n ≤ 1000) : d_is_order_of [.int (n : Nat), nv o] g = .ok (.bl true) g := by
  rw [p_is_order_of hn (by rw [h.len]; exact hn), sort_of_perm h, h.len]
  simp
theorem p_need_order {n : Nat} {o : List Nat} (h : Ord n o) (hn : n ≤ 1000) : d_need_order [.int (n : Nat), nv o] g = .ok .non g := by
  simp [d_need_order, b_need_order, p_order h hn]
/-- the letter at a joint -/
def sgOf (cs : List Lt) (j : Jt) : Lt := cs.getD (j.1 - 1) .q
theorem sg_at {cs : List Lt} {i : Nat} (h : i < cs.length) : valP (sgK (cs.length + 1)) (cs.map fun x => PV.str (ltS x)) (kN (i + 1)) = some (.str (ltS (cs.getD i .q))) := by
  have e : sgK (cs.length + 1) = ((List.range cs.length).map (· + 1)).map kN := by simp [sgK, List.map_map]
  have hi : ((List.range cs.length).map (· + 1)).idxOf (i + 1) = i := by
    have hk : ∀ (m a : Nat), m ≥ 1 → ∀ i, i < m → ((List.range' a m).map (· + 1)).idxOf (a + i + 1) = i := by
      intro m
      induction m with
      | zero => intro a h; omega
      | succ m ih =>
        intro a _ i hi
        rw [List.range'_succ, List.map_cons, List.idxOf_cons]
        by_cases hz : i = 0
        · subst hz; simp
        · obtain ⟨k, rfl⟩ : ∃ k, i = k + 1 := ⟨i - 1, by omega⟩
          have hne : (a + 1 == a + (k + 1) + 1) = false := by
            have : ¬ a + 1 = a + (k + 1) + 1 := by omega
            simpa using this
          have := ih (a + 1) (by omega) k (by omega)
          rw [show a + 1 + k + 1 = a + (k + 1) + 1 by omega] at this
          rw [hne, this]
          rfl
    have := hk cs.length 0 (by omega) i h
    rw [List.range_eq_range']
    simpa using this
  rw [e, valP_at (by simp; exact h) (by simp), hi, List.getElem?_map, List.getElem?_eq_getElem h]
  simp [List.getD, h]
theorem laidly {ls : List Nat} {cs : List Lt} {o : List Nat} (h2 : cs.length + 1 = ls.length) (hn : ls.length ≤ 1000) (ho : Ord ls.length o) : Laidly (endsOf ls) (sgOf cs) (jts ls.length) ls.length o (sgK ls.length) (cs.map fun x => .str (ltS x)) where
  nd := ho.nodup
  ln := by rw [ho.len]; exact hn
  nn := hn
  lj := fun j hj => by
    obtain ⟨i, hi, rfl⟩ := List.mem_map.mp hj
    have hi := List.mem_range.mp hi
    rw [ho.mem, ho.mem, endsOf_len]
    dsimp only
    omega
  sg := fun j hj => by
    obtain ⟨i, hi, rfl⟩ := List.mem_map.mp hj
    have hi := List.mem_range.mp hi
    rw [← h2]
    exact sg_at (by omega)
  seg := fun s hs => by rw [ho.mem, endsOf_len]; omega
def faultOf (ls : List Nat) (cs : List Lt) (o : List Nat) : PV := faultP (endsOf ls) (sgOf cs) (jts ls.length) ls.length o
theorem p_folding_fault {ls : List Nat} {cs : List Lt} {o : List Nat} (h0 : ls ≠ []) (h2 : cs.length + 1 = ls.length) (hn : ls.length ≤ 1000) (ho : Ord ls.length o) : d_folding_fault [stripP ls cs, nv o] g = .ok (faultOf ls cs o) g := by
  have e1 := p_laid_strip (g := g) h0 h2 hn
  have e2 : d_order_fault [laidOf ls cs, nv o] g = .ok (faultOf ls cs o) g := p_order_fault (g := g) (laidly h2 hn ho)
  have e3 := p_need_order (g := g) ho hn
  simp [d_folding_fault, b_folding_fault, e1, e2, e3]
def foldsB (ls : List Nat) (cs : List Lt) (o : List Nat) : Bool := isNonP (faultOf ls cs o)
theorem p_is_folding {ls : List Nat} {cs : List Lt} {o : List Nat} (h0 : ls ≠ []) (h2 : cs.length + 1 = ls.length) (hn : ls.length ≤ 1000) (ho : Ord ls.length o) : d_is_folding [stripP ls cs, nv o] g = .ok (.bl (foldsB ls cs o)) g := by
  have e := p_folding_fault (g := g) h0 h2 hn ho
  simp [d_is_folding, b_is_folding, e, foldsB]
end
end Tr

namespace Tr
open PySem PySem.Spec PyProof.Rows L2
theorem loop_foldN {α β : Type} {gd : DenG} {body : DenS} {g : Rg} (f : α → PV) (I : Nat → β → Sl → Prop) (s : β → α → β) : ∀ (l : List α) (k : Nat) (b : β), (∀ i a, l[i]? = some a → ∀ b σ, I (k + i) b σ → ∃ σ1 σ2, gd (f a) σ = some σ1 ∧ body σ1 g = .next σ2 g ∧ I (k + i + 1) (s b a) σ2) → ∀ σ, I k b σ →
    ∃ σ2, loopS gd body (l.map f) σ g = .next σ2 g ∧ I (k + l.length) (l.foldl s b) σ2
  | [], k, b, _, σ, i => ⟨σ, rfl, i⟩
  | a :: l, k, b, h, σ, i => by
    obtain ⟨σ1, σ2, h1, h2, i2⟩ := h 0 a (by simp) b σ i
    simp only [List.map_cons, loopS, h1, h2, List.foldl_cons]
    have := loop_foldN f I s l (k + 1) (s b a) (fun j c hc b σ z => by
      have := h (j + 1) c (by simpa using hc) b σ (by rw [show k + (j + 1) = k + 1 + j by omega]; exact z)
      rw [show k + (j + 1) = k + 1 + j by omega] at this
      exact this) σ2 i2
    rw [show k + 1 + l.length = k + (a :: l).length by simp; omega] at this
    exact this
section
variable {g : Rg}
def common (E : List Int) (s t : Nat) : Bool := decide (max (low E s) (low E t) < min (high E s) (high E t))
def rowP (E : List Int) (o : List Nat) (a : Nat × Nat) : List (Int × Int) := ((o.drop (a.2 + 1)).filter (common E a.1)).map fun (t : Nat) => ((a.1 : Int), (t : Int))
def stepP (E : List Int) (o : List Nat) (b : List (Int × Int)) (a : Nat × Nat) : List (Int × Int) := b ++ rowP E o a
def prs (E : List Int) (o : List Nat) : List (Int × Int) := o.zipIdx.foldl (stepP E o) []
theorem rowP_len {E : List Int} {o : List Nat} {a : Nat × Nat} : (rowP E o a).length ≤ o.length := by
  have h1 := List.length_filter_le (common E a.1) (o.drop (a.2 + 1))
  simp only [rowP, List.length_map]
  simp only [List.length_drop] at h1
  omega
theorem o_sortPr (l : List (Int × Int)) : oSort [.lst (l.map tup2)] = some (.lst ((sortPr l).map tup2)) := by
  have e : ∀ l : List (Int × Int), pairs2 (l.map tup2) = some l := fun l => by
    induction l with
    | nil => rfl
    | cons a l ih => simp [pairs2, tup2, ih]
  cases l with
  | nil => rfl
  | cons a l =>
    have e1 : oSortI [.lst ((a :: l).map tup2)] = none := rfl
    have e2 : oSortP [.lst ((a :: l).map tup2)] = some (.lst ((sortPr (a :: l)).map tup2)) := by simp only [oSortP, e, Option.map_some]
    simp only [oSort, por, e1, e2]
theorem p_pairs_over {many : Int} {E : List Int} {js : List PV} {ks : List Key} {vs : List PV} {o : List Nat} (ho : o.length ≤ 1000) (h : ∀ s ∈ o, s + 1 < E.length) : d_pairs_over [laidP many E js ks vs, nv o] g = .ok (.lst ((sortPr (prs E o)).map tup2)) g := by
  have ee : enumP (o.map fun (i : Nat) => PV.int (i : Nat)) = o.zipIdx.map fun x => .tup [.int (x.2 : Nat), .int (x.1 : Nat)] := enumP_map _ o
  obtain ⟨σ2, hl, x, y, z, hb, rfl⟩ := loop_foldN (g := g) (gd := gdTup 2 (gdCons (gdName 3) (gdCons (gdName 4) gdNil))) (body := dSeq (dExt 2 (dComp (dIt (dSl pSl (dV 1) (dSome (dBin pPlus (dV 3) (dC (.int 1)))) dNo)) [5] (gdName 5) (dTr (dMeth "Laid" "have_common" d_Laid_have_common (dV 0) (dCons (dV 4) (dCons (dV 5) dNil)))) (dTup (dCons (dV 4) (dCons (dV 5) dNil))))) dSkip)
    (fun x : Nat × Nat => .tup [.int (x.2 : Nat), .int (x.1 : Nat)]) (fun k (b : List (Int × Int)) σ => ∃ x y z, (b.length ≤ o.length * k) ∧ σ = [some (laidP many E js ks vs), some (nv o), some (.lst (b.map tup2)), x, y, z])
    (stepP E o) o.zipIdx 0 [] (fun i a hi b σ => by
      rintro ⟨x, y, z, hb, rfl⟩
      have ha := List.mem_of_getElem? hi
      have hi' : i < o.length := by have := (List.getElem?_eq_some_iff.mp hi).1; simpa using this
      have hs : a.1 ∈ o := by
        have := List.mem_map_of_mem (f := Prod.fst) ha
        simpa using this
      have ec : cutL (o.map fun (i : Nat) => PV.int (i : Nat)) (some ((a.2 : Int) + 1)) none = (o.drop (a.2 + 1)).map fun (i : Nat) => PV.int (i : Nat) := by
        rw [List.map_drop, ← cut_from]; rfl
      have hc := compL_map (g := g) (gd := gdName 5) (dt := dTr (dMeth "Laid" "have_common" d_Laid_have_common (dV 0) (dCons (dV 4) (dCons (dV 5) dNil)))) (de := dTup (dCons (dV 4) (dCons (dV 5) dNil)))
        (σ := [some (laidP many E js ks vs), some (nv o), some (.lst (b.map tup2)), some (.int (a.2 : Nat)), some (.int (a.1 : Nat)), none]) (fun (i : Nat) => PV.int (i : Nat)) (common E a.1) (fun t => tup2 ((a.1 : Int), (t : Int))) (o.drop (a.2 + 1)) (fun t ht => by
          have e := p_have_common (g := g) (many := many) (js := js) (ks := ks) (vs := vs) (h a.1 hs) (h t (List.mem_of_mem_drop ht))
          refine ⟨_, rfl, ?_, fun _ => ?_⟩
          · simp [e, common]
          · simp [tup2])
      have er : ((o.drop (a.2 + 1)).filter (common E a.1)).map (fun (t : Nat) => tup2 ((a.1 : Int), (t : Int))) = (rowP E o a).map tup2 := by simp only [rowP, List.map_map]; rfl
      rw [er] at hc
      have hl1 := rowP_len (E := E) (o := o) (a := a)
      have hs1 : o.length - (a.2 + 1) ≤ sizeLine := Nat.le_trans (by omega : o.length - (a.2 + 1) ≤ 1000) (by decide)
      have hm : o.length * i ≤ 1000 * 1000 := Nat.mul_le_mul ho (by omega)
      have hb' : b.length ≤ o.length * i := by simpa using hb
      have h2 : b.length + (rowP E o a).length ≤ sizeLine := Nat.le_trans (by omega : _ ≤ 1001000) (by decide)
      refine ⟨_, [some (laidP many E js ks vs), some (nv o), some (.lst ((stepP E o b a).map tup2)), some (.int (a.2 : Nat)), some (.int (a.1 : Nat)), z], rfl, ?_, _, _, _, ?_, rfl⟩
      · simp [-List.map_drop, gdTup, gdCons, gdNil, ec, hs1, wipeP, hc, h2, stepP]
      · simp only [stepP, List.length_append]
        have : o.length * (0 + i + 1) = o.length * i + o.length := by rw [Nat.zero_add, Nat.mul_succ]
        omega) [some (laidP many E js ks vs), some (nv o), some (.lst []), none, none, none] ⟨none, none, none, by simp, rfl⟩
  have e2 := o_sortPr (prs E o)
  simp only [prs] at e2 ⊢
  simp [d_pairs_over, b_pairs_over, ee, hl, e2]
end
end Tr

namespace Tr
open PySem PySem.Spec PyProof.Rows L2
section
variable {g : Rg}
theorem p_same_folding {ls : List Nat} {cs : List Lt} {o o' : List Nat} (h0 : ls ≠ []) (h2 : cs.length + 1 = ls.length) (hn : ls.length ≤ 1000) (ho : Ord ls.length o) (ho' : Ord ls.length o') : d_same_folding [stripP ls cs, nv o, nv o'] g = .ok (.bl (decide (sortPr (prs (endsOf ls) o) = sortPr (prs (endsOf ls) o')))) g := by
  have e1 := p_laid_strip (g := g) h0 h2 hn
  have e3 := p_need_order (g := g) ho hn
  have e4 := p_order (g := g) ho' hn
  have e5 := p_pairs_over (g := g) (many := (ls.length : Nat)) (E := endsOf ls) (js := (jts ls.length).map jt) (ks := sgK ls.length) (vs := cs.map fun x => .str (ltS x)) (o := o) (by rw [ho.len]; exact hn) (fun s hs => by rw [endsOf_len]; have := ho.mem.mp hs; omega)
  have e6 := p_pairs_over (g := g) (many := (ls.length : Nat)) (E := endsOf ls) (js := (jts ls.length).map jt) (ks := sgK ls.length) (vs := cs.map fun x => .str (ltS x)) (o := o') (by rw [ho'.len]; exact hn) (fun s hs => by rw [endsOf_len]; have := ho'.mem.mp hs; omega)
  simp [d_same_folding, b_same_folding, e1, e3, e4, e5, e6]
/-! ### the law's helpers -/
theorem p_pick {n : Int} (h1 : 0 < n) (h2 : n < 1000000) (h3 : g.cnt < 1000000000) : dPick [.rng, .int n] g = .ok (.int (pickR g n)) (pickG g n) := if_pos ⟨h1, h2, h3⟩
/-- a pick as a number -/
def pk (g : Rg) (n : Nat) : Nat := (pickR g n).toNat
theorem pk_lt {n : Nat} (h : 0 < n) : pk g n < n := by
  have h1 := pickR_lo (g := g) (n := n) (by omega)
  have h2 := pickR_hi (g := g) (n := n) (by omega)
  unfold pk
  omega
theorem p_pickN {n : Nat} (h1 : 0 < n) (h2 : n < 1000000) (h3 : g.cnt < 1000000000) : dPick [.rng, .int (n : Nat)] g = .ok (.int (pk g n : Nat)) (pickG g n) := by
  rw [p_pick (by omega) (by omega) h3]
  have h1 := pickR_lo (g := g) (n := n) (by omega)
  have e : ((pk g n : Nat) : Int) = pickR g n := by unfold pk; omega
  rw [e]
theorem p_law_one {items : List PV} (h1 : items ≠ []) (h2 : items.length < 1000000) (h3 : g.cnt < 1000000000) : ∃ x ∈ items, d_law_one [.rng, .lst items] g = .ok x (pickG g items.length) := by
  have hp : 0 < items.length := List.length_pos_iff.mpr h1
  have e := p_pickN (g := g) hp h2 h3
  have hk := pk_lt (g := g) hp
  refine ⟨items[pk g items.length], List.getElem_mem _, ?_⟩
  have e2 : atI items ((pk g items.length : Nat) : Int) = some items[pk g items.length] := by rw [atI_nat, List.getElem?_eq_getElem hk]
  simp [d_law_one, b_law_one, e, e2]
theorem p_law_same_bl (a b : Bool) : d_law_same [.bl a, .bl b] g = .ok (.bl (a == b)) g := by
  show dDef 5 .rep (b_law_same (d_law_same_ 19)) [.bl a, .bl b] g = _
  cases a <;> cases b <;> simp [b_law_same]
theorem erase_perm {α : Type} : ∀ {l : List α} {i : Nat} (h : i < l.length), (l[i] :: l.eraseIdx i).Perm l
  | [], i, h => by simp at h
  | a :: l, 0, h => by simp
  | a :: l, i + 1, h => by
    have h' : i < l.length := by simpa using h
    simp only [List.getElem_cons_succ, List.eraseIdx_cons_succ]
    exact (List.Perm.swap _ _ _).trans ((erase_perm h').cons a)
end
end Tr

namespace Tr
open PySem PySem.Spec PyProof.Rows L2
theorem x_dAppPop (i j : Nat) (d : Den) (σ : Sl) (g : Rg) {l m : List PV} {k : Nat} {y : PV} {g2 : Rg} (h1 : σ[i]? = some (some (.lst l))) (h2 : σ[j]? = some (some (.lst m))) (h3 : d σ g = .ok (.int (k : Nat)) g2) (h4 : k < m.length) (h5 : m.length ≤ 100000) (h6 : m[k]? = some y) (h7 : l.length < sizeLine) :
    dAppPop i j d σ g = .next ((σ.set j (some (.lst (m.eraseIdx k)))).set i (some (.lst (l ++ [y])))) g2 := by
  have hix : ixN m.length ((k : Nat) : Int) = some k := by
    unfold ixN
    have : ((k : Nat) : Int) < (m.length : Int) := by omega
    simp [this]
  have hr : -(2 ^ 63) ≤ ((k : Nat) : Int) ∧ ((k : Nat) : Int) < 2 ^ 63 := by
    have e : (2 : Int) ^ 63 = 9223372036854775808 := by decide
    rw [e]
    omega
  unfold dAppPop
  rw [onLst_lst h1, onLst_lst h2, h3, Res.bindS_ok]
  simp only []
  rw [if_pos hr]
  simp only [hix, h6]
  rw [if_pos h7]
/-- what comes of a list drawn out of another -/
theorem mixed_loop (b : Option PV) (k : Nat) : ∀ (left found : List PV) (x : Option PV) (g : Rg) (ks : List PV), left.length = k → found.length + k ≤ 100000 → g.cnt + k < 1000000000 → ks.length = k →
    ∃ res g2 x', loopS (gdName 4) (dSeq (dAppPop 3 2 (dCall d_law_pick (dCons (dV 0) (dCons (dCB oLen (dCons (dV 2) dNil)) dNil)))) dSkip) ks [some .rng, b, some (.lst left), some (.lst found), x] g = .next [some .rng, b, some (.lst []), some (.lst (found ++ res)), x'] g2 ∧ res.Perm left ∧ g2.cnt = g.cnt + k := by
  induction k with
  | zero =>
    intro left found x g ks h1 h2 h3 h4
    have h1 := List.length_eq_zero_iff.mp h1
    have h4 := List.length_eq_zero_iff.mp h4
    subst h1 h4
    exact ⟨[], g, x, by simp [loopS], .refl _, by omega⟩
  | succ k IH =>
    intro left found x g ks h1 h2 h3 h4
    obtain ⟨c, ks, rfl⟩ : ∃ c r, ks = c :: r := by
      cases ks with
      | nil => simp at h4
      | cons c r => exact ⟨c, r, rfl⟩
    have e := p_pickN (g := g) (n := left.length) (by omega) (by omega) (by omega)
    have hk := pk_lt (g := g) (n := left.length) (by omega)
    obtain ⟨res, g2, x', ih, hp, hc⟩ := IH (left.eraseIdx (pk g left.length)) (found ++ [left[pk g left.length]]) (some c) (pickG g left.length) ks (by rw [List.length_eraseIdx_of_lt hk]; omega) (by simp; omega) (by rw [pickG_cnt]; omega) (by simpa using h4)
    refine ⟨left[pk g left.length] :: res, g2, x', ?_, (hp.cons _).trans (erase_perm hk), by rw [hc, pickG_cnt]; omega⟩
    have hf : found.length < sizeLine := Nat.lt_of_lt_of_le (by omega : found.length < 100000) (by decide)
    have hb : dAppPop 3 2 (dCall d_law_pick (dCons (dV 0) (dCons (dCB oLen (dCons (dV 2) dNil)) dNil))) [some .rng, b, some (.lst left), some (.lst found), some c] g = .next [some .rng, b, some (.lst (left.eraseIdx (pk g left.length))), some (.lst (found ++ [left[pk g left.length]])), some c] (pickG g left.length) :=
      x_dAppPop 3 2 _ _ g (l := found) (m := left) (k := pk g left.length) rfl rfl (by simp [e]) hk (by omega) (List.getElem?_eq_getElem hk) hf
    simp only [loopS, x_gdName]
    simp [hb]
    simpa using ih
theorem p_law_mixed {items : List PV} {g : Rg} (h1 : items.length ≤ 1000) (h2 : g.cnt + items.length < 1000000000) : ∃ res g2, d_law_mixed [.rng, .lst items] g = .ok (.lst res) g2 ∧ res.Perm items ∧ g2.cnt = g.cnt + items.length := by
  obtain ⟨res, g2, x', h, hp, hc⟩ := mixed_loop (some (.lst items)) items.length items [] none g (rngP 0 items.length) rfl (by simp; omega) h2 (by simp [rngP])
  refine ⟨res, g2, ?_, hp, hc⟩
  have h62 : (items.length : Int) ≤ 1000 ∧ -1000 ≤ (items.length : Int) := by omega
  simp only [List.nil_append] at h
  simp [d_law_mixed, b_law_mixed, h62, h]
end Tr

namespace Tr
open PySem PySem.Spec PyProof.Rows L2
theorem cut_to {α : Type} (l : List α) (n : Nat) : cutL l none (some (n : Int)) = l.take n := by
  unfold cutL
  rw [HT.sIx_nat, HT.sIx_none]
  simp only [List.drop_zero, Nat.sub_zero]
  by_cases h : n ≤ l.length
  · rw [Nat.min_eq_left h]
  · have h : l.length ≤ n := by omega
    rw [Nat.min_eq_right h, List.take_of_length_le (Nat.le_refl _), List.take_of_length_le h]
section
variable {g : Rg}
/-- a segment put in at each place -/
def putIn (s : Nat) (o : List Nat) : List (List Nat) := (List.range (o.length + 1)).map fun p => o.take p ++ [s] ++ o.drop p
def growO (found : List (List Nat)) (s : Nat) : List (List Nat) := found.foldl (fun b o => b ++ putIn s o) []
def ordersN (n : Nat) : List (List Nat) := (List.range n).foldl growO [[]]
theorem putIn_len {s : Nat} {o : List Nat} : (putIn s o).length = o.length + 1 := by simp [putIn]
theorem putIn_mem {s : Nat} {o q : List Nat} (h : q ∈ putIn s o) : q.length = o.length + 1 := by
  obtain ⟨p, hp, rfl⟩ := List.mem_map.mp h
  have := List.mem_range.mp hp
  simp only [List.length_append, List.length_take, List.length_drop, List.length_singleton]
  omega
theorem fold_mem {s : Nat} : ∀ (l : List (List Nat)) (b : List (List Nat)) {q : List Nat}, q ∈ l.foldl (fun b o => b ++ putIn s o) b → q ∈ b ∨ ∃ o ∈ l, q ∈ putIn s o
  | [], b, q, h => .inl h
  | o :: l, b, q, h => by
    rcases fold_mem l (b ++ putIn s o) h with h | ⟨o', ho, h⟩
    · rcases List.mem_append.mp h with h | h
      · exact .inl h
      · exact .inr ⟨o, by simp, h⟩
    · exact .inr ⟨o', by simp [ho], h⟩
theorem p_law_orders {n : Nat} (hn : n ≤ 7) : d_law_orders [.int (n : Nat)] g = .ok (.lst ((ordersN n).map nv)) g := by
  obtain ⟨σ2, hl, x, y, z, w, hb, hm, rfl⟩ := loop_foldN (g := g) (gd := gdName 2) (body := (dSeq (dSetW 3 (dLst dNil)) (dSeq (dFor (dIt (dV 1)) (gdName 4) (dSeq (dExt 3 (dComp (dRng1 (dCons (dBin pPlus (dCB oLen (dCons (dV 4) dNil)) (dC (.int 1))) dNil)) [5] (gdName 5) dYes (dBin pPlus (dBin pPlus (dSl pSl (dV 4) dNo (dSome (dV 5))) (dLst (dCons (dV 2) dNil))) (dSl pSl (dV 4) (dSome (dV 5)) dNo)))) dSkip)) (dSeq (dSet 1 (dV 3)) dSkip))))
    (fun (i : Nat) => .int (i : Nat)) (fun k (b : List (List Nat)) σ => ∃ x y z w, b.length ≤ 8 ^ k ∧ (∀ o ∈ b, o.length = k) ∧ σ = [some (.int (n : Nat)), some (.lst (b.map nv)), x, y, z, w])
    growO (List.range n) 0 [[]] (fun i s hi b σ => by
      rintro ⟨x, y, z, w, hb, hm, rfl⟩
      have hi' : i < n := by have := (List.getElem?_eq_some_iff.mp hi).1; simpa using this
      rw [Nat.zero_add] at hb hm ⊢
      obtain ⟨σ3, hin, x3, y3, hb3, rfl⟩ := loop_foldN (g := g) (gd := gdName 4) (body := (dSeq (dExt 3 (dComp (dRng1 (dCons (dBin pPlus (dCB oLen (dCons (dV 4) dNil)) (dC (.int 1))) dNil)) [5] (gdName 5) dYes (dBin pPlus (dBin pPlus (dSl pSl (dV 4) dNo (dSome (dV 5))) (dLst (dCons (dV 2) dNil))) (dSl pSl (dV 4) (dSome (dV 5)) dNo)))) dSkip))
        nv (fun k (c : List (List Nat)) σ => ∃ x y, c.length ≤ 8 * k ∧ σ = [some (.int (n : Nat)), some (.lst (b.map nv)), some (.int (s : Nat)), some (.lst (c.map nv)), x, y])
        (fun b o => b ++ putIn s o) b 0 [] (fun j o hj c σ => by
          rintro ⟨x, y, hc, rfl⟩
          have ho : o.length = i := hm o (List.mem_of_getElem? hj)
          have hjb : j < b.length := (List.getElem?_eq_some_iff.mp hj).1
          rw [Nat.zero_add] at hc ⊢
          have hp8 : 8 ^ i ≤ 8 ^ 7 := Nat.pow_le_pow_right (by decide) (by omega)
          have hp8' : (8 : Nat) ^ 7 = 2097152 := by decide
          have h2 : c.length + (putIn s o).length ≤ sizeLine := Nat.le_trans (by rw [putIn_len]; omega : _ ≤ 16777216) (by decide)
          have hcc := compL_all (g := g) (gd := gdName 5) (de := (dBin pPlus (dBin pPlus (dSl pSl (dV 4) dNo (dSome (dV 5))) (dLst (dCons (dV 2) dNil))) (dSl pSl (dV 4) (dSome (dV 5)) dNo)))
            (σ := [some (.int (n : Nat)), some (.lst (b.map nv)), some (.int (s : Nat)), some (.lst (c.map nv)), some (nv o), none]) (fun (i : Nat) => PV.int (i : Nat)) (fun p => nv (o.take p ++ [s] ++ o.drop p)) (List.range (o.length + 1)) (fun p hp => by
              have hp := List.mem_range.mp hp
              have s1 : (o.take p).length + 1 ≤ sizeLine := Nat.le_trans (by rw [List.length_take]; omega : _ ≤ 1000) (by decide)
              have s2 : (o.take p).length + 1 + (o.drop p).length ≤ sizeLine := Nat.le_trans (by rw [List.length_take, List.length_drop]; omega : _ ≤ 1000) (by decide)
              have c1 : cutL (o.map fun (i : Nat) => PV.int (i : Nat)) none (some (p : Int)) = (o.take p).map fun (i : Nat) => PV.int (i : Nat) := by rw [cut_to, List.map_take]
              have c2 : cutL (o.map fun (i : Nat) => PV.int (i : Nat)) (some (p : Int)) none = (o.drop p).map fun (i : Nat) => PV.int (i : Nat) := by rw [cut_from, List.map_drop]
              refine ⟨_, rfl, ?_⟩
              simp [-List.map_take, -List.map_drop, c1, c2, -List.length_take, -List.length_drop, s1, s2])
          have er : (List.range (o.length + 1)).map (fun p => nv (o.take p ++ [s] ++ o.drop p)) = (putIn s o).map nv := by simp only [putIn, List.map_map]; rfl
          rw [er] at hcc
          have hr : rngP 0 (o.length + 1) = (List.range (o.length + 1)).map fun (i : Nat) => PV.int (i : Nat) := rngP_map _
          have hs1 : o.length + 1 ≤ sizeLine := Nat.le_trans (by omega : _ ≤ 1000) (by decide)
          have h62 : ((o.length : Int) + 1) ≤ 1000 ∧ -1000 ≤ ((o.length : Int) + 1) := by omega
          have ht : ((o.length : Int) + 1).toNat = o.length + 1 := by omega
          refine ⟨_, [some (.int (n : Nat)), some (.lst (b.map nv)), some (.int (s : Nat)), some (.lst ((c ++ putIn s o).map nv)), some (nv o), y], rfl, ?_, _, _, ?_, rfl⟩
          · simp [h62, ht, hr, hs1, wipeP, hcc, h2]
          · rw [List.length_append, putIn_len]; omega) [some (.int (n : Nat)), some (.lst (b.map nv)), some (.int (s : Nat)), some (.lst []), z, w] ⟨z, w, by simp, rfl⟩
      refine ⟨_, [some (.int (n : Nat)), some (.lst ((growO b s).map nv)), some (.int (s : Nat)), some (.lst ((growO b s).map nv)), x3, y3], rfl, ?_, _, _, _, _, ?_, ?_, rfl⟩
      · simp [hin, growO]
      · have : (growO b s).length ≤ 8 * (0 + b.length) := hb3
        rw [Nat.pow_succ]
        omega
      · intro q hq
        rcases fold_mem b [] hq with h | ⟨o, ho, h⟩
        · cases h
        · rw [putIn_mem h, hm o ho]) [some (.int (n : Nat)), some (.lst [nv []]), none, none, none, none] ⟨none, none, none, none, by simp, by simp, rfl⟩
  have h62 : (n : Int) ≤ 1000 ∧ -1000 ≤ (n : Int) := by omega
  have hr : rngP 0 n = (List.range n).map fun (i : Nat) => PV.int (i : Nat) := rngP_map _
  rw [show nv [] = PV.lst [] from rfl] at hl
  simp [d_law_orders, b_law_orders, h62, hr, hl, ordersN]
end
end Tr

namespace Tr
open PySem PySem.Spec PyProof.Rows L2
/-! ### rows of stamps -/
theorem endsF_rep (L : Nat) : ∀ (m p : Nat) (e : Int), e = (if p % 2 = 0 then 0 else (L : Int)) → ∀ k, k < m → (endsF p e (List.replicate m L)).getD k 0 = if (p + k + 1) % 2 = 0 then 0 else (L : Int)
  | 0, p, e, he, k, hk => by omega
  | m + 1, p, e, he, k, hk => by
    have h1 : (if p % 2 = 0 then e + (L : Int) else e - (L : Int)) = (if (p + 1) % 2 = 0 then 0 else (L : Int)) := by
      subst he
      by_cases hp : p % 2 = 0
      · have : ¬ (p + 1) % 2 = 0 := by omega
        simp [hp, this]
      · have : (p + 1) % 2 = 0 := by omega
        simp [hp, this]
    rw [List.replicate_succ]
    simp only [endsF]
    cases k with
    | zero => simpa using h1
    | succ k =>
      have := endsF_rep L m (p + 1) _ h1 k (by omega)
      rw [show p + (k + 1) + 1 = p + 1 + k + 1 by omega]
      simpa using this
theorem sp_rep {L n k : Nat} (h : k ≤ n) : sp (endsOf (List.replicate n L)) k = if k % 2 = 0 then 0 else (L : Int) := by
  unfold sp endsOf
  cases k with
  | zero => rfl
  | succ k =>
    have := endsF_rep L n 0 0 rfl k (by omega)
    rw [Nat.zero_add] at this
    simpa using this
theorem low_rep {L n s : Nat} (h : s < n) : low (endsOf (List.replicate n L)) s = 0 := by
  unfold low
  rw [sp_rep (by omega), sp_rep (by omega)]
  by_cases hp : s % 2 = 0
  · have : ¬ (s + 1) % 2 = 0 := by omega
    simp [hp, this]; omega
  · have : (s + 1) % 2 = 0 := by omega
    simp [hp, this]; omega
theorem high_rep {L n s : Nat} (h : s < n) : high (endsOf (List.replicate n L)) s = (L : Int) := by
  unfold high
  rw [sp_rep (by omega), sp_rep (by omega)]
  by_cases hp : s % 2 = 0
  · have : ¬ (s + 1) % 2 = 0 := by omega
    simp [hp, this]
  · have : (s + 1) % 2 = 0 := by omega
    simp [hp, this]
def nestB (o : List Nat) (j k : Jt) : Bool := decide (j.1 % 2 = k.1 % 2) && (btw o k.2.1 j != btw o k.2.2 j)
def stampB (n : Nat) (o : List Nat) : Bool := (jts n).zipIdx.all fun x => ((jts n).drop (x.2 + 1)).all fun k => !nestB o x.1 k
theorem touch_rep {L n : Nat} (hL : 0 < L) {j k : Jt} (hj : j ∈ jts n) (hk : k ∈ jts n) : touch (endsOf (List.replicate n L)) j k = decide (j.1 % 2 = k.1 % 2) := by
  obtain ⟨a, ha, rfl⟩ := List.mem_map.mp hj
  obtain ⟨b, hb, rfl⟩ := List.mem_map.mp hk
  have ha := List.mem_range.mp ha
  have hb := List.mem_range.mp hb
  unfold touch isLeft
  dsimp only
  rw [high_rep (by omega), high_rep (by omega), sp_rep (by omega), sp_rep (by omega)]
  have hL' : ¬ (L : Int) = 0 := by omega
  have hL2 : ¬ (0 : Int) = (L : Int) := by omega
  by_cases h1 : (a + 1) % 2 = 0
  · by_cases h2 : (b + 1) % 2 = 0
    · simp [h1, h2]
    · simp [h1, h2, hL2]; omega
  · by_cases h2 : (b + 1) % 2 = 0
    · simp [h1, h2, hL']; omega
    · have : (a + 1) % 2 = (b + 1) % 2 := by omega
      simp [h1, h2, this]
theorem nestC_isNone {E : List Int} {o : List Nat} {j k : Jt} : (nestC E o j k).isNone = !(touch E j k && (btw o k.2.1 j != btw o k.2.2 j)) := by
  unfold nestC
  split
  · rename_i h; simp [h]
  · rename_i h; simp [h]
theorem findSome_isNone {α β : Type} (f : α → Option β) (l : List α) : (l.findSome? f).isNone = l.all fun x => (f x).isNone := by
  induction l with
  | nil => rfl
  | cons a l ih =>
    rw [List.findSome?_cons]
    cases h : f a with
    | some b => simp [h]
    | none => simp [h, ih]
theorem nest_non {E : List Int} {o : List Nat} {js : List Jt} : isNonP ((js.zipIdx.findSome? fun x => (js.drop (x.2 + 1)).findSome? (nestC E o x.1)).getD .non) = (js.zipIdx.findSome? fun x => (js.drop (x.2 + 1)).findSome? (nestC E o x.1)).isNone := by
  cases h : js.zipIdx.findSome? fun x => (js.drop (x.2 + 1)).findSome? (nestC E o x.1) with
  | none => rfl
  | some r =>
    obtain ⟨x, _, e⟩ := List.exists_of_findSome?_eq_some h
    obtain ⟨k, _, e⟩ := List.exists_of_findSome?_eq_some e
    unfold nestC at e
    split at e <;> cases e
    rfl
theorem folds_rep {L n : Nat} (hL : 0 < L) (hn : 0 < n) (o : List Nat) : foldsB (List.replicate n L) (List.replicate (n - 1) .q) o = stampB n o := by
  unfold foldsB faultOf faultP
  rw [List.length_replicate]
  have h1 : (jts n).findSome? (toldC (sgOf (List.replicate (n - 1) .q)) o) = none := by
    rw [List.findSome?_eq_none_iff]
    intro j hj
    obtain ⟨a, ha, rfl⟩ := List.mem_map.mp hj
    have ha := List.mem_range.mp ha
    unfold toldC liesSo sgOf
    simp [List.getD, ha]
  have h2 : (jts n).findSome? (fun j => (List.range n).findSome? (passC (endsOf (List.replicate n L)) o j)) = none := by
    rw [List.findSome?_eq_none_iff]
    intro j hj
    rw [List.findSome?_eq_none_iff]
    intro s hs
    have hs := List.mem_range.mp hs
    obtain ⟨a, ha, rfl⟩ := List.mem_map.mp hj
    have ha := List.mem_range.mp ha
    unfold passC
    dsimp only
    rw [low_rep hs, high_rep hs, sp_rep (by omega)]
    by_cases h : (a + 1) % 2 = 0
    · simp [h]
    · simp [h]
  rw [h1, h2]
  dsimp only
  rw [nest_non, findSome_isNone]
  unfold stampB
  rw [Bool.eq_iff_iff, List.all_eq_true, List.all_eq_true]
  refine forall_congr' fun x => ?_
  refine forall_congr' fun hx => ?_
  have hx : x.1 ∈ jts n := by
    have := List.mem_map_of_mem (f := Prod.fst) hx
    simpa using this
  rw [findSome_isNone, List.all_eq_true, List.all_eq_true]
  refine forall_congr' fun k => ?_
  refine forall_congr' fun hk => ?_
  have hk := List.mem_of_mem_drop hk
  rw [nestC_isNone, touch_rep hL hx hk]
  rfl
end Tr

namespace Tr
open PySem PySem.Spec PyProof.Rows L2
/-- what is gone through, of n segments -/
def chk (n t : Nat) : Bool := ((ordersN n).filter (stampB n)).length == t && (ordersN n).all (fun o => o.isPerm (List.range n)) && ((ordersN n).filter (stampB n)).all fun o => stampB n o.reverse && stampB n (o.map fun s => n - 1 - s)
theorem chk1 : chk 1 1 = true := by decide +kernel
theorem chk2 : chk 2 2 = true := by decide +kernel
theorem chk3 : chk 3 6 = true := by decide +kernel
theorem chk4 : chk 4 16 = true := by decide +kernel
theorem chk5 : chk 5 50 = true := by decide +kernel
theorem chk6 : chk 6 144 = true := by decide +kernel
end Tr

namespace Tr
open PySem PySem.Spec PyProof.Rows L2
/-- all pairs, from below -/
def prA : List Nat → List (Int × Int)
  | [] => []
  | a :: r => (r.map fun (t : Nat) => ((a : Int), (t : Int))) ++ prA r
theorem prs_all {E : List Int} {n : Nat} (hE : ∀ s t, s < n → t < n → common E s t = true) : ∀ (suf pre : List Nat) (b : List (Int × Int)), (∀ s ∈ pre ++ suf, s < n) → (suf.zipIdx pre.length).foldl (stepP E (pre ++ suf)) b = b ++ prA suf
  | [], pre, b, h => by simp [prA]
  | a :: r, pre, b, h => by
    have hd : (pre ++ a :: r).drop (pre.length + 1) = r := by
      rw [← List.drop_drop, List.drop_left]; rfl
    have hf : r.filter (common E a) = r := List.filter_eq_self.mpr fun t ht => hE a t (h a (by simp)) (h t (by simp [ht]))
    have ih := prs_all hE r (pre ++ [a]) (b ++ rowP E (pre ++ a :: r) (a, pre.length)) (fun s hs => h s (by simpa using hs))
    rw [List.zipIdx_cons, List.foldl_cons]
    rw [List.length_append, List.append_assoc, List.length_singleton] at ih
    simp only [List.singleton_append] at ih
    rw [show stepP E (pre ++ a :: r) b (a, pre.length) = b ++ rowP E (pre ++ a :: r) (a, pre.length) from rfl, ih]
    simp only [rowP, hd, hf, prA, List.append_assoc]
theorem prs_rep {L n : Nat} (hL : 0 < L) {o : List Nat} (ho : Ord n o) : prs (endsOf (List.replicate n L)) o = prA o := by
  have := prs_all (E := endsOf (List.replicate n L)) (n := n) (fun s t hs ht => by
    unfold common
    rw [low_rep hs, low_rep ht, high_rep hs, high_rep ht]
    simp
    omega) o [] [] (fun s hs => ho.mem.mp (by simpa using hs))
  simpa [prs] using this
theorem prA_mem : ∀ {o : List Nat} {s t : Nat}, ((s : Int), (t : Int)) ∈ prA o → s ∈ o ∧ t ∈ o
  | a :: r, s, t, h => by
    rcases List.mem_append.mp h with h | h
    · obtain ⟨u, hu, e⟩ := List.mem_map.mp h
      have e1 : a = s := Int.ofNat.inj (congrArg Prod.fst e)
      have e2 : u = t := Int.ofNat.inj (congrArg Prod.snd e)
      exact ⟨by simp [e1], by simp [← e2, hu]⟩
    · have := prA_mem h
      exact ⟨by simp [this.1], by simp [this.2]⟩
theorem prA_anti : ∀ {o : List Nat} {s t : Nat}, o.Nodup → ((s : Int), (t : Int)) ∈ prA o → ((t : Int), (s : Int)) ∈ prA o → False
  | a :: r, s, t, nd, h, h' => by
    have nd' := List.nodup_cons.mp nd
    have key : ∀ {s t : Nat}, ((s : Int), (t : Int)) ∈ (r.map fun (t : Nat) => ((a : Int), (t : Int))) → s = a ∧ t ∈ r := fun {s t} h => by
      obtain ⟨u, hu, e⟩ := List.mem_map.mp h
      have e1 : a = s := Int.ofNat.inj (congrArg Prod.fst e)
      have e2 : u = t := Int.ofNat.inj (congrArg Prod.snd e)
      exact ⟨e1.symm, e2 ▸ hu⟩
    rcases List.mem_append.mp h with h | h
    · obtain ⟨rfl, ht⟩ := key h
      rcases List.mem_append.mp h' with h' | h'
      · obtain ⟨e, _⟩ := key h'
        exact nd'.1 (e ▸ ht)
      · exact nd'.1 (prA_mem h').2
    · rcases List.mem_append.mp h' with h' | h'
      · obtain ⟨e, ht⟩ := key h'
        exact nd'.1 (e ▸ (prA_mem h).2)
      · exact prA_anti nd'.2 h h'
theorem prA_pairwise {P : List (Int × Int)} : ∀ {o : List Nat}, (∀ x ∈ prA o, x ∈ P) → o.Pairwise fun (s t : Nat) => ((s : Int), (t : Int)) ∈ P
  | [], _ => .nil
  | a :: r, h => List.pairwise_cons.mpr ⟨fun t ht => h _ (List.mem_append.mpr (.inl (List.mem_map.mpr ⟨t, ht, rfl⟩))), prA_pairwise fun x hx => h x (List.mem_append.mpr (.inr hx))⟩
theorem same_rep {L n : Nat} (hL : 0 < L) {o o' : List Nat} (ho : Ord n o) (ho' : Ord n o') : decide (sortPr (prs (endsOf (List.replicate n L)) o) = sortPr (prs (endsOf (List.replicate n L)) o')) = decide (o = o') := by
  rw [prs_rep hL ho, prs_rep hL ho']
  by_cases h : o = o'
  · simp [h]
  · have : ¬ sortPr (prA o) = sortPr (prA o') := fun e => h (by
      have hp : (prA o').Perm (prA o) := (sortPr_perm _).symm.trans ((e ▸ List.Perm.refl _ : (sortPr (prA o')).Perm (sortPr (prA o))).trans (sortPr_perm _))
      refine List.Perm.eq_of_pairwise (le := fun (s t : Nat) => ((s : Int), (t : Int)) ∈ prA o) (fun a b _ _ h1 h2 => (prA_anti ho.nodup h1 h2).elim) (prA_pairwise fun x hx => hx) (prA_pairwise fun x hx => hp.mem_iff.mp hx) (ho.perm.trans ho'.perm.symm))
    simp [h, this]
end Tr

namespace Tr
open PySem PySem.Spec PyProof.Rows L2
def reptR (a : List PV) (k : Int) : Option PV := if k < 2 ^ 63 ∧ -(2 ^ 63) ≤ k ∧ a.length * k.toNat ≤ sizeLine then some (.lst (List.replicate k.toNat a).flatten) else none
theorem x_rept (a : List PV) (k : Int) : pRept (.lst a) (.int k) = reptR a k := rfl
theorem x_times (a : List PV) (k : Int) : pTimes (.lst a) (.int k) = reptR a k := by
  unfold pTimes
  rw [x_rept]
  rfl
theorem reptR_one (p : PV) {n : Nat} (h : n ≤ 1000) : reptR [p] (n : Nat) = some (.lst (List.replicate n p)) := by
  have e : (2 : Int) ^ 63 = 9223372036854775808 := by decide
  have h1 : ((n : Nat) : Int) < 2 ^ 63 := by rw [e]; omega
  have h2 : -(2 ^ 63) ≤ ((n : Nat) : Int) := by rw [e]; omega
  have h3 : [p].length * ((n : Nat) : Int).toNat ≤ sizeLine := Nat.le_trans (by simp; exact h : _ ≤ 1000) (by decide)
  unfold reptR
  rw [if_pos ⟨h1, h2, h3⟩]
  simp
theorem o_eqNN (l m : List Nat) : pEqB (nv l) (nv m) = some (decide (l = m)) :=
  eq_list (fun (i : Nat) => PV.int (i : Nat)) (fun (i : Nat) => PyData.int (i : Nat)) 0 (by decide) (fun _ => by simp [toD]) (fun _ => by simp [PyData.canLay0]) (fun _ => by simp [PyData.depth]) (fun a b => by rw [eqv_int]; rw [Bool.eq_iff_iff]; simp; omega) l m
section
variable {g : Rg}
abbrev stP (n L : Nat) : PV := stripP (List.replicate n L) (List.replicate (n - 1) .q)
def fdg (n : Nat) : List (List Nat) := (ordersN n).filter (stampB n)
/-- the body of the law's loop -/
def bodyL : DenS := (dSeq (dSet 6 (dComp (dIt (dV 5)) [8] (gdName 8) dYes (dBin pSub (dBin pSub (dV 2) (dC (.int 1))) (dV 8)))) (dSeq (dIf (dOrT (dCmp pIsnt (dCall d_is_folding (dCons (dV 3) (dCons (dRev (dV 5)) dNil))) (dC (.bl true))) (dCmp pIsnt (dCall d_is_folding (dCons (dV 3) (dCons (dV 6) dNil))) (dC (.bl true)))) (dSeq (dRet (dC (.bl false))) dNever) dSkip) (dSeq (dSet 7 (dCall d_law_one (dCons (dV 1) (dCons (dV 4) dNil)))) (dSeq (dIf (dNotT (dTr (dCall d_law_same (dCons (dCall d_same_folding (dCons (dV 3) (dCons (dCB oList (dCons (dV 5) dNil)) (dCons (dCB oList (dCons (dV 7) dNil)) dNil)))) (dCons (dBin (bo pEqB) (dV 5) (dV 7)) dNil))))) (dSeq (dRet (dC (.bl false))) dNever) dSkip) dSkip))))
structure Cnd (n : Nat) : Prop where
  pos : 0 < n
  le : n ≤ 6
  ord : ∀ o ∈ ordersN n, Ord n o
  rev : ∀ o ∈ fdg n, stampB n o.reverse = true
  bck : ∀ o ∈ fdg n, stampB n (o.map fun s => n - 1 - s) = true
  len : (fdg n).length ≤ 1000
theorem compl_ord {n : Nat} {o : List Nat} (h : Ord n o) : Ord n (o.map fun s => n - 1 - s) := by
  refine ⟨?_⟩
  have h1 : (o.map fun s => n - 1 - s).Perm ((List.range n).map fun s => n - 1 - s) := h.perm.map _
  have h2 : (List.range n).map (fun s => n - 1 - s) = (List.range n).reverse := by
    apply List.ext_getElem
    · simp
    · intro i h1 h2
      simp
  rw [h2] at h1
  exact h1.trans (List.reverse_perm _)
theorem body_ok {n L : Nat} (c : Cnd n) (hL : 0 < L) {o : List Nat} (ho : o ∈ fdg n) (hc : g.cnt < 1000000) {x6 x7 x8 : Option PV} :
    ∃ y6 y7, bodyL [none, some .rng, some (.int (n : Nat)), some (stP n L), some (.lst ((fdg n).map nv)), some (nv o), x6, x7, x8] g = .next [none, some .rng, some (.int (n : Nat)), some (stP n L), some (.lst ((fdg n).map nv)), some (nv o), y6, y7, x8] (pickG g (fdg n).length) := by
  have hn := c.pos
  have hl6 := c.le
  have oo : Ord n o := c.ord o (List.mem_filter.mp ho).1
  have or : Ord n o.reverse := ⟨(List.reverse_perm _).trans oo.perm⟩
  have ob := compl_ord oo
  have n0 : List.replicate n L ≠ [] := by cases n with | zero => omega | succ n => simp [List.replicate_succ]
  have n1 : (List.replicate (n - 1) Lt.q).length + 1 = (List.replicate n L).length := by simp; omega
  have n2 : (List.replicate n L).length ≤ 1000 := by simp; omega
  have e1 := p_is_folding (g := g) (cs := List.replicate (n - 1) Lt.q) n0 n1 n2 (o := o.reverse) (by simpa using or)
  have e2 := p_is_folding (g := g) (cs := List.replicate (n - 1) Lt.q) n0 n1 n2 (o := o.map fun s => n - 1 - s) (by simpa using ob)
  rw [folds_rep hL hn, c.rev o ho] at e1
  rw [folds_rep hL hn, c.bck o ho] at e2
  have hne : (fdg n).map nv ≠ [] := fun z => by rw [List.map_eq_nil_iff] at z; rw [z] at ho; cases ho
  have hlen := c.len
  obtain ⟨x, hx, e3⟩ := p_law_one (g := g) hne (by rw [List.length_map]; omega) (by omega)
  obtain ⟨q, hq, rfl⟩ := List.mem_map.mp hx
  rw [List.length_map] at e3
  have oq : Ord n q := c.ord q (List.mem_filter.mp hq).1
  have e4 := p_same_folding (g := pickG g (fdg n).length) (cs := List.replicate (n - 1) Lt.q) n0 n1 n2 (o := o) (o' := q) (by simpa using oo) (by simpa using oq)
  rw [same_rep hL oo oq] at e4
  have e5 := p_law_same_bl (g := pickG g (fdg n).length) (decide (o = q)) (decide (o = q))
  have e6 := o_eqNN o q
  have hcm := compL_all (g := g) (gd := gdName 8) (de := dBin pSub (dBin pSub (dV 2) (dC (.int 1))) (dV 8)) (σ := [none, some .rng, some (.int (n : Nat)), some (stP n L), some (.lst ((fdg n).map nv)), some (nv o), x6, x7, none]) (fun (i : Nat) => PV.int (i : Nat)) (fun s => PV.int ((n - 1 - s : Nat) : Int)) o (fun s hs => by
    have hs := oo.mem.mp hs
    have e : (n : Int) - 1 - (s : Int) = ((n - 1 - s : Nat) : Int) := by omega
    exact ⟨_, rfl, by simp [e]⟩)
  have ebk : o.map (fun s => PV.int ((n - 1 - s : Nat) : Int)) = (o.map fun s => n - 1 - s).map fun (i : Nat) => PV.int (i : Nat) := by rw [List.map_map]; rfl
  rw [ebk] at hcm
  have hs1 : o.length ≤ sizeLine := Nat.le_trans (by rw [oo.len]; omega : _ ≤ 1000) (by decide)
  have erv : (o.map fun (i : Nat) => PV.int (i : Nat)).reverse = o.reverse.map fun (i : Nat) => PV.int (i : Nat) := by rw [List.map_reverse]
  refine ⟨some (nv (o.map fun s => n - 1 - s)), some (nv q), ?_⟩
  simp [-List.map_map, -List.map_reverse, bodyL, hs1, wipeP, hcm, erv, e1, e2, e3, e4, e5, e6]
end
end Tr

namespace Tr
open PySem PySem.Spec PyProof.Rows L2
theorem loop_ok {n L : Nat} (c : Cnd n) (hL : 0 < L) : ∀ (l : List (List Nat)) (g : Rg) (x5 x6 x7 x8 : Option PV), (∀ o ∈ l, o ∈ fdg n) → g.cnt + l.length < 1000000 →
    ∃ y5 y6 y7 g2, loopS (gdName 5) bodyL (l.map nv) [none, some .rng, some (.int (n : Nat)), some (stP n L), some (.lst ((fdg n).map nv)), x5, x6, x7, x8] g = .next [none, some .rng, some (.int (n : Nat)), some (stP n L), some (.lst ((fdg n).map nv)), y5, y6, y7, x8] g2
  | [], g, x5, x6, x7, x8, _, _ => ⟨x5, x6, x7, g, rfl⟩
  | o :: l, g, x5, x6, x7, x8, h, hc => by
    have hc' : g.cnt + ((l.length : Int) + 1) < 1000000 := by simpa using hc
    obtain ⟨y6, y7, hb⟩ := body_ok (g := g) c hL (h o (by simp)) (by omega) (x6 := x6) (x7 := x7) (x8 := x8)
    obtain ⟨z5, z6, z7, g2, ih⟩ := loop_ok c hL l (pickG g (fdg n).length) (some (nv o)) y6 y7 x8 (fun q hq => h q (by simp [hq])) (by rw [pickG_cnt]; omega)
    refine ⟨z5, z6, z7, g2, ?_⟩
    simp only [List.map_cons, loopS, x_gdName, List.set_cons_succ, List.set_cons_zero]
    rw [hb]
    exact ih
def tab (n : Nat) : Nat := [1, 2, 6, 16, 50, 144].getD (n - 1) 0
theorem cnd_of {n t : Nat} (hp : 0 < n) (hl : n ≤ 6) (h : chk n t = true) (ht : t ≤ 1000) : Cnd n ∧ (fdg n).length = t := by
  unfold chk at h
  simp only [Bool.and_eq_true, List.all_eq_true, beq_iff_eq] at h
  obtain ⟨⟨h1, h2⟩, h3⟩ := h
  refine ⟨⟨hp, hl, fun o ho => ⟨List.isPerm_iff.mp (h2 o ho)⟩, fun o ho => (h3 o ho).1, fun o ho => (h3 o ho).2, ?_⟩, h1⟩
  show ((ordersN n).filter (stampB n)).length ≤ 1000
  omega
theorem cnd {n : Nat} (hp : 0 < n) (hl : n ≤ 6) : Cnd n ∧ (fdg n).length = tab n := by
  match n, hp, hl with
  | 1, _, _ => exact cnd_of (by decide) (by decide) chk1 (by decide)
  | 2, _, _ => exact cnd_of (by decide) (by decide) chk2 (by decide)
  | 3, _, _ => exact cnd_of (by decide) (by decide) chk3 (by decide)
  | 4, _, _ => exact cnd_of (by decide) (by decide) chk4 (by decide)
  | 5, _, _ => exact cnd_of (by decide) (by decide) chk5 (by decide)
  | 6, _, _ => exact cnd_of (by decide) (by decide) chk6 (by decide)
theorem unmap {α β : Type} (f : α → β) {F : List α} : ∀ (res : List β), (∀ x ∈ res, x ∈ F.map f) → ∃ l : List α, res = l.map f ∧ ∀ o ∈ l, o ∈ F
  | [], _ => ⟨[], rfl, fun _ h => by cases h⟩
  | x :: r, h => by
    obtain ⟨o, ho, rfl⟩ := List.mem_map.mp (h x (by simp))
    obtain ⟨l, rfl, hl⟩ := unmap f r fun y hy => h y (by simp [hy])
    exact ⟨o :: l, rfl, fun q hq => (List.mem_cons.mp hq).elim (fun e => e ▸ ho) (hl q)⟩
theorem times_ok {g g1 : Rg} {σ : Sl} {d1 d2 : Den} {n : Nat} {p q : PV} (h1 : d1 σ g = .ok (.lst [p]) g1) (h2 : d2 σ g1 = .ok (.int (n : Nat)) g1) (t1 : reptR [p] (n : Nat) = some q) : dBin pTimes d1 d2 σ g = .ok q g1 := by
  rw [x_dBin, h1, Res.bind_ok, h2, Res.bind_ok, x_times, t1]
theorem cut20 (l : List (List Nat)) : cutL (l.map nv) none (some 20) = (l.take 20).map nv := by
  rw [List.map_take]
  exact cut_to (l.map nv) 20
theorem tab_at {n : Nat} (hp : 0 < n) (hl : n ≤ 6) : atI [PV.int 1, .int 2, .int 6, .int 16, .int 50, .int 144] ((n - 1 : Nat) : Int) = some (.int (tab n : Nat)) := by
  rw [atI_nat]
  match n, hp, hl with
  | 1, _, _ => rfl
  | 2, _, _ => rfl
  | 3, _, _ => rfl
  | 4, _, _ => rfl
  | 5, _, _ => rfl
  | 6, _, _ => rfl
/-- what stands behind the two draws of many -/
def restL : DenS := (dSeq (dSet 3 (dMake d_Strip_init__ (dCons (dBin pTimes (dLst (dCons (dBin pPlus (dC (.int 1)) (dCall d_law_pick (dCons (dV 1) (dCons (dC (.int 9)) dNil)))) dNil)) (dV 2)) (dCons (dBin pTimes (dLst (dCons (dC (.str "?")) dNil)) (dBin pSub (dV 2) (dC (.int 1)))) dNil)))) (dSeq (dSet 4 (dComp (dIt (dCall d_law_orders (dCons (dV 2) dNil))) [5] (gdName 5) (dTr (dCall d_is_folding (dCons (dV 3) (dCons (dCB oList (dCons (dV 5) dNil)) dNil)))) (dV 5))) (dSeq (dIf (dCmp pNeB (dCB oLen (dCons (dV 4) dNil)) (dIx (dLst (dCons (dC (.int 1)) (dCons (dC (.int 2)) (dCons (dC (.int 6)) (dCons (dC (.int 16)) (dCons (dC (.int 50)) (dCons (dC (.int 144)) dNil))))))) (dBin pSub (dV 2) (dC (.int 1))))) (dSeq (dRet (dC (.bl false))) dNever) dSkip) (dSeq (dFor (dIt (dSl pSl (dCall d_law_mixed (dCons (dV 1) (dCons (dV 4) dNil))) dNo (dSome (dC (.int 20))))) (gdName 5) bodyL) (dSeq (dRet (dC (.bl true))) dNever)))))
theorem rest_ok {n : Nat} (hp : 0 < n) (hl : n ≤ 6) {g : Rg} (hc : g.cnt ≤ 1000) : ∃ g2, restL [none, some .rng, some (.int (n : Nat)), none, none, none, none, none, none] g = .ret (.bl true) g2 := by
  obtain ⟨c, hlen⟩ := cnd hp hl
  have e9 : dPick [.rng, .int 9] g = .ok (.int (pk g 9 : Nat)) (pickG g 9) := p_pickN (g := g) (n := 9) (by decide) (by decide) (by omega)
  obtain ⟨L, hL0, hL⟩ : ∃ L : Nat, 0 < L ∧ (1 : Int) + (pk g 9 : Nat) = (L : Nat) := ⟨1 + pk g 9, by omega, by omega⟩
  have hn1 : ((n : Int) - 1) = ((n - 1 : Nat) : Int) := by omega
  have n0 : List.replicate n L ≠ [] := by cases n with | zero => omega | succ n => simp [List.replicate_succ]
  have n1 : (List.replicate (n - 1) Lt.q).length + 1 = (List.replicate n L).length := by simp; omega
  have n2 : (List.replicate n L).length ≤ 1000 := by simp; omega
  have t1 := reptR_one (.int (L : Nat)) (n := n) (by omega)
  have t2 := reptR_one (.str "?") (n := n - 1) (by omega)
  have s1 : (.lst (List.replicate n (.int (L : Nat))) : PV) = nv (List.replicate n L) := by simp
  have s2 : (.lst (List.replicate (n - 1) (.str "?")) : PV) = lv (List.replicate (n - 1) .q) := by simp [ltS]
  rw [s1] at t1
  rw [s2] at t2
  have es := p_Strip_init (g := pickG g 9) (cs := List.replicate (n - 1) Lt.q) n0 (fun l hl => by rw [List.eq_of_mem_replicate hl]; exact hL0) n1
  have eo := p_law_orders (g := pickG g 9) (n := n) (by omega)
  have hcm := compL_map (g := pickG g 9) (gd := gdName 5) (dt := dTr (dCall d_is_folding (dCons (dV 3) (dCons (dCB oList (dCons (dV 5) dNil)) dNil)))) (de := dV 5) (σ := [none, some .rng, some (.int (n : Nat)), some (stP n L), none, none, none, none, none]) nv (stampB n) nv (ordersN n) (fun o ho => by
    have oo := c.ord o ho
    have e := p_is_folding (g := pickG g 9) (cs := List.replicate (n - 1) Lt.q) n0 n1 n2 (o := o) (by simpa using oo)
    rw [folds_rep hL0 hp] at e
    exact ⟨_, rfl, by simp [e], fun _ => rfl⟩)
  have hfd : (ordersN n).filter (stampB n) = fdg n := rfl
  rw [hfd] at hcm
  have hso : (ordersN n).length ≤ sizeLine := by
    have : ∀ n ≤ 6, (ordersN n).length ≤ 1000 := by decide +kernel
    exact Nat.le_trans (this n hl) (by decide)
  have hlf := c.len
  obtain ⟨res, g2, e5, hperm, hcnt⟩ := p_law_mixed (items := (fdg n).map nv) (g := pickG g 9) (by rw [List.length_map]; exact hlf) (by rw [List.length_map, pickG_cnt]; omega)
  have hres : ∃ l : List (List Nat), res = l.map nv ∧ ∀ o ∈ l, o ∈ fdg n := unmap nv res fun x hx => hperm.mem_iff.mp hx
  obtain ⟨l, rfl, hlm⟩ := hres
  obtain ⟨y5, y6, y7, g3, e6⟩ := loop_ok c hL0 (l.take 20) g2 none none none none (fun o ho => hlm o (List.mem_of_mem_take ho)) (by
    rw [hcnt, List.length_map, pickG_cnt, List.length_take]
    omega)
  have e7 : cutL (l.map nv) none (some 20) = (l.take 20).map nv := cut20 l
  have e8 := tab_at hp hl
  have q3 : dSet 3 (dMake d_Strip_init__ (dCons (dBin pTimes (dLst (dCons (dBin pPlus (dC (.int 1)) (dCall d_law_pick (dCons (dV 1) (dCons (dC (.int 9)) dNil)))) dNil)) (dV 2)) (dCons (dBin pTimes (dLst (dCons (dC (.str "?")) dNil)) (dBin pSub (dV 2) (dC (.int 1)))) dNil))) [none, some .rng, some (.int (n : Nat)), none, none, none, none, none, none] g = .next [none, some .rng, some (.int (n : Nat)), some (stP n L), none, none, none, none, none] (pickG g 9) := by
    have a0 : dBin pPlus (dC (.int 1)) (dCall d_law_pick (dCons (dV 1) (dCons (dC (.int 9)) dNil))) [none, some .rng, some (.int (n : Nat)), none, none, none, none, none, none] g = .ok (.int (L : Nat)) (pickG g 9) := by
      rw [← hL]
      simp [e9]
    have a1 : dBin pTimes (dLst (dCons (dBin pPlus (dC (.int 1)) (dCall d_law_pick (dCons (dV 1) (dCons (dC (.int 9)) dNil)))) dNil)) (dV 2) [none, some .rng, some (.int (n : Nat)), none, none, none, none, none, none] g = .ok (nv (List.replicate n L)) (pickG g 9) := by
      refine times_ok (n := n) ?_ rfl t1
      rw [x_dLst, x_dCons, a0, Res.bind_ok, x_dNil, Res.bind_ok, Res.bind_ok]
    have a2 : dBin pTimes (dLst (dCons (dC (.str "?")) dNil)) (dBin pSub (dV 2) (dC (.int 1))) [none, some .rng, some (.int (n : Nat)), none, none, none, none, none, none] (pickG g 9) = .ok (lv (List.replicate (n - 1) .q)) (pickG g 9) := by
      refine times_ok (n := n - 1) rfl ?_ t2
      rw [← hn1]
      rfl
    simp only [x_dSet, x_dMake, x_dCons, x_dNil, a1, a2, Res.bind_ok, es, noX_ok, Res.bindS_ok, List.set_cons_succ, List.set_cons_zero]
  have q4 : dSet 4 (dComp (dIt (dCall d_law_orders (dCons (dV 2) dNil))) [5] (gdName 5) (dTr (dCall d_is_folding (dCons (dV 3) (dCons (dCB oList (dCons (dV 5) dNil)) dNil)))) (dV 5)) [none, some .rng, some (.int (n : Nat)), some (stP n L), none, none, none, none, none] (pickG g 9) = .next [none, some .rng, some (.int (n : Nat)), some (stP n L), some (.lst ((fdg n).map nv)), none, none, none, none] (pickG g 9) := by
    simp [eo, hso, wipeP, hcm]
  have q5 : dIf (dCmp pNeB (dCB oLen (dCons (dV 4) dNil)) (dIx (dLst (dCons (dC (.int 1)) (dCons (dC (.int 2)) (dCons (dC (.int 6)) (dCons (dC (.int 16)) (dCons (dC (.int 50)) (dCons (dC (.int 144)) dNil))))))) (dBin pSub (dV 2) (dC (.int 1))))) (dSeq (dRet (dC (.bl false))) dNever) dSkip [none, some .rng, some (.int (n : Nat)), some (stP n L), some (.lst ((fdg n).map nv)), none, none, none, none] (pickG g 9) = .next [none, some .rng, some (.int (n : Nat)), some (stP n L), some (.lst ((fdg n).map nv)), none, none, none, none] (pickG g 9) := by
    simp [hn1, hlen, e8]
  have q6 : dFor (dIt (dSl pSl (dCall d_law_mixed (dCons (dV 1) (dCons (dV 4) dNil))) dNo (dSome (dC (.int 20))))) (gdName 5) bodyL [none, some .rng, some (.int (n : Nat)), some (stP n L), some (.lst ((fdg n).map nv)), none, none, none, none] (pickG g 9) = .next [none, some .rng, some (.int (n : Nat)), some (stP n L), some (.lst ((fdg n).map nv)), y5, y6, y7, none] g3 := by
    simp [-List.map_take, e5, e7, e6]
  refine ⟨g3, ?_⟩
  unfold restL
  rw [x_dSeq, q3]
  simp only []
  rw [x_dSeq, q4]
  simp only []
  rw [x_dSeq, q5]
  simp only []
  rw [x_dSeq, q6]
  simp
theorem b_law_eq : b_law = dSeq (dSet 2 (dBin pPlus (dC (.int 1)) (dCall d_law_pick (dCons (dV 1) (dCons (dC (.int 6)) dNil))))) (dSeq (dIf (dAndT (dCmp pEqB (dV 2) (dC (.int 6))) (dCmp pGt (dCall d_law_pick (dCons (dV 1) (dCons (dC (.int 3)) dNil))) (dC (.int 0)))) (dSeq (dSet 2 (dC (.int 4))) dSkip) dSkip) restL) := rfl
theorem law_plain (ns : List Int) (_ : ns.length ≤ 63) : ∃ g2, b_law (lawP 9) ⟨ns, 0, 0, 29⟩ = .ret (.bl true) g2 := by
  have e6 : dPick [.rng, .int 6] ⟨ns, 0, 0, 29⟩ = .ok (.int (pk ⟨ns, 0, 0, 29⟩ 6 : Nat)) (pickG ⟨ns, 0, 0, 29⟩ 6) := p_pickN (n := 6) (by decide) (by decide) (show (0 : Int) < 1000000000 by decide)
  have k6 := pk_lt (g := ⟨ns, 0, 0, 29⟩) (n := 6) (by decide)
  have c6 : (pickG ⟨ns, 0, 0, 29⟩ 6).cnt = 1 := pickG_cnt _ _
  generalize pk ⟨ns, 0, 0, 29⟩ 6 = r at e6 k6
  generalize pickG ⟨ns, 0, 0, 29⟩ 6 = g at e6 c6
  have e3 : dPick [.rng, .int 3] g = .ok (.int (pk g 3 : Nat)) (pickG g 3) := p_pickN (n := 3) (by decide) (by decide) (by rw [c6]; decide)
  have c3 : (pickG g 3).cnt = 2 := by rw [pickG_cnt, c6]; rfl
  generalize pk g 3 = t at e3
  generalize pickG g 3 = g3 at e3 c3
  have q1 : dSet 2 (dBin pPlus (dC (.int 1)) (dCall d_law_pick (dCons (dV 1) (dCons (dC (.int 6)) dNil)))) (lawP 9) ⟨ns, 0, 0, 29⟩ = .next [none, some .rng, some (.int (1 + r : Nat)), none, none, none, none, none, none] g := by
    have : lawP 9 = [none, some .rng, none, none, none, none, none, none, none] := rfl
    rw [this]
    simp [e6]
  have q2 : ∃ n g', 0 < n ∧ n ≤ 6 ∧ g'.cnt ≤ 1000 ∧ dIf (dAndT (dCmp pEqB (dV 2) (dC (.int 6))) (dCmp pGt (dCall d_law_pick (dCons (dV 1) (dCons (dC (.int 3)) dNil))) (dC (.int 0)))) (dSeq (dSet 2 (dC (.int 4))) dSkip) dSkip [none, some .rng, some (.int (1 + r : Nat)), none, none, none, none, none, none] g = .next [none, some .rng, some (.int (n : Nat)), none, none, none, none, none, none] g' := by
    by_cases h6 : ((1 + r : Nat) : Int) = 6
    · by_cases h0 : (0 : Int) < (t : Nat)
      · exact ⟨4, g3, by decide, by decide, by rw [c3]; decide, by simp only [x_dIf, x_dAndT, x_dCmp, x_dV, x_dC, x_dCall, x_dCons, x_dNil, List.getElem?_cons_succ, List.getElem?_cons_zero, Res.bind_ok, o_eqI, h6, decide_true, if_true, e3, o_gt, h0, Res.bindS_ok, x_dSeq, x_dSet, x_dSkip, List.set_cons_succ, List.set_cons_zero]; rfl⟩
      · exact ⟨6, g3, by decide, by decide, by rw [c3]; decide, by
          simp only [x_dIf, x_dAndT, x_dCmp, x_dV, x_dC, x_dCall, x_dCons, x_dNil, List.getElem?_cons_succ, List.getElem?_cons_zero, Res.bind_ok, o_eqI, h6, decide_true, if_true, e3, o_gt, h0, decide_false, Res.bindS_ok, x_dSkip]
          rfl⟩
    · exact ⟨1 + r, g, by omega, by omega, by rw [c6]; decide, by
        simp only [x_dIf, x_dAndT, x_dCmp, x_dV, x_dC, List.getElem?_cons_succ, List.getElem?_cons_zero, Res.bind_ok, o_eqI, h6, decide_false, Res.bindS_ok, x_dSkip]
        rfl⟩
  obtain ⟨n, g', hp, hl, hc, q2⟩ := q2
  obtain ⟨g2, hr⟩ := rest_ok hp hl hc
  refine ⟨g2, ?_⟩
  rw [b_law_eq, x_dSeq, q1]
  simp only []
  rw [x_dSeq, q2]
  exact hr
end Tr

namespace Tr
open PySem PySem.Spec PyProof.Rows L2
section
end
theorem all_mk {l : PySem.W.OpenLaw} {w : World} {K : PySem.W.Frag} {h : Heap} {mg : Str → Option Value} {fa : Addr} (X : K.In h) (G : h.Ns mainGlobals mg) (hfa : mg "law" = some (.ref fa))
    {C_Laid : Addr}
    {C_Strip : Addr}
    {f_law_start : Addr} {od_law_start an_law_start : Option Addr} {sl_law_start : Array (Option Value)} {oc_law_start kV_law_start dc_law_start pm_law_start cd_law_start ct_law_start : Value}
    {f_law_pick : Addr} {od_law_pick an_law_pick : Option Addr} {sl_law_pick : Array (Option Value)} {oc_law_pick kV_law_pick dc_law_pick pm_law_pick cd_law_pick ct_law_pick : Value}
    {f_is_integer : Addr} {od_is_integer an_is_integer : Option Addr} {sl_is_integer : Array (Option Value)} {oc_is_integer kV_is_integer dc_is_integer pm_is_integer cd_is_integer ct_is_integer : Value}
    {f_is_number : Addr} {od_is_number an_is_number : Option Addr} {sl_is_number : Array (Option Value)} {oc_is_number kV_is_number dc_is_number pm_is_number cd_is_number ct_is_number : Value}
    {f_is_list : Addr} {od_is_list an_is_list : Option Addr} {sl_is_list : Array (Option Value)} {oc_is_list kV_is_list dc_is_list pm_is_list cd_is_list ct_is_list : Value}
    {f_is_text : Addr} {od_is_text an_is_text : Option Addr} {sl_is_text : Array (Option Value)} {oc_is_text kV_is_text dc_is_text pm_is_text cd_is_text ct_is_text : Value}
    {f_Laid_init__ : Addr} {od_Laid_init__ an_Laid_init__ : Option Addr} {sl_Laid_init__ : Array (Option Value)} {oc_Laid_init__ kV_Laid_init__ dc_Laid_init__ pm_Laid_init__ cd_Laid_init__ ct_Laid_init__ : Value}
    {f_Laid_lowest : Addr} {od_Laid_lowest an_Laid_lowest : Option Addr} {sl_Laid_lowest : Array (Option Value)} {oc_Laid_lowest kV_Laid_lowest dc_Laid_lowest pm_Laid_lowest cd_Laid_lowest ct_Laid_lowest : Value}
    {f_Laid_highest : Addr} {od_Laid_highest an_Laid_highest : Option Addr} {sl_Laid_highest : Array (Option Value)} {oc_Laid_highest kV_Laid_highest dc_Laid_highest pm_Laid_highest cd_Laid_highest ct_Laid_highest : Value}
    {f_Laid_has_inside : Addr} {od_Laid_has_inside an_Laid_has_inside : Option Addr} {sl_Laid_has_inside : Array (Option Value)} {oc_Laid_has_inside kV_Laid_has_inside dc_Laid_has_inside pm_Laid_has_inside cd_Laid_has_inside ct_Laid_has_inside : Value}
    {f_Laid_have_common : Addr} {od_Laid_have_common an_Laid_have_common : Option Addr} {sl_Laid_have_common : Array (Option Value)} {oc_Laid_have_common kV_Laid_have_common dc_Laid_have_common pm_Laid_have_common cd_Laid_have_common ct_Laid_have_common : Value}
    {f_Laid_spot_of : Addr} {od_Laid_spot_of an_Laid_spot_of : Option Addr} {sl_Laid_spot_of : Array (Option Value)} {oc_Laid_spot_of kV_Laid_spot_of dc_Laid_spot_of pm_Laid_spot_of cd_Laid_spot_of ct_Laid_spot_of : Value}
    {f_Laid_is_left : Addr} {od_Laid_is_left an_Laid_is_left : Option Addr} {sl_Laid_is_left : Array (Option Value)} {oc_Laid_is_left kV_Laid_is_left dc_Laid_is_left pm_Laid_is_left cd_Laid_is_left ct_Laid_is_left : Value}
    {f_Laid_touches : Addr} {od_Laid_touches an_Laid_touches : Option Addr} {sl_Laid_touches : Array (Option Value)} {oc_Laid_touches kV_Laid_touches dc_Laid_touches pm_Laid_touches cd_Laid_touches ct_Laid_touches : Value}
    {f_places_in : Addr} {od_places_in an_places_in : Option Addr} {sl_places_in : Array (Option Value)} {oc_places_in kV_places_in dc_places_in pm_places_in cd_places_in ct_places_in : Value}
    {f_lies_so : Addr} {od_lies_so an_lies_so : Option Addr} {sl_lies_so : Array (Option Value)} {oc_lies_so kV_lies_so dc_lies_so pm_lies_so cd_lies_so ct_lies_so : Value}
    {f_is_between : Addr} {od_is_between an_is_between : Option Addr} {sl_is_between : Array (Option Value)} {oc_is_between kV_is_between dc_is_between pm_is_between cd_is_between ct_is_between : Value}
    {f_told_fault : Addr} {od_told_fault an_told_fault : Option Addr} {sl_told_fault : Array (Option Value)} {oc_told_fault kV_told_fault dc_told_fault pm_told_fault cd_told_fault ct_told_fault : Value}
    {f_pass_fault : Addr} {od_pass_fault an_pass_fault : Option Addr} {sl_pass_fault : Array (Option Value)} {oc_pass_fault kV_pass_fault dc_pass_fault pm_pass_fault cd_pass_fault ct_pass_fault : Value}
    {f_nest_fault : Addr} {od_nest_fault an_nest_fault : Option Addr} {sl_nest_fault : Array (Option Value)} {oc_nest_fault kV_nest_fault dc_nest_fault pm_nest_fault cd_nest_fault ct_nest_fault : Value}
    {f_fault_among : Addr} {od_fault_among an_fault_among : Option Addr} {sl_fault_among : Array (Option Value)} {oc_fault_among kV_fault_among dc_fault_among pm_fault_among cd_fault_among ct_fault_among : Value}
    {f_order_fault : Addr} {od_order_fault an_order_fault : Option Addr} {sl_order_fault : Array (Option Value)} {oc_order_fault kV_order_fault dc_order_fault pm_order_fault cd_order_fault ct_order_fault : Value}
    {f_is_length : Addr} {od_is_length an_is_length : Option Addr} {sl_is_length : Array (Option Value)} {oc_is_length kV_is_length dc_is_length pm_is_length cd_is_length ct_is_length : Value}
    {f_is_letter : Addr} {od_is_letter an_is_letter : Option Addr} {sl_is_letter : Array (Option Value)} {oc_is_letter kV_is_letter dc_is_letter pm_is_letter cd_is_letter ct_is_letter : Value}
    {f_wrong_lengths : Addr} {od_wrong_lengths an_wrong_lengths : Option Addr} {sl_wrong_lengths : Array (Option Value)} {oc_wrong_lengths kV_wrong_lengths dc_wrong_lengths pm_wrong_lengths cd_wrong_lengths ct_wrong_lengths : Value}
    {f_wrong_letters : Addr} {od_wrong_letters an_wrong_letters : Option Addr} {sl_wrong_letters : Array (Option Value)} {oc_wrong_letters kV_wrong_letters dc_wrong_letters pm_wrong_letters cd_wrong_letters ct_wrong_letters : Value}
    {f_Strip_init__ : Addr} {od_Strip_init__ an_Strip_init__ : Option Addr} {sl_Strip_init__ : Array (Option Value)} {oc_Strip_init__ kV_Strip_init__ dc_Strip_init__ pm_Strip_init__ cd_Strip_init__ ct_Strip_init__ : Value}
    {f_Strip_lengths : Addr} {od_Strip_lengths an_Strip_lengths : Option Addr} {sl_Strip_lengths : Array (Option Value)} {oc_Strip_lengths kV_Strip_lengths dc_Strip_lengths pm_Strip_lengths cd_Strip_lengths ct_Strip_lengths : Value}
    {f_Strip_creases : Addr} {od_Strip_creases an_Strip_creases : Option Addr} {sl_Strip_creases : Array (Option Value)} {oc_Strip_creases kV_Strip_creases dc_Strip_creases pm_Strip_creases cd_Strip_creases ct_Strip_creases : Value}
    {f_need_strip : Addr} {od_need_strip an_need_strip : Option Addr} {sl_need_strip : Array (Option Value)} {oc_need_strip kV_need_strip dc_need_strip pm_need_strip cd_need_strip ct_need_strip : Value}
    {f_is_order_of : Addr} {od_is_order_of an_is_order_of : Option Addr} {sl_is_order_of : Array (Option Value)} {oc_is_order_of kV_is_order_of dc_is_order_of pm_is_order_of cd_is_order_of ct_is_order_of : Value}
    {f_need_order : Addr} {od_need_order an_need_order : Option Addr} {sl_need_order : Array (Option Value)} {oc_need_order kV_need_order dc_need_order pm_need_order cd_need_order ct_need_order : Value}
    {f_laid_strip : Addr} {od_laid_strip an_laid_strip : Option Addr} {sl_laid_strip : Array (Option Value)} {oc_laid_strip kV_laid_strip dc_laid_strip pm_laid_strip cd_laid_strip ct_laid_strip : Value}
    {f_folding_fault : Addr} {od_folding_fault an_folding_fault : Option Addr} {sl_folding_fault : Array (Option Value)} {oc_folding_fault kV_folding_fault dc_folding_fault pm_folding_fault cd_folding_fault ct_folding_fault : Value}
    {f_is_folding : Addr} {od_is_folding an_is_folding : Option Addr} {sl_is_folding : Array (Option Value)} {oc_is_folding kV_is_folding dc_is_folding pm_is_folding cd_is_folding ct_is_folding : Value}
    {f_pairs_over : Addr} {od_pairs_over an_pairs_over : Option Addr} {sl_pairs_over : Array (Option Value)} {oc_pairs_over kV_pairs_over dc_pairs_over pm_pairs_over cd_pairs_over ct_pairs_over : Value}
    {f_same_folding : Addr} {od_same_folding an_same_folding : Option Addr} {sl_same_folding : Array (Option Value)} {oc_same_folding kV_same_folding dc_same_folding pm_same_folding cd_same_folding ct_same_folding : Value}
    {f_law_one : Addr} {od_law_one an_law_one : Option Addr} {sl_law_one : Array (Option Value)} {oc_law_one kV_law_one dc_law_one pm_law_one cd_law_one ct_law_one : Value}
    {f_law_mixed : Addr} {od_law_mixed an_law_mixed : Option Addr} {sl_law_mixed : Array (Option Value)} {oc_law_mixed kV_law_mixed dc_law_mixed pm_law_mixed cd_law_mixed ct_law_mixed : Value}
    {f_law_same : Addr} {od_law_same an_law_same : Option Addr} {sl_law_same : Array (Option Value)} {oc_law_same kV_law_same dc_law_same pm_law_same cd_law_same ct_law_same : Value}
    {f_law_orders : Addr} {od_law_orders an_law_orders : Option Addr} {sl_law_orders : Array (Option Value)} {oc_law_orders kV_law_orders dc_law_orders pm_law_orders cd_law_orders ct_law_orders : Value}
    {f_law : Addr} {od_law an_law : Option Addr} {sl_law : Array (Option Value)} {oc_law kV_law dc_law pm_law cd_law ct_law : Value}
    (aC_Laid : PySem.W.nsIn K mainGlobals "Laid" = some (some (.ref C_Laid)))
    (pg_Laid : PySem.W.plainGet K C_Laid Str.empty = true)
    (hd_Laid : PySem.W.hasDictIn K C_Laid = true)
    (po_Laid : PySem.W.plainOver K C_Laid = true)
    (sa_Laid : PySem.W.findIn K (.ref C_Laid) "__setattr__" = some (some (.builtin "object.__setattr__")))
    (aC_Strip : PySem.W.nsIn K mainGlobals "Strip" = some (some (.ref C_Strip)))
    (pg_Strip : PySem.W.plainGet K C_Strip Str.empty = true)
    (hd_Strip : PySem.W.hasDictIn K C_Strip = true)
    (po_Strip : PySem.W.plainOver K C_Strip = true)
    (sa_Strip : PySem.W.findIn K (.ref C_Strip) "__setattr__" = some (some (.builtin "object.__setattr__")))
    (n_Laid_ends : PySem.W.findIn K (.ref C_Laid) "ends" = some none)
    (n_Laid_joints : PySem.W.findIn K (.ref C_Laid) "joints" = some none)
    (n_Laid_many : PySem.W.findIn K (.ref C_Laid) "many" = some none)
    (n_Laid_signs : PySem.W.findIn K (.ref C_Laid) "signs" = some none)
    (n_Strip__creases : PySem.W.findIn K (.ref C_Strip) "_creases" = some none)
    (n_Strip__lengths : PySem.W.findIn K (.ref C_Strip) "_lengths" = some none)
    (x1_Strip : PySem.W.findIn K (.ref C_Strip) "__class__" = some (some (.builtin "object.__class__")))
    (x4_Strip : PySem.W.mroIn K C_Strip (.type "object") = some true)
    (x2_ : PySem.W.specialIn K (.builtin "object.__class__") "__get__" = some (some (.builtin "getset_descriptor.__get__")))
    (x3_ : PySem.W.takesIn K (.builtin "object.__class__") = some true)
    (a_law_start : PySem.W.nsIn K mainGlobals "_law_start" = some (some (.ref f_law_start)))
    (l_law_start : K.lookup f_law_start = some ⟨oc_law_start, od_law_start, .func (PySem.W.fnOf "_law_start" "_law_start" (defArgs s_law_start) (defBody s_law_start) (defScope s_law_start) .none kV_law_start dc_law_start pm_law_start an_law_start cd_law_start ct_law_start), sl_law_start⟩)
    (c_law_start : PySem.W.codeIn K cd_law_start "_law_start" = true)
    (k_law_start : PySem.W.keepIn K (.ref f_law_start) = true)
    (a_law_pick : PySem.W.nsIn K mainGlobals "_law_pick" = some (some (.ref f_law_pick)))
    (l_law_pick : K.lookup f_law_pick = some ⟨oc_law_pick, od_law_pick, .func (PySem.W.fnOf "_law_pick" "_law_pick" (defArgs s_law_pick) (defBody s_law_pick) (defScope s_law_pick) .none kV_law_pick dc_law_pick pm_law_pick an_law_pick cd_law_pick ct_law_pick), sl_law_pick⟩)
    (c_law_pick : PySem.W.codeIn K cd_law_pick "_law_pick" = true)
    (k_law_pick : PySem.W.keepIn K (.ref f_law_pick) = true)
    (a_is_integer : PySem.W.nsIn K mainGlobals "is_integer" = some (some (.ref f_is_integer)))
    (l_is_integer : K.lookup f_is_integer = some ⟨oc_is_integer, od_is_integer, .func (PySem.W.fnOf "is_integer" "is_integer" (defArgs s_is_integer) (defBody s_is_integer) (defScope s_is_integer) .none kV_is_integer dc_is_integer pm_is_integer an_is_integer cd_is_integer ct_is_integer), sl_is_integer⟩)
    (c_is_integer : PySem.W.codeIn K cd_is_integer "is_integer" = true)
    (k_is_integer : PySem.W.keepIn K (.ref f_is_integer) = true)
    (a_is_number : PySem.W.nsIn K mainGlobals "is_number" = some (some (.ref f_is_number)))
    (l_is_number : K.lookup f_is_number = some ⟨oc_is_number, od_is_number, .func (PySem.W.fnOf "is_number" "is_number" (defArgs s_is_number) (defBody s_is_number) (defScope s_is_number) .none kV_is_number dc_is_number pm_is_number an_is_number cd_is_number ct_is_number), sl_is_number⟩)
    (c_is_number : PySem.W.codeIn K cd_is_number "is_number" = true)
    (k_is_number : PySem.W.keepIn K (.ref f_is_number) = true)
    (a_is_list : PySem.W.nsIn K mainGlobals "is_list" = some (some (.ref f_is_list)))
    (l_is_list : K.lookup f_is_list = some ⟨oc_is_list, od_is_list, .func (PySem.W.fnOf "is_list" "is_list" (defArgs s_is_list) (defBody s_is_list) (defScope s_is_list) .none kV_is_list dc_is_list pm_is_list an_is_list cd_is_list ct_is_list), sl_is_list⟩)
    (c_is_list : PySem.W.codeIn K cd_is_list "is_list" = true)
    (k_is_list : PySem.W.keepIn K (.ref f_is_list) = true)
    (a_is_text : PySem.W.nsIn K mainGlobals "is_text" = some (some (.ref f_is_text)))
    (l_is_text : K.lookup f_is_text = some ⟨oc_is_text, od_is_text, .func (PySem.W.fnOf "is_text" "is_text" (defArgs s_is_text) (defBody s_is_text) (defScope s_is_text) .none kV_is_text dc_is_text pm_is_text an_is_text cd_is_text ct_is_text), sl_is_text⟩)
    (c_is_text : PySem.W.codeIn K cd_is_text "is_text" = true)
    (k_is_text : PySem.W.keepIn K (.ref f_is_text) = true)
    (a_Laid_init__ : PySem.W.findIn K (.ref C_Laid) "__init__" = some (some (.ref f_Laid_init__)))
    (i_Laid_init__ : PySem.W.isFn K (.ref f_Laid_init__) = true)
    (l_Laid_init__ : K.lookup f_Laid_init__ = some ⟨oc_Laid_init__, od_Laid_init__, .func (PySem.W.fnOf "__init__" "Laid.__init__" (defArgs s_Laid_init__) (defBody s_Laid_init__) (defScope s_Laid_init__) .none kV_Laid_init__ dc_Laid_init__ pm_Laid_init__ an_Laid_init__ cd_Laid_init__ ct_Laid_init__), sl_Laid_init__⟩)
    (c_Laid_init__ : PySem.W.codeIn K cd_Laid_init__ "Laid.__init__" = true)
    (k_Laid_init__ : PySem.W.keepIn K (.ref f_Laid_init__) = true)
    (mk_Laid_init__ : PySem.W.makesIn K C_Laid = true)
    (kc_Laid_init__ : PySem.W.keepIn K (.ref C_Laid) = true)
    (a_Laid_lowest : PySem.W.findIn K (.ref C_Laid) "lowest" = some (some (.ref f_Laid_lowest)))
    (i_Laid_lowest : PySem.W.isFn K (.ref f_Laid_lowest) = true)
    (l_Laid_lowest : K.lookup f_Laid_lowest = some ⟨oc_Laid_lowest, od_Laid_lowest, .func (PySem.W.fnOf "lowest" "Laid.lowest" (defArgs s_Laid_lowest) (defBody s_Laid_lowest) (defScope s_Laid_lowest) .none kV_Laid_lowest dc_Laid_lowest pm_Laid_lowest an_Laid_lowest cd_Laid_lowest ct_Laid_lowest), sl_Laid_lowest⟩)
    (c_Laid_lowest : PySem.W.codeIn K cd_Laid_lowest "Laid.lowest" = true)
    (k_Laid_lowest : PySem.W.keepIn K (.ref f_Laid_lowest) = true)
    (a_Laid_highest : PySem.W.findIn K (.ref C_Laid) "highest" = some (some (.ref f_Laid_highest)))
    (i_Laid_highest : PySem.W.isFn K (.ref f_Laid_highest) = true)
    (l_Laid_highest : K.lookup f_Laid_highest = some ⟨oc_Laid_highest, od_Laid_highest, .func (PySem.W.fnOf "highest" "Laid.highest" (defArgs s_Laid_highest) (defBody s_Laid_highest) (defScope s_Laid_highest) .none kV_Laid_highest dc_Laid_highest pm_Laid_highest an_Laid_highest cd_Laid_highest ct_Laid_highest), sl_Laid_highest⟩)
    (c_Laid_highest : PySem.W.codeIn K cd_Laid_highest "Laid.highest" = true)
    (k_Laid_highest : PySem.W.keepIn K (.ref f_Laid_highest) = true)
    (a_Laid_has_inside : PySem.W.findIn K (.ref C_Laid) "has_inside" = some (some (.ref f_Laid_has_inside)))
    (i_Laid_has_inside : PySem.W.isFn K (.ref f_Laid_has_inside) = true)
    (l_Laid_has_inside : K.lookup f_Laid_has_inside = some ⟨oc_Laid_has_inside, od_Laid_has_inside, .func (PySem.W.fnOf "has_inside" "Laid.has_inside" (defArgs s_Laid_has_inside) (defBody s_Laid_has_inside) (defScope s_Laid_has_inside) .none kV_Laid_has_inside dc_Laid_has_inside pm_Laid_has_inside an_Laid_has_inside cd_Laid_has_inside ct_Laid_has_inside), sl_Laid_has_inside⟩)
    (c_Laid_has_inside : PySem.W.codeIn K cd_Laid_has_inside "Laid.has_inside" = true)
    (k_Laid_has_inside : PySem.W.keepIn K (.ref f_Laid_has_inside) = true)
    (a_Laid_have_common : PySem.W.findIn K (.ref C_Laid) "have_common" = some (some (.ref f_Laid_have_common)))
    (i_Laid_have_common : PySem.W.isFn K (.ref f_Laid_have_common) = true)
    (l_Laid_have_common : K.lookup f_Laid_have_common = some ⟨oc_Laid_have_common, od_Laid_have_common, .func (PySem.W.fnOf "have_common" "Laid.have_common" (defArgs s_Laid_have_common) (defBody s_Laid_have_common) (defScope s_Laid_have_common) .none kV_Laid_have_common dc_Laid_have_common pm_Laid_have_common an_Laid_have_common cd_Laid_have_common ct_Laid_have_common), sl_Laid_have_common⟩)
    (c_Laid_have_common : PySem.W.codeIn K cd_Laid_have_common "Laid.have_common" = true)
    (k_Laid_have_common : PySem.W.keepIn K (.ref f_Laid_have_common) = true)
    (a_Laid_spot_of : PySem.W.findIn K (.ref C_Laid) "spot_of" = some (some (.ref f_Laid_spot_of)))
    (i_Laid_spot_of : PySem.W.isFn K (.ref f_Laid_spot_of) = true)
    (l_Laid_spot_of : K.lookup f_Laid_spot_of = some ⟨oc_Laid_spot_of, od_Laid_spot_of, .func (PySem.W.fnOf "spot_of" "Laid.spot_of" (defArgs s_Laid_spot_of) (defBody s_Laid_spot_of) (defScope s_Laid_spot_of) .none kV_Laid_spot_of dc_Laid_spot_of pm_Laid_spot_of an_Laid_spot_of cd_Laid_spot_of ct_Laid_spot_of), sl_Laid_spot_of⟩)
    (c_Laid_spot_of : PySem.W.codeIn K cd_Laid_spot_of "Laid.spot_of" = true)
    (k_Laid_spot_of : PySem.W.keepIn K (.ref f_Laid_spot_of) = true)
    (a_Laid_is_left : PySem.W.findIn K (.ref C_Laid) "is_left" = some (some (.ref f_Laid_is_left)))
    (i_Laid_is_left : PySem.W.isFn K (.ref f_Laid_is_left) = true)
    (l_Laid_is_left : K.lookup f_Laid_is_left = some ⟨oc_Laid_is_left, od_Laid_is_left, .func (PySem.W.fnOf "is_left" "Laid.is_left" (defArgs s_Laid_is_left) (defBody s_Laid_is_left) (defScope s_Laid_is_left) .none kV_Laid_is_left dc_Laid_is_left pm_Laid_is_left an_Laid_is_left cd_Laid_is_left ct_Laid_is_left), sl_Laid_is_left⟩)
    (c_Laid_is_left : PySem.W.codeIn K cd_Laid_is_left "Laid.is_left" = true)
    (k_Laid_is_left : PySem.W.keepIn K (.ref f_Laid_is_left) = true)
    (a_Laid_touches : PySem.W.findIn K (.ref C_Laid) "touches" = some (some (.ref f_Laid_touches)))
    (i_Laid_touches : PySem.W.isFn K (.ref f_Laid_touches) = true)
    (l_Laid_touches : K.lookup f_Laid_touches = some ⟨oc_Laid_touches, od_Laid_touches, .func (PySem.W.fnOf "touches" "Laid.touches" (defArgs s_Laid_touches) (defBody s_Laid_touches) (defScope s_Laid_touches) .none kV_Laid_touches dc_Laid_touches pm_Laid_touches an_Laid_touches cd_Laid_touches ct_Laid_touches), sl_Laid_touches⟩)
    (c_Laid_touches : PySem.W.codeIn K cd_Laid_touches "Laid.touches" = true)
    (k_Laid_touches : PySem.W.keepIn K (.ref f_Laid_touches) = true)
    (a_places_in : PySem.W.nsIn K mainGlobals "places_in" = some (some (.ref f_places_in)))
    (l_places_in : K.lookup f_places_in = some ⟨oc_places_in, od_places_in, .func (PySem.W.fnOf "places_in" "places_in" (defArgs s_places_in) (defBody s_places_in) (defScope s_places_in) .none kV_places_in dc_places_in pm_places_in an_places_in cd_places_in ct_places_in), sl_places_in⟩)
    (c_places_in : PySem.W.codeIn K cd_places_in "places_in" = true)
    (k_places_in : PySem.W.keepIn K (.ref f_places_in) = true)
    (a_lies_so : PySem.W.nsIn K mainGlobals "lies_so" = some (some (.ref f_lies_so)))
    (l_lies_so : K.lookup f_lies_so = some ⟨oc_lies_so, od_lies_so, .func (PySem.W.fnOf "lies_so" "lies_so" (defArgs s_lies_so) (defBody s_lies_so) (defScope s_lies_so) .none kV_lies_so dc_lies_so pm_lies_so an_lies_so cd_lies_so ct_lies_so), sl_lies_so⟩)
    (c_lies_so : PySem.W.codeIn K cd_lies_so "lies_so" = true)
    (k_lies_so : PySem.W.keepIn K (.ref f_lies_so) = true)
    (a_is_between : PySem.W.nsIn K mainGlobals "is_between" = some (some (.ref f_is_between)))
    (l_is_between : K.lookup f_is_between = some ⟨oc_is_between, od_is_between, .func (PySem.W.fnOf "is_between" "is_between" (defArgs s_is_between) (defBody s_is_between) (defScope s_is_between) .none kV_is_between dc_is_between pm_is_between an_is_between cd_is_between ct_is_between), sl_is_between⟩)
    (c_is_between : PySem.W.codeIn K cd_is_between "is_between" = true)
    (k_is_between : PySem.W.keepIn K (.ref f_is_between) = true)
    (a_told_fault : PySem.W.nsIn K mainGlobals "told_fault" = some (some (.ref f_told_fault)))
    (l_told_fault : K.lookup f_told_fault = some ⟨oc_told_fault, od_told_fault, .func (PySem.W.fnOf "told_fault" "told_fault" (defArgs s_told_fault) (defBody s_told_fault) (defScope s_told_fault) .none kV_told_fault dc_told_fault pm_told_fault an_told_fault cd_told_fault ct_told_fault), sl_told_fault⟩)
    (c_told_fault : PySem.W.codeIn K cd_told_fault "told_fault" = true)
    (k_told_fault : PySem.W.keepIn K (.ref f_told_fault) = true)
    (a_pass_fault : PySem.W.nsIn K mainGlobals "pass_fault" = some (some (.ref f_pass_fault)))
    (l_pass_fault : K.lookup f_pass_fault = some ⟨oc_pass_fault, od_pass_fault, .func (PySem.W.fnOf "pass_fault" "pass_fault" (defArgs s_pass_fault) (defBody s_pass_fault) (defScope s_pass_fault) .none kV_pass_fault dc_pass_fault pm_pass_fault an_pass_fault cd_pass_fault ct_pass_fault), sl_pass_fault⟩)
    (c_pass_fault : PySem.W.codeIn K cd_pass_fault "pass_fault" = true)
    (k_pass_fault : PySem.W.keepIn K (.ref f_pass_fault) = true)
    (a_nest_fault : PySem.W.nsIn K mainGlobals "nest_fault" = some (some (.ref f_nest_fault)))
    (l_nest_fault : K.lookup f_nest_fault = some ⟨oc_nest_fault, od_nest_fault, .func (PySem.W.fnOf "nest_fault" "nest_fault" (defArgs s_nest_fault) (defBody s_nest_fault) (defScope s_nest_fault) .none kV_nest_fault dc_nest_fault pm_nest_fault an_nest_fault cd_nest_fault ct_nest_fault), sl_nest_fault⟩)
    (c_nest_fault : PySem.W.codeIn K cd_nest_fault "nest_fault" = true)
    (k_nest_fault : PySem.W.keepIn K (.ref f_nest_fault) = true)
    (a_fault_among : PySem.W.nsIn K mainGlobals "fault_among" = some (some (.ref f_fault_among)))
    (l_fault_among : K.lookup f_fault_among = some ⟨oc_fault_among, od_fault_among, .func (PySem.W.fnOf "fault_among" "fault_among" (defArgs s_fault_among) (defBody s_fault_among) (defScope s_fault_among) .none kV_fault_among dc_fault_among pm_fault_among an_fault_among cd_fault_among ct_fault_among), sl_fault_among⟩)
    (c_fault_among : PySem.W.codeIn K cd_fault_among "fault_among" = true)
    (k_fault_among : PySem.W.keepIn K (.ref f_fault_among) = true)
    (a_order_fault : PySem.W.nsIn K mainGlobals "order_fault" = some (some (.ref f_order_fault)))
    (l_order_fault : K.lookup f_order_fault = some ⟨oc_order_fault, od_order_fault, .func (PySem.W.fnOf "order_fault" "order_fault" (defArgs s_order_fault) (defBody s_order_fault) (defScope s_order_fault) .none kV_order_fault dc_order_fault pm_order_fault an_order_fault cd_order_fault ct_order_fault), sl_order_fault⟩)
    (c_order_fault : PySem.W.codeIn K cd_order_fault "order_fault" = true)
    (k_order_fault : PySem.W.keepIn K (.ref f_order_fault) = true)
    (a_is_length : PySem.W.nsIn K mainGlobals "is_length" = some (some (.ref f_is_length)))
    (l_is_length : K.lookup f_is_length = some ⟨oc_is_length, od_is_length, .func (PySem.W.fnOf "is_length" "is_length" (defArgs s_is_length) (defBody s_is_length) (defScope s_is_length) .none kV_is_length dc_is_length pm_is_length an_is_length cd_is_length ct_is_length), sl_is_length⟩)
    (c_is_length : PySem.W.codeIn K cd_is_length "is_length" = true)
    (k_is_length : PySem.W.keepIn K (.ref f_is_length) = true)
    (a_is_letter : PySem.W.nsIn K mainGlobals "is_letter" = some (some (.ref f_is_letter)))
    (l_is_letter : K.lookup f_is_letter = some ⟨oc_is_letter, od_is_letter, .func (PySem.W.fnOf "is_letter" "is_letter" (defArgs s_is_letter) (defBody s_is_letter) (defScope s_is_letter) .none kV_is_letter dc_is_letter pm_is_letter an_is_letter cd_is_letter ct_is_letter), sl_is_letter⟩)
    (c_is_letter : PySem.W.codeIn K cd_is_letter "is_letter" = true)
    (k_is_letter : PySem.W.keepIn K (.ref f_is_letter) = true)
    (a_wrong_lengths : PySem.W.nsIn K mainGlobals "wrong_lengths" = some (some (.ref f_wrong_lengths)))
    (l_wrong_lengths : K.lookup f_wrong_lengths = some ⟨oc_wrong_lengths, od_wrong_lengths, .func (PySem.W.fnOf "wrong_lengths" "wrong_lengths" (defArgs s_wrong_lengths) (defBody s_wrong_lengths) (defScope s_wrong_lengths) .none kV_wrong_lengths dc_wrong_lengths pm_wrong_lengths an_wrong_lengths cd_wrong_lengths ct_wrong_lengths), sl_wrong_lengths⟩)
    (c_wrong_lengths : PySem.W.codeIn K cd_wrong_lengths "wrong_lengths" = true)
    (k_wrong_lengths : PySem.W.keepIn K (.ref f_wrong_lengths) = true)
    (a_wrong_letters : PySem.W.nsIn K mainGlobals "wrong_letters" = some (some (.ref f_wrong_letters)))
    (l_wrong_letters : K.lookup f_wrong_letters = some ⟨oc_wrong_letters, od_wrong_letters, .func (PySem.W.fnOf "wrong_letters" "wrong_letters" (defArgs s_wrong_letters) (defBody s_wrong_letters) (defScope s_wrong_letters) .none kV_wrong_letters dc_wrong_letters pm_wrong_letters an_wrong_letters cd_wrong_letters ct_wrong_letters), sl_wrong_letters⟩)
    (c_wrong_letters : PySem.W.codeIn K cd_wrong_letters "wrong_letters" = true)
    (k_wrong_letters : PySem.W.keepIn K (.ref f_wrong_letters) = true)
    (a_Strip_init__ : PySem.W.findIn K (.ref C_Strip) "__init__" = some (some (.ref f_Strip_init__)))
    (i_Strip_init__ : PySem.W.isFn K (.ref f_Strip_init__) = true)
    (l_Strip_init__ : K.lookup f_Strip_init__ = some ⟨oc_Strip_init__, od_Strip_init__, .func (PySem.W.fnOf "__init__" "Strip.__init__" (defArgs s_Strip_init__) (defBody s_Strip_init__) (defScope s_Strip_init__) .none kV_Strip_init__ dc_Strip_init__ pm_Strip_init__ an_Strip_init__ cd_Strip_init__ ct_Strip_init__), sl_Strip_init__⟩)
    (c_Strip_init__ : PySem.W.codeIn K cd_Strip_init__ "Strip.__init__" = true)
    (k_Strip_init__ : PySem.W.keepIn K (.ref f_Strip_init__) = true)
    (mk_Strip_init__ : PySem.W.makesIn K C_Strip = true)
    (kc_Strip_init__ : PySem.W.keepIn K (.ref C_Strip) = true)
    (a_Strip_lengths : PySem.W.findIn K (.ref C_Strip) "lengths" = some (some (.ref f_Strip_lengths)))
    (i_Strip_lengths : PySem.W.isFn K (.ref f_Strip_lengths) = true)
    (l_Strip_lengths : K.lookup f_Strip_lengths = some ⟨oc_Strip_lengths, od_Strip_lengths, .func (PySem.W.fnOf "lengths" "Strip.lengths" (defArgs s_Strip_lengths) (defBody s_Strip_lengths) (defScope s_Strip_lengths) .none kV_Strip_lengths dc_Strip_lengths pm_Strip_lengths an_Strip_lengths cd_Strip_lengths ct_Strip_lengths), sl_Strip_lengths⟩)
    (c_Strip_lengths : PySem.W.codeIn K cd_Strip_lengths "Strip.lengths" = true)
    (k_Strip_lengths : PySem.W.keepIn K (.ref f_Strip_lengths) = true)
    (a_Strip_creases : PySem.W.findIn K (.ref C_Strip) "creases" = some (some (.ref f_Strip_creases)))
    (i_Strip_creases : PySem.W.isFn K (.ref f_Strip_creases) = true)
    (l_Strip_creases : K.lookup f_Strip_creases = some ⟨oc_Strip_creases, od_Strip_creases, .func (PySem.W.fnOf "creases" "Strip.creases" (defArgs s_Strip_creases) (defBody s_Strip_creases) (defScope s_Strip_creases) .none kV_Strip_creases dc_Strip_creases pm_Strip_creases an_Strip_creases cd_Strip_creases ct_Strip_creases), sl_Strip_creases⟩)
    (c_Strip_creases : PySem.W.codeIn K cd_Strip_creases "Strip.creases" = true)
    (k_Strip_creases : PySem.W.keepIn K (.ref f_Strip_creases) = true)
    (a_need_strip : PySem.W.nsIn K mainGlobals "need_strip" = some (some (.ref f_need_strip)))
    (l_need_strip : K.lookup f_need_strip = some ⟨oc_need_strip, od_need_strip, .func (PySem.W.fnOf "need_strip" "need_strip" (defArgs s_need_strip) (defBody s_need_strip) (defScope s_need_strip) .none kV_need_strip dc_need_strip pm_need_strip an_need_strip cd_need_strip ct_need_strip), sl_need_strip⟩)
    (c_need_strip : PySem.W.codeIn K cd_need_strip "need_strip" = true)
    (k_need_strip : PySem.W.keepIn K (.ref f_need_strip) = true)
    (a_is_order_of : PySem.W.nsIn K mainGlobals "is_order_of" = some (some (.ref f_is_order_of)))
    (l_is_order_of : K.lookup f_is_order_of = some ⟨oc_is_order_of, od_is_order_of, .func (PySem.W.fnOf "is_order_of" "is_order_of" (defArgs s_is_order_of) (defBody s_is_order_of) (defScope s_is_order_of) .none kV_is_order_of dc_is_order_of pm_is_order_of an_is_order_of cd_is_order_of ct_is_order_of), sl_is_order_of⟩)
    (c_is_order_of : PySem.W.codeIn K cd_is_order_of "is_order_of" = true)
    (k_is_order_of : PySem.W.keepIn K (.ref f_is_order_of) = true)
    (a_need_order : PySem.W.nsIn K mainGlobals "need_order" = some (some (.ref f_need_order)))
    (l_need_order : K.lookup f_need_order = some ⟨oc_need_order, od_need_order, .func (PySem.W.fnOf "need_order" "need_order" (defArgs s_need_order) (defBody s_need_order) (defScope s_need_order) .none kV_need_order dc_need_order pm_need_order an_need_order cd_need_order ct_need_order), sl_need_order⟩)
    (c_need_order : PySem.W.codeIn K cd_need_order "need_order" = true)
    (k_need_order : PySem.W.keepIn K (.ref f_need_order) = true)
    (a_laid_strip : PySem.W.nsIn K mainGlobals "laid_strip" = some (some (.ref f_laid_strip)))
    (l_laid_strip : K.lookup f_laid_strip = some ⟨oc_laid_strip, od_laid_strip, .func (PySem.W.fnOf "laid_strip" "laid_strip" (defArgs s_laid_strip) (defBody s_laid_strip) (defScope s_laid_strip) .none kV_laid_strip dc_laid_strip pm_laid_strip an_laid_strip cd_laid_strip ct_laid_strip), sl_laid_strip⟩)
    (c_laid_strip : PySem.W.codeIn K cd_laid_strip "laid_strip" = true)
    (k_laid_strip : PySem.W.keepIn K (.ref f_laid_strip) = true)
    (a_folding_fault : PySem.W.nsIn K mainGlobals "folding_fault" = some (some (.ref f_folding_fault)))
    (l_folding_fault : K.lookup f_folding_fault = some ⟨oc_folding_fault, od_folding_fault, .func (PySem.W.fnOf "folding_fault" "folding_fault" (defArgs s_folding_fault) (defBody s_folding_fault) (defScope s_folding_fault) .none kV_folding_fault dc_folding_fault pm_folding_fault an_folding_fault cd_folding_fault ct_folding_fault), sl_folding_fault⟩)
    (c_folding_fault : PySem.W.codeIn K cd_folding_fault "folding_fault" = true)
    (k_folding_fault : PySem.W.keepIn K (.ref f_folding_fault) = true)
    (a_is_folding : PySem.W.nsIn K mainGlobals "is_folding" = some (some (.ref f_is_folding)))
    (l_is_folding : K.lookup f_is_folding = some ⟨oc_is_folding, od_is_folding, .func (PySem.W.fnOf "is_folding" "is_folding" (defArgs s_is_folding) (defBody s_is_folding) (defScope s_is_folding) .none kV_is_folding dc_is_folding pm_is_folding an_is_folding cd_is_folding ct_is_folding), sl_is_folding⟩)
    (c_is_folding : PySem.W.codeIn K cd_is_folding "is_folding" = true)
    (k_is_folding : PySem.W.keepIn K (.ref f_is_folding) = true)
    (a_pairs_over : PySem.W.nsIn K mainGlobals "pairs_over" = some (some (.ref f_pairs_over)))
    (l_pairs_over : K.lookup f_pairs_over = some ⟨oc_pairs_over, od_pairs_over, .func (PySem.W.fnOf "pairs_over" "pairs_over" (defArgs s_pairs_over) (defBody s_pairs_over) (defScope s_pairs_over) .none kV_pairs_over dc_pairs_over pm_pairs_over an_pairs_over cd_pairs_over ct_pairs_over), sl_pairs_over⟩)
    (c_pairs_over : PySem.W.codeIn K cd_pairs_over "pairs_over" = true)
    (k_pairs_over : PySem.W.keepIn K (.ref f_pairs_over) = true)
    (a_same_folding : PySem.W.nsIn K mainGlobals "same_folding" = some (some (.ref f_same_folding)))
    (l_same_folding : K.lookup f_same_folding = some ⟨oc_same_folding, od_same_folding, .func (PySem.W.fnOf "same_folding" "same_folding" (defArgs s_same_folding) (defBody s_same_folding) (defScope s_same_folding) .none kV_same_folding dc_same_folding pm_same_folding an_same_folding cd_same_folding ct_same_folding), sl_same_folding⟩)
    (c_same_folding : PySem.W.codeIn K cd_same_folding "same_folding" = true)
    (k_same_folding : PySem.W.keepIn K (.ref f_same_folding) = true)
    (a_law_one : PySem.W.nsIn K mainGlobals "_law_one" = some (some (.ref f_law_one)))
    (l_law_one : K.lookup f_law_one = some ⟨oc_law_one, od_law_one, .func (PySem.W.fnOf "_law_one" "_law_one" (defArgs s_law_one) (defBody s_law_one) (defScope s_law_one) .none kV_law_one dc_law_one pm_law_one an_law_one cd_law_one ct_law_one), sl_law_one⟩)
    (c_law_one : PySem.W.codeIn K cd_law_one "_law_one" = true)
    (k_law_one : PySem.W.keepIn K (.ref f_law_one) = true)
    (a_law_mixed : PySem.W.nsIn K mainGlobals "_law_mixed" = some (some (.ref f_law_mixed)))
    (l_law_mixed : K.lookup f_law_mixed = some ⟨oc_law_mixed, od_law_mixed, .func (PySem.W.fnOf "_law_mixed" "_law_mixed" (defArgs s_law_mixed) (defBody s_law_mixed) (defScope s_law_mixed) .none kV_law_mixed dc_law_mixed pm_law_mixed an_law_mixed cd_law_mixed ct_law_mixed), sl_law_mixed⟩)
    (c_law_mixed : PySem.W.codeIn K cd_law_mixed "_law_mixed" = true)
    (k_law_mixed : PySem.W.keepIn K (.ref f_law_mixed) = true)
    (a_law_same : PySem.W.nsIn K mainGlobals "_law_same" = some (some (.ref f_law_same)))
    (l_law_same : K.lookup f_law_same = some ⟨oc_law_same, od_law_same, .func (PySem.W.fnOf "_law_same" "_law_same" (defArgs s_law_same) (defBody s_law_same) (defScope s_law_same) .none kV_law_same dc_law_same pm_law_same an_law_same cd_law_same ct_law_same), sl_law_same⟩)
    (c_law_same : PySem.W.codeIn K cd_law_same "_law_same" = true)
    (k_law_same : PySem.W.keepIn K (.ref f_law_same) = true)
    (a_law_orders : PySem.W.nsIn K mainGlobals "_law_orders" = some (some (.ref f_law_orders)))
    (l_law_orders : K.lookup f_law_orders = some ⟨oc_law_orders, od_law_orders, .func (PySem.W.fnOf "_law_orders" "_law_orders" (defArgs s_law_orders) (defBody s_law_orders) (defScope s_law_orders) .none kV_law_orders dc_law_orders pm_law_orders an_law_orders cd_law_orders ct_law_orders), sl_law_orders⟩)
    (c_law_orders : PySem.W.codeIn K cd_law_orders "_law_orders" = true)
    (k_law_orders : PySem.W.keepIn K (.ref f_law_orders) = true)
    (a_law : PySem.W.nsIn K mainGlobals "law" = some (some (.ref f_law)))
    (l_law : K.lookup f_law = some ⟨oc_law, od_law, .func (PySem.W.fnOf "law" "law" (defArgs s_law) (defBody s_law) (defScope s_law) .none kV_law dc_law pm_law an_law cd_law ct_law), sl_law⟩)
    (c_law : PySem.W.codeIn K cd_law "law" = true)
    (k_law : PySem.W.keepIn K (.ref f_law) = true)
    (z_abs : PySem.W.nsIn K mainGlobals "abs" = some none)
    (z_all : PySem.W.nsIn K mainGlobals "all" = some none)
    (z_any : PySem.W.nsIn K mainGlobals "any" = some none)
    (z_bool : PySem.W.nsIn K mainGlobals "bool" = some none)
    (z_dict : PySem.W.nsIn K mainGlobals "dict" = some none)
    (z_enumerate : PySem.W.nsIn K mainGlobals "enumerate" = some none)
    (z_int : PySem.W.nsIn K mainGlobals "int" = some none)
    (z_isinstance : PySem.W.nsIn K mainGlobals "isinstance" = some none)
    (z_len : PySem.W.nsIn K mainGlobals "len" = some none)
    (z_list : PySem.W.nsIn K mainGlobals "list" = some none)
    (z_max : PySem.W.nsIn K mainGlobals "max" = some none)
    (z_min : PySem.W.nsIn K mainGlobals "min" = some none)
    (z_range : PySem.W.nsIn K mainGlobals "range" = some none)
    (z_sorted : PySem.W.nsIn K mainGlobals "sorted" = some none)
    (z_str : PySem.W.nsIn K mainGlobals "str" = some none)
    (z_sum : PySem.W.nsIn K mainGlobals "sum" = some none)
    (z_tuple : PySem.W.nsIn K mainGlobals "tuple" = some none)
    (z_zip : PySem.W.nsIn K mainGlobals "zip" = some none)
    : ∃ fd : FuncData, (∀ (s : Shared) (v : Value), BindsTo s fd ⟨[v], []⟩ [("script", v)]) ∧ ∀ base : Heap, K.In base → base.Ns mainGlobals mg → FnOk l.prog w K mg base (L2.CX l.prog w) 22 fa fd ["script"] (spLaw 63 K) := by
  have e := hfa.symm.trans (PySem.W.mg_of X G a_law)
  cases e
  have K_Laid : Cls K C_Laid := ⟨pg_Laid, hd_Laid, po_Laid, sa_Laid⟩
  have m_Laid := PySem.W.mg_of X G aC_Laid
  have T_Laid : ClF K mg "Laid" := ⟨C_Laid, m_Laid, K_Laid⟩
  have K_Strip : Cls K C_Strip := ⟨pg_Strip, hd_Strip, po_Strip, sa_Strip⟩
  have m_Strip := PySem.W.mg_of X G aC_Strip
  have T_Strip : ClF K mg "Strip" := ⟨C_Strip, m_Strip, K_Strip⟩
  have T_Laid_ends : ∀ C, mg "Laid" = some (.ref C) → NoAttr K C "ends" := fun C hC => by rw [m_Laid] at hC; cases hC; exact n_Laid_ends
  have T_Laid_joints : ∀ C, mg "Laid" = some (.ref C) → NoAttr K C "joints" := fun C hC => by rw [m_Laid] at hC; cases hC; exact n_Laid_joints
  have T_Laid_many : ∀ C, mg "Laid" = some (.ref C) → NoAttr K C "many" := fun C hC => by rw [m_Laid] at hC; cases hC; exact n_Laid_many
  have T_Laid_signs : ∀ C, mg "Laid" = some (.ref C) → NoAttr K C "signs" := fun C hC => by rw [m_Laid] at hC; cases hC; exact n_Laid_signs
  have T_Strip__creases : ∀ C, mg "Strip" = some (.ref C) → NoAttr K C "_creases" := fun C hC => by rw [m_Strip] at hC; cases hC; exact n_Strip__creases
  have T_Strip__lengths : ∀ C, mg "Strip" = some (.ref C) → NoAttr K C "_lengths" := fun C hC => by rw [m_Strip] at hC; cases hC; exact n_Strip__lengths
  have I_Strip : InF K mg "Strip" := ⟨C_Strip, m_Strip, K_Strip, x1_Strip, x2_, x3_, x4_Strip⟩
  have F_law_start := fun_mk (st := s_law_start) l_law_start c_law_start k_law_start
  have b_law_start := F_law_start.binds (ps := ["script"]) fun _ _ _ _ _ _ us hl => match us, hl with | [_], _ => rfl
  have F_law_pick := fun_mk (st := s_law_pick) l_law_pick c_law_pick k_law_pick
  have b_law_pick := F_law_pick.binds (ps := ["state", "many"]) fun _ _ _ _ _ _ us hl => match us, hl with | [_, _], _ => rfl
  have F_is_integer := fun_mk (st := s_is_integer) l_is_integer c_is_integer k_is_integer
  have b_is_integer := F_is_integer.binds (ps := ["thing"]) fun _ _ _ _ _ _ us hl => match us, hl with | [_], _ => rfl
  have F_is_number := fun_mk (st := s_is_number) l_is_number c_is_number k_is_number
  have b_is_number := F_is_number.binds (ps := ["thing"]) fun _ _ _ _ _ _ us hl => match us, hl with | [_], _ => rfl
  have F_is_list := fun_mk (st := s_is_list) l_is_list c_is_list k_is_list
  have b_is_list := F_is_list.binds (ps := ["thing"]) fun _ _ _ _ _ _ us hl => match us, hl with | [_], _ => rfl
  have F_is_text := fun_mk (st := s_is_text) l_is_text c_is_text k_is_text
  have b_is_text := F_is_text.binds (ps := ["thing"]) fun _ _ _ _ _ _ us hl => match us, hl with | [_], _ => rfl
  have F_Laid_init__ := fun_mk (st := s_Laid_init__) l_Laid_init__ c_Laid_init__ k_Laid_init__
  have b_Laid_init__ := F_Laid_init__.binds (ps := ["self", "lengths", "letters", "closed"]) fun _ _ _ _ _ _ us hl => match us, hl with | [_, _, _, _], _ => rfl
  have F_Laid_lowest := fun_mk (st := s_Laid_lowest) l_Laid_lowest c_Laid_lowest k_Laid_lowest
  have b_Laid_lowest := F_Laid_lowest.binds (ps := ["self", "segment"]) fun _ _ _ _ _ _ us hl => match us, hl with | [_, _], _ => rfl
  have F_Laid_highest := fun_mk (st := s_Laid_highest) l_Laid_highest c_Laid_highest k_Laid_highest
  have b_Laid_highest := F_Laid_highest.binds (ps := ["self", "segment"]) fun _ _ _ _ _ _ us hl => match us, hl with | [_, _], _ => rfl
  have F_Laid_has_inside := fun_mk (st := s_Laid_has_inside) l_Laid_has_inside c_Laid_has_inside k_Laid_has_inside
  have b_Laid_has_inside := F_Laid_has_inside.binds (ps := ["self", "segment", "spot"]) fun _ _ _ _ _ _ us hl => match us, hl with | [_, _, _], _ => rfl
  have F_Laid_have_common := fun_mk (st := s_Laid_have_common) l_Laid_have_common c_Laid_have_common k_Laid_have_common
  have b_Laid_have_common := F_Laid_have_common.binds (ps := ["self", "segment", "other"]) fun _ _ _ _ _ _ us hl => match us, hl with | [_, _, _], _ => rfl
  have F_Laid_spot_of := fun_mk (st := s_Laid_spot_of) l_Laid_spot_of c_Laid_spot_of k_Laid_spot_of
  have b_Laid_spot_of := F_Laid_spot_of.binds (ps := ["self", "crease"]) fun _ _ _ _ _ _ us hl => match us, hl with | [_, _], _ => rfl
  have F_Laid_is_left := fun_mk (st := s_Laid_is_left) l_Laid_is_left c_Laid_is_left k_Laid_is_left
  have b_Laid_is_left := F_Laid_is_left.binds (ps := ["self", "joint"]) fun _ _ _ _ _ _ us hl => match us, hl with | [_, _], _ => rfl
  have F_Laid_touches := fun_mk (st := s_Laid_touches) l_Laid_touches c_Laid_touches k_Laid_touches
  have b_Laid_touches := F_Laid_touches.binds (ps := ["self", "joint", "other"]) fun _ _ _ _ _ _ us hl => match us, hl with | [_, _, _], _ => rfl
  have F_places_in := fun_mk (st := s_places_in) l_places_in c_places_in k_places_in
  have b_places_in := F_places_in.binds (ps := ["order"]) fun _ _ _ _ _ _ us hl => match us, hl with | [_], _ => rfl
  have F_lies_so := fun_mk (st := s_lies_so) l_lies_so c_lies_so k_lies_so
  have b_lies_so := F_lies_so.binds (ps := ["letter", "joint", "places"]) fun _ _ _ _ _ _ us hl => match us, hl with | [_, _, _], _ => rfl
  have F_is_between := fun_mk (st := s_is_between) l_is_between c_is_between k_is_between
  have b_is_between := F_is_between.binds (ps := ["places", "segment", "joint"]) fun _ _ _ _ _ _ us hl => match us, hl with | [_, _, _], _ => rfl
  have F_told_fault := fun_mk (st := s_told_fault) l_told_fault c_told_fault k_told_fault
  have b_told_fault := F_told_fault.binds (ps := ["laid", "joints", "places"]) fun _ _ _ _ _ _ us hl => match us, hl with | [_, _, _], _ => rfl
  have F_pass_fault := fun_mk (st := s_pass_fault) l_pass_fault c_pass_fault k_pass_fault
  have b_pass_fault := F_pass_fault.binds (ps := ["laid", "joints", "segments", "places"]) fun _ _ _ _ _ _ us hl => match us, hl with | [_, _, _, _], _ => rfl
  have F_nest_fault := fun_mk (st := s_nest_fault) l_nest_fault c_nest_fault k_nest_fault
  have b_nest_fault := F_nest_fault.binds (ps := ["laid", "joints", "places"]) fun _ _ _ _ _ _ us hl => match us, hl with | [_, _, _], _ => rfl
  have F_fault_among := fun_mk (st := s_fault_among) l_fault_among c_fault_among k_fault_among
  have b_fault_among := F_fault_among.binds (ps := ["laid", "joints", "segments", "order"]) fun _ _ _ _ _ _ us hl => match us, hl with | [_, _, _, _], _ => rfl
  have F_order_fault := fun_mk (st := s_order_fault) l_order_fault c_order_fault k_order_fault
  have b_order_fault := F_order_fault.binds (ps := ["laid", "order"]) fun _ _ _ _ _ _ us hl => match us, hl with | [_, _], _ => rfl
  have F_is_length := fun_mk (st := s_is_length) l_is_length c_is_length k_is_length
  have b_is_length := F_is_length.binds (ps := ["thing"]) fun _ _ _ _ _ _ us hl => match us, hl with | [_], _ => rfl
  have F_is_letter := fun_mk (st := s_is_letter) l_is_letter c_is_letter k_is_letter
  have b_is_letter := F_is_letter.binds (ps := ["thing"]) fun _ _ _ _ _ _ us hl => match us, hl with | [_], _ => rfl
  have F_wrong_lengths := fun_mk (st := s_wrong_lengths) l_wrong_lengths c_wrong_lengths k_wrong_lengths
  have b_wrong_lengths := F_wrong_lengths.binds (ps := ["lengths"]) fun _ _ _ _ _ _ us hl => match us, hl with | [_], _ => rfl
  have F_wrong_letters := fun_mk (st := s_wrong_letters) l_wrong_letters c_wrong_letters k_wrong_letters
  have b_wrong_letters := F_wrong_letters.binds (ps := ["many", "letters"]) fun _ _ _ _ _ _ us hl => match us, hl with | [_, _], _ => rfl
  have F_Strip_init__ := fun_mk (st := s_Strip_init__) l_Strip_init__ c_Strip_init__ k_Strip_init__
  have b_Strip_init__ := F_Strip_init__.binds (ps := ["self", "lengths", "creases"]) fun _ _ _ _ _ _ us hl => match us, hl with | [_, _, _], _ => rfl
  have F_Strip_lengths := fun_mk (st := s_Strip_lengths) l_Strip_lengths c_Strip_lengths k_Strip_lengths
  have b_Strip_lengths := F_Strip_lengths.binds (ps := ["self"]) fun _ _ _ _ _ _ us hl => match us, hl with | [_], _ => rfl
  have F_Strip_creases := fun_mk (st := s_Strip_creases) l_Strip_creases c_Strip_creases k_Strip_creases
  have b_Strip_creases := F_Strip_creases.binds (ps := ["self"]) fun _ _ _ _ _ _ us hl => match us, hl with | [_], _ => rfl
  have F_need_strip := fun_mk (st := s_need_strip) l_need_strip c_need_strip k_need_strip
  have b_need_strip := F_need_strip.binds (ps := ["strip"]) fun _ _ _ _ _ _ us hl => match us, hl with | [_], _ => rfl
  have F_is_order_of := fun_mk (st := s_is_order_of) l_is_order_of c_is_order_of k_is_order_of
  have b_is_order_of := F_is_order_of.binds (ps := ["many", "thing"]) fun _ _ _ _ _ _ us hl => match us, hl with | [_, _], _ => rfl
  have F_need_order := fun_mk (st := s_need_order) l_need_order c_need_order k_need_order
  have b_need_order := F_need_order.binds (ps := ["many", "order"]) fun _ _ _ _ _ _ us hl => match us, hl with | [_, _], _ => rfl
  have F_laid_strip := fun_mk (st := s_laid_strip) l_laid_strip c_laid_strip k_laid_strip
  have b_laid_strip := F_laid_strip.binds (ps := ["strip"]) fun _ _ _ _ _ _ us hl => match us, hl with | [_], _ => rfl
  have F_folding_fault := fun_mk (st := s_folding_fault) l_folding_fault c_folding_fault k_folding_fault
  have b_folding_fault := F_folding_fault.binds (ps := ["strip", "order"]) fun _ _ _ _ _ _ us hl => match us, hl with | [_, _], _ => rfl
  have F_is_folding := fun_mk (st := s_is_folding) l_is_folding c_is_folding k_is_folding
  have b_is_folding := F_is_folding.binds (ps := ["strip", "order"]) fun _ _ _ _ _ _ us hl => match us, hl with | [_, _], _ => rfl
  have F_pairs_over := fun_mk (st := s_pairs_over) l_pairs_over c_pairs_over k_pairs_over
  have b_pairs_over := F_pairs_over.binds (ps := ["laid", "order"]) fun _ _ _ _ _ _ us hl => match us, hl with | [_, _], _ => rfl
  have F_same_folding := fun_mk (st := s_same_folding) l_same_folding c_same_folding k_same_folding
  have b_same_folding := F_same_folding.binds (ps := ["strip", "order", "other"]) fun _ _ _ _ _ _ us hl => match us, hl with | [_, _, _], _ => rfl
  have F_law_one := fun_mk (st := s_law_one) l_law_one c_law_one k_law_one
  have b_law_one := F_law_one.binds (ps := ["state", "things"]) fun _ _ _ _ _ _ us hl => match us, hl with | [_, _], _ => rfl
  have F_law_mixed := fun_mk (st := s_law_mixed) l_law_mixed c_law_mixed k_law_mixed
  have b_law_mixed := F_law_mixed.binds (ps := ["state", "things"]) fun _ _ _ _ _ _ us hl => match us, hl with | [_, _], _ => rfl
  have F_law_same := fun_mk (st := s_law_same) l_law_same c_law_same k_law_same
  have b_law_same := F_law_same.binds (ps := ["found", "due"]) fun _ _ _ _ _ _ us hl => match us, hl with | [_, _], _ => rfl
  have F_law_orders := fun_mk (st := s_law_orders) l_law_orders c_law_orders k_law_orders
  have b_law_orders := F_law_orders.binds (ps := ["many"]) fun _ _ _ _ _ _ us hl => match us, hl with | [_], _ => rfl
  have F_law := fun_mk (st := s_law) l_law c_law k_law
  have B : Bt mg := ⟨PySem.W.mg_none_of X G z_abs, PySem.W.mg_none_of X G z_all, PySem.W.mg_none_of X G z_any, PySem.W.mg_none_of X G z_bool, PySem.W.mg_none_of X G z_dict, PySem.W.mg_none_of X G z_enumerate, PySem.W.mg_none_of X G z_int, PySem.W.mg_none_of X G z_isinstance, PySem.W.mg_none_of X G z_len, PySem.W.mg_none_of X G z_list, PySem.W.mg_none_of X G z_max, PySem.W.mg_none_of X G z_min, PySem.W.mg_none_of X G z_range, PySem.W.mg_none_of X G z_sorted, PySem.W.mg_none_of X G z_str, PySem.W.mg_none_of X G z_sum, PySem.W.mg_none_of X G z_tuple, PySem.W.mg_none_of X G z_zip⟩
  refine ⟨PySem.W.fnOf "law" "law" (defArgs s_law) (defBody s_law) (defScope s_law) .none kV_law dc_law pm_law an_law cd_law ct_law, fun s v => .of_eq rfl, fun base _ _ => ?_⟩
  have hS : StOk l.prog w K mg base := ok_law_start B F_law_start (PySem.W.mg_of X G a_law_start) b_law_start
  have h_law_pick : FOk l.prog w K mg base "_law_pick" 2 1 .rep dPick := ok_pick F_law_pick (PySem.W.mg_of X G a_law_pick) b_law_pick B.abs B.int
  have h_is_integer : FOk l.prog w K mg base "is_integer" 1 1 .rep d_is_integer := ok_is_integer B F_is_integer (PySem.W.mg_of X G a_is_integer) b_is_integer 
  have h_is_number : FOk l.prog w K mg base "is_number" 1 2 .rep d_is_number := ok_is_number B F_is_number (PySem.W.mg_of X G a_is_number) b_is_number h_is_integer
  have h_is_list : FOk l.prog w K mg base "is_list" 1 1 .rep d_is_list := ok_is_list B F_is_list (PySem.W.mg_of X G a_is_list) b_is_list 
  have h_is_text : FOk l.prog w K mg base "is_text" 1 1 .rep d_is_text := ok_is_text B F_is_text (PySem.W.mg_of X G a_is_text) b_is_text 
  have h_Laid_init__ : IOk l.prog w K mg base "Laid" 4 1 d_Laid_init__ := ok_Laid_init__ B F_Laid_init__ m_Laid ⟨mk_Laid_init__, a_Laid_init__, i_Laid_init__, kc_Laid_init__⟩ b_Laid_init__ T_Laid T_Laid_ends T_Laid_joints T_Laid_many T_Laid_signs
  have h_Laid_lowest : MOk l.prog w K mg base "Laid" "lowest" 2 1 .rep d_Laid_lowest := ok_Laid_lowest B F_Laid_lowest m_Laid K_Laid ⟨a_Laid_lowest, i_Laid_lowest, k_Laid_lowest⟩ b_Laid_lowest T_Laid T_Laid_ends
  have h_Laid_highest : MOk l.prog w K mg base "Laid" "highest" 2 1 .rep d_Laid_highest := ok_Laid_highest B F_Laid_highest m_Laid K_Laid ⟨a_Laid_highest, i_Laid_highest, k_Laid_highest⟩ b_Laid_highest T_Laid T_Laid_ends
  have h_Laid_has_inside : MOk l.prog w K mg base "Laid" "has_inside" 3 2 .rep d_Laid_has_inside := ok_Laid_has_inside B F_Laid_has_inside m_Laid K_Laid ⟨a_Laid_has_inside, i_Laid_has_inside, k_Laid_has_inside⟩ b_Laid_has_inside h_Laid_lowest h_Laid_highest
  have h_Laid_have_common : MOk l.prog w K mg base "Laid" "have_common" 3 2 .rep d_Laid_have_common := ok_Laid_have_common B F_Laid_have_common m_Laid K_Laid ⟨a_Laid_have_common, i_Laid_have_common, k_Laid_have_common⟩ b_Laid_have_common h_Laid_lowest h_Laid_highest
  have h_Laid_spot_of : MOk l.prog w K mg base "Laid" "spot_of" 2 1 .rep d_Laid_spot_of := ok_Laid_spot_of B F_Laid_spot_of m_Laid K_Laid ⟨a_Laid_spot_of, i_Laid_spot_of, k_Laid_spot_of⟩ b_Laid_spot_of T_Laid T_Laid_ends
  have h_Laid_is_left : MOk l.prog w K mg base "Laid" "is_left" 2 2 .rep d_Laid_is_left := ok_Laid_is_left B F_Laid_is_left m_Laid K_Laid ⟨a_Laid_is_left, i_Laid_is_left, k_Laid_is_left⟩ b_Laid_is_left h_Laid_highest h_Laid_spot_of
  have h_Laid_touches : MOk l.prog w K mg base "Laid" "touches" 3 3 .rep d_Laid_touches := ok_Laid_touches B F_Laid_touches m_Laid K_Laid ⟨a_Laid_touches, i_Laid_touches, k_Laid_touches⟩ b_Laid_touches h_Laid_is_left h_Laid_spot_of
  have h_places_in : FOk l.prog w K mg base "places_in" 1 1 .frs d_places_in := ok_places_in B F_places_in (PySem.W.mg_of X G a_places_in) b_places_in 
  have h_lies_so : FOk l.prog w K mg base "lies_so" 3 1 .rep d_lies_so := ok_lies_so B F_lies_so (PySem.W.mg_of X G a_lies_so) b_lies_so 
  have h_is_between : FOk l.prog w K mg base "is_between" 3 1 .rep d_is_between := ok_is_between B F_is_between (PySem.W.mg_of X G a_is_between) b_is_between 
  have h_told_fault : FOk l.prog w K mg base "told_fault" 3 2 .rep d_told_fault := ok_told_fault B F_told_fault (PySem.W.mg_of X G a_told_fault) b_told_fault h_lies_so T_Laid T_Laid_signs
  have h_pass_fault : FOk l.prog w K mg base "pass_fault" 4 3 .rep d_pass_fault := ok_pass_fault B F_pass_fault (PySem.W.mg_of X G a_pass_fault) b_pass_fault h_is_between h_Laid_has_inside h_Laid_spot_of
  have h_nest_fault : FOk l.prog w K mg base "nest_fault" 3 4 .rep d_nest_fault := ok_nest_fault B F_nest_fault (PySem.W.mg_of X G a_nest_fault) b_nest_fault h_Laid_touches h_is_between
  have h_fault_among : FOk l.prog w K mg base "fault_among" 4 5 .rep d_fault_among := ok_fault_among B F_fault_among (PySem.W.mg_of X G a_fault_among) b_fault_among h_places_in h_told_fault h_pass_fault h_nest_fault
  have h_order_fault : FOk l.prog w K mg base "order_fault" 2 6 .rep d_order_fault := ok_order_fault B F_order_fault (PySem.W.mg_of X G a_order_fault) b_order_fault h_fault_among T_Laid T_Laid_joints T_Laid_many
  have h_is_length : FOk l.prog w K mg base "is_length" 1 2 .rep d_is_length := ok_is_length B F_is_length (PySem.W.mg_of X G a_is_length) b_is_length h_is_integer
  have h_is_letter : FOk l.prog w K mg base "is_letter" 1 2 .rep d_is_letter := ok_is_letter B F_is_letter (PySem.W.mg_of X G a_is_letter) b_is_letter h_is_text
  have h_wrong_lengths : FOk l.prog w K mg base "wrong_lengths" 1 3 .rep d_wrong_lengths := ok_wrong_lengths B F_wrong_lengths (PySem.W.mg_of X G a_wrong_lengths) b_wrong_lengths h_is_list h_is_length
  have h_wrong_letters : FOk l.prog w K mg base "wrong_letters" 2 3 .rep d_wrong_letters := ok_wrong_letters B F_wrong_letters (PySem.W.mg_of X G a_wrong_letters) b_wrong_letters h_is_list h_is_letter
  have h_Strip_init__ : IOk l.prog w K mg base "Strip" 3 4 d_Strip_init__ := ok_Strip_init__ B F_Strip_init__ m_Strip ⟨mk_Strip_init__, a_Strip_init__, i_Strip_init__, kc_Strip_init__⟩ b_Strip_init__ h_wrong_lengths h_wrong_letters T_Strip T_Strip__creases T_Strip__lengths
  have h_Strip_lengths : MOk l.prog w K mg base "Strip" "lengths" 1 1 .frs d_Strip_lengths := ok_Strip_lengths B F_Strip_lengths m_Strip K_Strip ⟨a_Strip_lengths, i_Strip_lengths, k_Strip_lengths⟩ b_Strip_lengths T_Strip T_Strip__lengths
  have h_Strip_creases : MOk l.prog w K mg base "Strip" "creases" 1 1 .frs d_Strip_creases := ok_Strip_creases B F_Strip_creases m_Strip K_Strip ⟨a_Strip_creases, i_Strip_creases, k_Strip_creases⟩ b_Strip_creases T_Strip T_Strip__creases
  have h_need_strip : FOk l.prog w K mg base "need_strip" 1 1 .rep d_need_strip := ok_need_strip B F_need_strip (PySem.W.mg_of X G a_need_strip) b_need_strip I_Strip
  have h_is_order_of : FOk l.prog w K mg base "is_order_of" 2 3 .rep d_is_order_of := ok_is_order_of B F_is_order_of (PySem.W.mg_of X G a_is_order_of) b_is_order_of h_is_number h_is_list
  have h_need_order : FOk l.prog w K mg base "need_order" 2 4 .rep d_need_order := ok_need_order B F_need_order (PySem.W.mg_of X G a_need_order) b_need_order h_is_order_of
  have h_laid_strip : FOk l.prog w K mg base "laid_strip" 1 3 .frs d_laid_strip := ok_laid_strip B F_laid_strip (PySem.W.mg_of X G a_laid_strip) b_laid_strip h_Laid_init__ h_Strip_creases h_Strip_lengths
  have h_folding_fault : FOk l.prog w K mg base "folding_fault" 2 7 .rep d_folding_fault := ok_folding_fault B F_folding_fault (PySem.W.mg_of X G a_folding_fault) b_folding_fault h_need_strip h_need_order h_Strip_lengths h_order_fault h_laid_strip
  have h_is_folding : FOk l.prog w K mg base "is_folding" 2 8 .rep d_is_folding := ok_is_folding B F_is_folding (PySem.W.mg_of X G a_is_folding) b_is_folding h_folding_fault
  have h_pairs_over : FOk l.prog w K mg base "pairs_over" 2 3 .frs d_pairs_over := ok_pairs_over B F_pairs_over (PySem.W.mg_of X G a_pairs_over) b_pairs_over h_Laid_have_common
  have h_same_folding : FOk l.prog w K mg base "same_folding" 3 5 .rep d_same_folding := ok_same_folding B F_same_folding (PySem.W.mg_of X G a_same_folding) b_same_folding h_need_strip h_need_order h_Strip_lengths h_is_order_of h_laid_strip h_pairs_over
  have h_law_one : FOk l.prog w K mg base "_law_one" 2 2 .rep d_law_one := ok_law_one B F_law_one (PySem.W.mg_of X G a_law_one) b_law_one h_law_pick
  have h_law_mixed : FOk l.prog w K mg base "_law_mixed" 2 2 .frs d_law_mixed := ok_law_mixed B F_law_mixed (PySem.W.mg_of X G a_law_mixed) b_law_mixed h_law_pick
  have h_law_same : FOk l.prog w K mg base "_law_same" 2 21 .rep d_law_same := ok_law_same B F_law_same (PySem.W.mg_of X G a_law_same) b_law_same 
  have h_law_orders : FOk l.prog w K mg base "_law_orders" 1 1 .rep d_law_orders := ok_law_orders B F_law_orders (PySem.W.mg_of X G a_law_orders) b_law_orders 
  exact ok_law B F_law hS h_law_pick h_Strip_init__ h_law_orders h_is_folding h_law_one h_law_same h_same_folding h_law_mixed law_plain
end Tr
open PySem PySem.W PyProof.Rows in
set_option maxRecDepth 100000 in
set_option maxHeartbeats 0 in
theorem PySem.Challenge.cw_foldflat_k13_whole_stamps_holds : PySem.Challenge.rw_foldflat_k13_whole_stamps.Holds := by
  w_on; o_law; k_head; (case hw => w_witness2)
  k_fill
  refine Tr.law_walk 22 (l := PySem.Challenge.rw_foldflat_k13_whole_stamps) rfl rfl ⟨rfl, by decide, by decide⟩ (fun w h Y => PySem.W.kIn_of Y) ?F
  case F =>
    intro w mg fa h KX G hmg
    refine' Tr.all_mk KX G hmg ?aC_Laid ?pg_Laid ?hd_Laid ?po_Laid ?sa_Laid ?aC_Strip ?pg_Strip ?hd_Strip ?po_Strip ?sa_Strip ?n_Laid_ends ?n_Laid_joints ?n_Laid_many ?n_Laid_signs ?n_Strip__creases ?n_Strip__lengths ?x1_Strip ?x4_Strip ?x2_ ?x3_ ?a_law_start ?l_law_start ?c_law_start ?k_law_start ?a_law_pick ?l_law_pick ?c_law_pick ?k_law_pick ?a_is_integer ?l_is_integer ?c_is_integer ?k_is_integer ?a_is_number ?l_is_number ?c_is_number ?k_is_number ?a_is_list ?l_is_list ?c_is_list ?k_is_list ?a_is_text ?l_is_text ?c_is_text ?k_is_text ?a_Laid_init__ ?i_Laid_init__ ?l_Laid_init__ ?c_Laid_init__ ?k_Laid_init__ ?mk_Laid_init__ ?kc_Laid_init__ ?a_Laid_lowest ?i_Laid_lowest ?l_Laid_lowest ?c_Laid_lowest ?k_Laid_lowest ?a_Laid_highest ?i_Laid_highest ?l_Laid_highest ?c_Laid_highest ?k_Laid_highest ?a_Laid_has_inside ?i_Laid_has_inside ?l_Laid_has_inside ?c_Laid_has_inside ?k_Laid_has_inside ?a_Laid_have_common ?i_Laid_have_common ?l_Laid_have_common ?c_Laid_have_common ?k_Laid_have_common ?a_Laid_spot_of ?i_Laid_spot_of ?l_Laid_spot_of ?c_Laid_spot_of ?k_Laid_spot_of ?a_Laid_is_left ?i_Laid_is_left ?l_Laid_is_left ?c_Laid_is_left ?k_Laid_is_left ?a_Laid_touches ?i_Laid_touches ?l_Laid_touches ?c_Laid_touches ?k_Laid_touches ?a_places_in ?l_places_in ?c_places_in ?k_places_in ?a_lies_so ?l_lies_so ?c_lies_so ?k_lies_so ?a_is_between ?l_is_between ?c_is_between ?k_is_between ?a_told_fault ?l_told_fault ?c_told_fault ?k_told_fault ?a_pass_fault ?l_pass_fault ?c_pass_fault ?k_pass_fault ?a_nest_fault ?l_nest_fault ?c_nest_fault ?k_nest_fault ?a_fault_among ?l_fault_among ?c_fault_among ?k_fault_among ?a_order_fault ?l_order_fault ?c_order_fault ?k_order_fault ?a_is_length ?l_is_length ?c_is_length ?k_is_length ?a_is_letter ?l_is_letter ?c_is_letter ?k_is_letter ?a_wrong_lengths ?l_wrong_lengths ?c_wrong_lengths ?k_wrong_lengths ?a_wrong_letters ?l_wrong_letters ?c_wrong_letters ?k_wrong_letters ?a_Strip_init__ ?i_Strip_init__ ?l_Strip_init__ ?c_Strip_init__ ?k_Strip_init__ ?mk_Strip_init__ ?kc_Strip_init__ ?a_Strip_lengths ?i_Strip_lengths ?l_Strip_lengths ?c_Strip_lengths ?k_Strip_lengths ?a_Strip_creases ?i_Strip_creases ?l_Strip_creases ?c_Strip_creases ?k_Strip_creases ?a_need_strip ?l_need_strip ?c_need_strip ?k_need_strip ?a_is_order_of ?l_is_order_of ?c_is_order_of ?k_is_order_of ?a_need_order ?l_need_order ?c_need_order ?k_need_order ?a_laid_strip ?l_laid_strip ?c_laid_strip ?k_laid_strip ?a_folding_fault ?l_folding_fault ?c_folding_fault ?k_folding_fault ?a_is_folding ?l_is_folding ?c_is_folding ?k_is_folding ?a_pairs_over ?l_pairs_over ?c_pairs_over ?k_pairs_over ?a_same_folding ?l_same_folding ?c_same_folding ?k_same_folding ?a_law_one ?l_law_one ?c_law_one ?k_law_one ?a_law_mixed ?l_law_mixed ?c_law_mixed ?k_law_mixed ?a_law_same ?l_law_same ?c_law_same ?k_law_same ?a_law_orders ?l_law_orders ?c_law_orders ?k_law_orders ?a_law ?l_law ?c_law ?k_law ?z_abs ?z_all ?z_any ?z_bool ?z_dict ?z_enumerate ?z_int ?z_isinstance ?z_len ?z_list ?z_max ?z_min ?z_range ?z_sorted ?z_str ?z_sum ?z_tuple ?z_zip
    (case aC_Laid => k_is)
    (case pg_Laid => k_is)
    (case hd_Laid => k_is)
    (case po_Laid => k_is)
    (case sa_Laid => k_is)
    (case aC_Strip => k_is)
    (case pg_Strip => k_is)
    (case hd_Strip => k_is)
    (case po_Strip => k_is)
    (case sa_Strip => k_is)
    (case n_Laid_ends => k_is)
    (case n_Laid_joints => k_is)
    (case n_Laid_many => k_is)
    (case n_Laid_signs => k_is)
    (case n_Strip__creases => k_is)
    (case n_Strip__lengths => k_is)
    (case x1_Strip => k_is)
    (case x4_Strip => k_is)
    (case x2_ => k_is)
    (case x3_ => k_is)
    (case a_law_start => k_is)
    (case l_law_start => k_is)
    (case c_law_start => k_is)
    (case k_law_start => k_is)
    (case a_law_pick => k_is)
    (case l_law_pick => k_is)
    (case c_law_pick => k_is)
    (case k_law_pick => k_is)
    (case a_is_integer => k_is)
    (case l_is_integer => k_is)
    (case c_is_integer => k_is)
    (case k_is_integer => k_is)
    (case a_is_number => k_is)
    (case l_is_number => k_is)
    (case c_is_number => k_is)
    (case k_is_number => k_is)
    (case a_is_list => k_is)
    (case l_is_list => k_is)
    (case c_is_list => k_is)
    (case k_is_list => k_is)
    (case a_is_text => k_is)
    (case l_is_text => k_is)
    (case c_is_text => k_is)
    (case k_is_text => k_is)
    (case a_Laid_init__ => k_is)
    (case i_Laid_init__ => k_is)
    (case l_Laid_init__ => k_is)
    (case c_Laid_init__ => k_is)
    (case k_Laid_init__ => k_is)
    (case mk_Laid_init__ => k_is)
    (case kc_Laid_init__ => k_is)
    (case a_Laid_lowest => k_is)
    (case i_Laid_lowest => k_is)
    (case l_Laid_lowest => k_is)
    (case c_Laid_lowest => k_is)
    (case k_Laid_lowest => k_is)
    (case a_Laid_highest => k_is)
    (case i_Laid_highest => k_is)
    (case l_Laid_highest => k_is)
    (case c_Laid_highest => k_is)
    (case k_Laid_highest => k_is)
    (case a_Laid_has_inside => k_is)
    (case i_Laid_has_inside => k_is)
    (case l_Laid_has_inside => k_is)
    (case c_Laid_has_inside => k_is)
    (case k_Laid_has_inside => k_is)
    (case a_Laid_have_common => k_is)
    (case i_Laid_have_common => k_is)
    (case l_Laid_have_common => k_is)
    (case c_Laid_have_common => k_is)
    (case k_Laid_have_common => k_is)
    (case a_Laid_spot_of => k_is)
    (case i_Laid_spot_of => k_is)
    (case l_Laid_spot_of => k_is)
    (case c_Laid_spot_of => k_is)
    (case k_Laid_spot_of => k_is)
    (case a_Laid_is_left => k_is)
    (case i_Laid_is_left => k_is)
    (case l_Laid_is_left => k_is)
    (case c_Laid_is_left => k_is)
    (case k_Laid_is_left => k_is)
    (case a_Laid_touches => k_is)
    (case i_Laid_touches => k_is)
    (case l_Laid_touches => k_is)
    (case c_Laid_touches => k_is)
    (case k_Laid_touches => k_is)
    (case a_places_in => k_is)
    (case l_places_in => k_is)
    (case c_places_in => k_is)
    (case k_places_in => k_is)
    (case a_lies_so => k_is)
    (case l_lies_so => k_is)
    (case c_lies_so => k_is)
    (case k_lies_so => k_is)
    (case a_is_between => k_is)
    (case l_is_between => k_is)
    (case c_is_between => k_is)
    (case k_is_between => k_is)
    (case a_told_fault => k_is)
    (case l_told_fault => k_is)
    (case c_told_fault => k_is)
    (case k_told_fault => k_is)
    (case a_pass_fault => k_is)
    (case l_pass_fault => k_is)
    (case c_pass_fault => k_is)
    (case k_pass_fault => k_is)
    (case a_nest_fault => k_is)
    (case l_nest_fault => k_is)
    (case c_nest_fault => k_is)
    (case k_nest_fault => k_is)
    (case a_fault_among => k_is)
    (case l_fault_among => k_is)
    (case c_fault_among => k_is)
    (case k_fault_among => k_is)
    (case a_order_fault => k_is)
    (case l_order_fault => k_is)
    (case c_order_fault => k_is)
    (case k_order_fault => k_is)
    (case a_is_length => k_is)
    (case l_is_length => k_is)
    (case c_is_length => k_is)
    (case k_is_length => k_is)
    (case a_is_letter => k_is)
    (case l_is_letter => k_is)
    (case c_is_letter => k_is)
    (case k_is_letter => k_is)
    (case a_wrong_lengths => k_is)
    (case l_wrong_lengths => k_is)
    (case c_wrong_lengths => k_is)
    (case k_wrong_lengths => k_is)
    (case a_wrong_letters => k_is)
    (case l_wrong_letters => k_is)
    (case c_wrong_letters => k_is)
    (case k_wrong_letters => k_is)
    (case a_Strip_init__ => k_is)
    (case i_Strip_init__ => k_is)
    (case l_Strip_init__ => k_is)
    (case c_Strip_init__ => k_is)
    (case k_Strip_init__ => k_is)
    (case mk_Strip_init__ => k_is)
    (case kc_Strip_init__ => k_is)
    (case a_Strip_lengths => k_is)
    (case i_Strip_lengths => k_is)
    (case l_Strip_lengths => k_is)
    (case c_Strip_lengths => k_is)
    (case k_Strip_lengths => k_is)
    (case a_Strip_creases => k_is)
    (case i_Strip_creases => k_is)
    (case l_Strip_creases => k_is)
    (case c_Strip_creases => k_is)
    (case k_Strip_creases => k_is)
    (case a_need_strip => k_is)
    (case l_need_strip => k_is)
    (case c_need_strip => k_is)
    (case k_need_strip => k_is)
    (case a_is_order_of => k_is)
    (case l_is_order_of => k_is)
    (case c_is_order_of => k_is)
    (case k_is_order_of => k_is)
    (case a_need_order => k_is)
    (case l_need_order => k_is)
    (case c_need_order => k_is)
    (case k_need_order => k_is)
    (case a_laid_strip => k_is)
    (case l_laid_strip => k_is)
    (case c_laid_strip => k_is)
    (case k_laid_strip => k_is)
    (case a_folding_fault => k_is)
    (case l_folding_fault => k_is)
    (case c_folding_fault => k_is)
    (case k_folding_fault => k_is)
    (case a_is_folding => k_is)
    (case l_is_folding => k_is)
    (case c_is_folding => k_is)
    (case k_is_folding => k_is)
    (case a_pairs_over => k_is)
    (case l_pairs_over => k_is)
    (case c_pairs_over => k_is)
    (case k_pairs_over => k_is)
    (case a_same_folding => k_is)
    (case l_same_folding => k_is)
    (case c_same_folding => k_is)
    (case k_same_folding => k_is)
    (case a_law_one => k_is)
    (case l_law_one => k_is)
    (case c_law_one => k_is)
    (case k_law_one => k_is)
    (case a_law_mixed => k_is)
    (case l_law_mixed => k_is)
    (case c_law_mixed => k_is)
    (case k_law_mixed => k_is)
    (case a_law_same => k_is)
    (case l_law_same => k_is)
    (case c_law_same => k_is)
    (case k_law_same => k_is)
    (case a_law_orders => k_is)
    (case l_law_orders => k_is)
    (case c_law_orders => k_is)
    (case k_law_orders => k_is)
    (case a_law => k_is)
    (case l_law => k_is)
    (case c_law => k_is)
    (case k_law => k_is)
    (case z_abs => k_is)
    (case z_all => k_is)
    (case z_any => k_is)
    (case z_bool => k_is)
    (case z_dict => k_is)
    (case z_enumerate => k_is)
    (case z_int => k_is)
    (case z_isinstance => k_is)
    (case z_len => k_is)
    (case z_list => k_is)
    (case z_max => k_is)
    (case z_min => k_is)
    (case z_range => k_is)
    (case z_sorted => k_is)
    (case z_str => k_is)
    (case z_sum => k_is)
    (case z_tuple => k_is)
    (case z_zip => k_is)
#print axioms PySem.Challenge.cw_foldflat_k13_whole_stamps_holds

