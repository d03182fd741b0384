import PyProof.Rows.All
import Wide.All
import OpenK.AllK
import Wide.FinOn
import HandS.ForMost
import HandS.ForExc
import HandS.Deep
import HandS.SortInts
import HandS.Lambda
import HandS.IsInst
import HandS.DictComp
import HandS.Style
import HandS.Flow
import HandS.Zip
import HandS.Conv
import HandS.CallSlots
import HandS.TupLe
import HandS.SortRule
import HandS.ExcInit
import HandS.ExcField
import HandS.EndTab
import HandS.EndOwn
import HandS.NoneIn
import KE.GoesMore
import PySem.Challenge.RW_foldflat_k15_steps_one_after_another
set_option Elab.async false
set_option linter.all false
set_option maxRecDepth 100000
set_option maxHeartbeats 4000000
namespace Tr
open PySem PySem.Spec PyProof.Rows L2

/-- pure values -/
inductive PV where
  | non | bl (b : Bool) | int (i : Int) | str (s : Str) | tup (l : List PV) | lst (l : List PV)
  | dct (ks : List Key) (vs : List PV) | ins (c : Str) (ns : List Str) (vs : List PV) | rng

/-- the drawing's state -/
structure Rg where
  cells : List Int
  cur : Int
  cnt : Int
  mix : Int

/-- how a lambda within the def n is called -/
def lamQ (n : Str) : Str := n ++ ".<locals>." ++ "<lambda>"
/-- the defs of the top that make lambdas -/
def lamNames : List Str := ["_law_things_right", "law"]
/-- what is changed by the way: the drawing's two lists, the tables of code objects -/
structure Rho where
  rg : Option (Addr × Addr)
  tb : List (Addr × Str)
structure Ct where
  K : PySem.W.Frag
  mg : Str → Option Value
  ρ : Rho
  B : Addr → Prop

abbrev Wn := List (Nat × Addr)
def Ct.R (c : Ct) (b : Addr) : Prop := (∃ p, c.ρ.rg = some p ∧ (b = p.1 ∨ b = p.2)) ∨ b ∈ c.ρ.tb.map (·.1)
abbrev Ct.ban (c : Ct) (W : Wn) : Ct := { c with B := fun a => c.B a ∨ a ∈ W.map (·.2) }
abbrev Ct.ban1 (c : Ct) (a : Addr) : Ct := { c with B := fun b => c.B b ∨ b = a }

def LAt (c : Ct) (H : Hp) (a : Addr) (xs : List V) : Prop := ¬ c.B a ∧ H a = some (.lst xs)
/-- (no other tuples are read here) -/
def KTup (K : PySem.W.Frag) (a : Addr) (xs : List V) : Prop := False
def TAt (c : Ct) (H : Hp) (a : Addr) (xs : List V) : Prop := (¬ c.B a ∧ H a = some (.tup xs)) ∨ KTup c.K a xs
theorem LAt.sq {c : Ct} {H : Hp} {a : Addr} {xs : List V} (h : LAt c H a xs) : SqL c.K H a xs := .of h.2
theorem TAt.sq {c : Ct} {H : Hp} {a : Addr} {xs : List V} (h : TAt c H a xs) : SqT c.K H a xs := h.elim (fun h => .of h.2) False.elim

theorem _root_.L2.Rd.to {H H' : Hp} {a : Addr} {u : HO} (r : Rd H a u) (h : ∀ o, H a = some o → H' a = some o) : Rd H' a u := r.elim (fun q => .inl (h _ q)) fun ⟨o, q⟩ => .inr ⟨o, h _ q⟩
theorem _root_.L2.Rd.some_ne {H : Hp} {a : Addr} {u : HO} (r : Rd H a u) : H a ≠ none := by
  rcases r with q | ⟨o, q⟩ <;> (rw [q]; exact fun z => nomatch z)
mutual
def Rep (c : Ct) (H : Hp) : PV → V → Prop
  | .non, v => v = .non
  | .bl b, v => v = .bl b
  | .int i, v => v = .int i
  | .str s, v => v = .str s
  | .tup l, v => ∃ a xs, v = .ref a ∧ TAt c H a xs ∧ RepL c H l xs
  | .lst l, v => ∃ a xs, v = .ref a ∧ LAt c H a xs ∧ RepL c H l xs
  | .dct ks ps, v => ∃ a vs, v = .ref a ∧ ¬ c.B a ∧ Rd H a (.dK (ks.zip vs)) ∧ ks.length = vs.length ∧ RepL c H ps vs
  | .ins k ns ps, v => ∃ a C dx vs, v = .ref a ∧ ¬ c.B a ∧ c.mg k = some (.ref C) ∧ H a = some (.ins C dx (ns.zip vs)) ∧ ns.length = vs.length ∧ RepL c H ps vs
  | .rng, v => ∃ p, c.ρ.rg = some p ∧ v = .ref p.1
def RepL (c : Ct) (H : Hp) : List PV → List V → Prop
  | [], vs => vs = []
  | p :: ps, vs => ∃ v r, vs = v :: r ∧ Rep c H p v ∧ RepL c H ps r
end

/-- the drawing's state lies at its two lists -/
def Rg.Ok (g : Rg) : Prop := 0 ≤ g.cur ∧ 0 ≤ g.cnt ∧ 0 ≤ g.mix ∧ g.mix < 2147483647 ∧ g.cells.length ≤ 63
/-- the code object of the def at f, the table of the code object at c -/
def codeOf (K : PySem.W.Frag) (f : Addr) : Option Addr := match K.lookup f with
  | some ⟨_, _, .func fd, _⟩ => (match fd.code with | .ref c => some c | _ => none)
  | _ => none
def tabOf (K : PySem.W.Frag) (c : Addr) : Option Addr := match K.lookup c with
  | some ⟨_, _, .fields vs, _⟩ => (match (vs[11]? : Option Value) with | some (.ref P) => some P | _ => none)
  | _ => none
/-- the tables of code objects are at hand -/
structure TbO (K : PySem.W.Frag) (mg : Str → Option Value) (ρ : Rho) (H : Hp) : Prop where
  at_ : ∀ p ∈ ρ.tb, LamX.TabS H p.1 p.2
  has : ∀ n ∈ lamNames, ∀ f cd P, mg n = some (.ref f) → codeOf K f = some cd → tabOf K cd = some P → (P, lamQ n) ∈ ρ.tb
  one : ∀ p ∈ ρ.tb, ∀ q ∈ ρ.tb, p.1 = q.1 → p.2 = q.2
structure RgO (K : PySem.W.Frag) (mg : Str → Option Value) (ρ : Rho) (H : Hp) (g : Rg) : Prop where
  dr : ∀ p, ρ.rg = some p → p.1 ≠ p.2 ∧ g.Ok ∧
    H p.1 = some (.lst [.ref p.2, .int g.cur, .int g.cnt, .int g.mix]) ∧ H p.2 = some (.lst (g.cells.map .int))
  tb : TbO K mg ρ H
abbrev RgOk (c : Ct) (H : Hp) (g : Rg) : Prop := RgO c.K c.mg c.ρ H g
def Ext (c : Ct) (H H' : Hp) : Prop := ∀ b o, H b = some o → ¬ c.R b → H' b = some o
theorem Ext.refl (c : Ct) (H : Hp) : Ext c H H := fun _ _ h _ => h
theorem Ext.trans {c : Ct} {H H1 H2 : Hp} (a : Ext c H H1) (b : Ext c H1 H2) : Ext c H H2 := fun x o h n => b x o (a x o h n) n
theorem Ext.of {c : Ct} {H H' : Hp} (s : Same H H') : Ext c H H' := fun b o h _ => s b o h
/-- tables and code objects stay -/
theorem TabS.keep {H H' : Hp} {P : Addr} {q : Str} (t : LamX.TabS H P q) (e1 : ∀ ps, H P = some (.tbl ps) → H' P = some (.tbl ps)) (e2 : ∀ b, H b = some (LamX.CodeO b q) → H' b = some (LamX.CodeO b q)) : LamX.TabS H' P q := by
  obtain ⟨ps, h1, h2, h3⟩ := t
  refine ⟨ps, e1 _ h1, h2, fun pos cv hc => ?_⟩
  obtain ⟨b, e, h⟩ := h3 pos cv hc
  exact ⟨b, e, e2 b h⟩
/-- what tables and code objects are not -/
def NoTab : HO → Prop
  | .tbl _ => False
  | .ext _ => False
  | _ => True
theorem TbO.keep {K : PySem.W.Frag} {mg : Str → Option Value} {ρ : Rho} {H H' : Hp} (t : TbO K mg ρ H) (e : ∀ b o, H b = some o → ¬ NoTab o → H' b = some o) : TbO K mg ρ H' :=
  ⟨fun p hp => TabS.keep (t.at_ p hp) (fun ps h => e _ _ h fun z => z) fun b h => e _ _ h fun z => z, t.has, t.one⟩
theorem TbO.upd {K : PySem.W.Frag} {mg : Str → Option Value} {ρ : Rho} {H : Hp} {a : Addr} {o : HO} (t : TbO K mg ρ H) (h : ∀ u, H a = some u → NoTab u) : TbO K mg ρ (L2.upd H a o) := t.keep fun b u hb n => by
  by_cases e : b = a
  · subst e; exact absurd (h _ hb) n
  · rw [upd_ne e]; exact hb
theorem RgO.same {c : Ct} {H H' : Hp} {g : Rg} (h : RgOk c H g) (s : Same H H') : RgOk c H' g :=
  ⟨fun p e => let ⟨a, b, x, y⟩ := h.dr p e; ⟨a, b, s _ _ x, s _ _ y⟩, h.tb.keep fun b o q _ => s b o q⟩
theorem RgO.none {c : Ct} {H : Hp} {g : Rg} (h : RgOk c H g) {b : Addr} (r : c.R b) : H b ≠ none := by
  rcases r with ⟨p, hp, hb⟩ | hb
  · obtain ⟨_, _, h1, h2⟩ := h.dr p hp
    rcases hb with rfl | rfl
    · rw [h1]; exact fun z => nomatch z
    · rw [h2]; exact fun z => nomatch z
  · obtain ⟨p, hp, rfl⟩ := List.mem_map.mp hb
    obtain ⟨ps, h1, _⟩ := h.tb.at_ p hp
    rw [h1]; exact fun z => nomatch z
/-- an object that is not the drawing's, nor a table, nor code, is changed -/
theorem RgO.upd {c : Ct} {H : Hp} {g : Rg} {a : Addr} {o : HO} (h : RgOk c H g) (n : ¬ c.R a) (ho : ∀ u, H a = some u → NoTab u) : RgOk c (L2.upd H a o) g :=
  ⟨fun p e => by
    obtain ⟨h1, h2, h3, h4⟩ := h.dr p e
    refine ⟨h1, h2, ?_, ?_⟩
    · rw [upd_ne (fun z => n (.inl ⟨p, e, .inl z.symm⟩))]; exact h3
    · rw [upd_ne (fun z => n (.inl ⟨p, e, .inr z.symm⟩))]; exact h4, h.tb.upd ho⟩
mutual
theorem Rep.ext {c : Ct} {H H' : Hp} (e : Ext c H H') (rb : ∀ b, c.R b → c.B b) : ∀ {p : PV} {v : V}, Rep c H p v → Rep c H' p v
  | .non, _, h => h
  | .bl _, _, h => h
  | .int _, _, h => h
  | .str _, _, h => h
  | .tup l, _, ⟨a, xs, h1, h2, h3⟩ => ⟨a, xs, h1, h2.elim (fun h => .inl ⟨h.1, e _ _ h.2 (fun r => h.1 (rb _ r))⟩) .inr, RepL.ext e rb h3⟩
  | .lst l, _, ⟨a, xs, h1, h2, h3⟩ => ⟨a, xs, h1, ⟨h2.1, e _ _ h2.2 (fun r => h2.1 (rb _ r))⟩, RepL.ext e rb h3⟩
  | .dct ks ps, _, ⟨a, vs, h1, h2, h3, h4, h5⟩ => ⟨a, vs, h1, h2, h3.to fun o q => e _ _ q (fun r => h2 (rb _ r)), h4, RepL.ext e rb h5⟩
  | .ins k ns ps, _, ⟨a, C, dx, vs, h1, h2, h3, h4, h5, h6⟩ => ⟨a, C, dx, vs, h1, h2, h3, e _ _ h4 (fun r => h2 (rb _ r)), h5, RepL.ext e rb h6⟩
  | .rng, _, h => h
theorem RepL.ext {c : Ct} {H H' : Hp} (e : Ext c H H') (rb : ∀ b, c.R b → c.B b) : ∀ {ps : List PV} {vs : List V}, RepL c H ps vs → RepL c H' ps vs
  | [], _, h => h
  | p :: ps, _, ⟨v, r, h1, h2, h3⟩ => ⟨v, r, h1, Rep.ext e rb h2, RepL.ext e rb h3⟩
end
mutual
theorem repSame {c : Ct} {H H' : Hp} (s : Same H H') : ∀ {p : PV} {v : V}, Rep c H p v → Rep c H' p v
  | .non, _, h => h
  | .bl _, _, h => h
  | .int _, _, h => h
  | .str _, _, h => h
  | .tup l, _, ⟨a, xs, h1, h2, h3⟩ => ⟨a, xs, h1, h2.elim (fun h => .inl ⟨h.1, s _ _ h.2⟩) .inr, replSame s h3⟩
  | .lst l, _, ⟨a, xs, h1, h2, h3⟩ => ⟨a, xs, h1, ⟨h2.1, s _ _ h2.2⟩, replSame s h3⟩
  | .dct ks ps, _, ⟨a, vs, h1, h2, h3, h4, h5⟩ => ⟨a, vs, h1, h2, h3.to fun o q => s _ _ q, h4, replSame s h5⟩
  | .ins k ns ps, _, ⟨a, C, dx, vs, h1, h2, h3, h4, h5, h6⟩ => ⟨a, C, dx, vs, h1, h2, h3, s _ _ h4, h5, replSame s h6⟩
  | .rng, _, h => h
theorem replSame {c : Ct} {H H' : Hp} (s : Same H H') : ∀ {ps : List PV} {vs : List V}, RepL c H ps vs → RepL c H' ps vs
  | [], _, h => h
  | p :: ps, _, ⟨v, r, h1, h2, h3⟩ => ⟨v, r, h1, repSame s h2, replSame s h3⟩
end
/-- fewer banned, or banned ones that are not tracked -/
theorem some_ne {H : Hp} {a : Addr} {o : HO} (h : H a = some o) : H a ≠ none := by rw [h]; exact fun z => nomatch z
mutual
theorem Rep.ban {c : Ct} {B : Addr → Prop} {H : Hp} (k : ∀ b, B b → c.B b ∨ H b = none) : ∀ {p : PV} {v : V}, Rep c H p v → Rep { c with B := B } H p v
  | .non, _, h => h
  | .bl _, _, h => h
  | .int _, _, h => h
  | .str _, _, h => h
  | .tup l, _, ⟨a, xs, h1, h2, h3⟩ => ⟨a, xs, h1, h2.elim (fun h => .inl ⟨fun z => (k _ z).elim h.1 (some_ne h.2), h.2⟩) .inr, RepL.ban k h3⟩
  | .lst l, _, ⟨a, xs, h1, h2, h3⟩ => ⟨a, xs, h1, ⟨fun z => (k _ z).elim h2.1 (some_ne h2.2), h2.2⟩, RepL.ban k h3⟩
  | .dct ks ps, _, ⟨a, vs, h1, h2, h3, h4, h5⟩ => ⟨a, vs, h1, fun z => (k _ z).elim h2 h3.some_ne, h3, h4, RepL.ban k h5⟩
  | .ins x ns ps, _, ⟨a, C, dx, vs, h1, h2, h3, h4, h5, h6⟩ => ⟨a, C, dx, vs, h1, fun z => (k _ z).elim h2 (fun z => by rw [h4] at z; cases z), h3, h4, h5, RepL.ban k h6⟩
  | .rng, _, h => h
theorem RepL.ban {c : Ct} {B : Addr → Prop} {H : Hp} (k : ∀ b, B b → c.B b ∨ H b = none) : ∀ {ps : List PV} {vs : List V}, RepL c H ps vs → RepL { c with B := B } H ps vs
  | [], _, h => h
  | p :: ps, _, ⟨v, r, h1, h2, h3⟩ => ⟨v, r, h1, Rep.ban k h2, RepL.ban k h3⟩
end
theorem RepL.length {c : Ct} {H : Hp} : ∀ {ps : List PV} {vs : List V}, RepL c H ps vs → ps.length = vs.length
  | [], _, h => by subst h; rfl
  | p :: ps, _, ⟨v, r, h1, h2, h3⟩ => by subst h1; simp [RepL.length h3]
theorem RepL.append {c : Ct} {H : Hp} : ∀ {ps qs : List PV} {vs us : List V}, RepL c H ps vs → RepL c H qs us → RepL c H (ps ++ qs) (vs ++ us)
  | [], _, _, _, h, k => by subst h; exact k
  | p :: ps, _, _, _, ⟨v, r, h1, h2, h3⟩, k => by subst h1; exact ⟨v, _, rfl, h2, RepL.append h3 k⟩
theorem RepL.get {c : Ct} {H : Hp} : ∀ {ps : List PV} {vs : List V} {i : Nat} {p : PV}, RepL c H ps vs → ps[i]? = some p → ∃ v, vs[i]? = some v ∧ Rep c H p v
  | [], _, _, _, h, e => by simp at e
  | p :: ps, _, 0, _, ⟨v, r, h1, h2, h3⟩, e => by subst h1; simp at e; subst e; exact ⟨v, rfl, h2⟩
  | p :: ps, _, i + 1, _, ⟨v, r, h1, h2, h3⟩, e => by
    subst h1
    obtain ⟨u, e1, e2⟩ := RepL.get h3 (by simpa using e)
    exact ⟨u, by simpa using e1, e2⟩
theorem RepL.take {c : Ct} {H : Hp} : ∀ {ps : List PV} {vs : List V} (n : Nat), RepL c H ps vs → RepL c H (ps.take n) (vs.take n)
  | [], _, n, h => by subst h; simp [RepL]
  | p :: ps, _, 0, _ => by simp [RepL]
  | p :: ps, _, n + 1, ⟨v, r, h1, h2, h3⟩ => by subst h1; exact ⟨v, _, rfl, h2, RepL.take n h3⟩
theorem RepL.drop {c : Ct} {H : Hp} : ∀ {ps : List PV} {vs : List V} (n : Nat), RepL c H ps vs → RepL c H (ps.drop n) (vs.drop n)
  | [], _, n, h => by subst h; simp [RepL]
  | p :: ps, _, 0, h => h
  | p :: ps, _, n + 1, ⟨v, r, h1, h2, h3⟩ => by subst h1; exact RepL.drop n h3
theorem RepL.set {c : Ct} {H : Hp} {p : PV} {v : V} (h : Rep c H p v) : ∀ {ps : List PV} {vs : List V} (n : Nat), RepL c H ps vs → RepL c H (ps.set n p) (vs.set n v)
  | [], _, n, k => by subst k; simp [RepL]
  | q :: ps, _, 0, ⟨u, r, h1, h2, h3⟩ => by subst h1; exact ⟨v, r, rfl, h, h3⟩
  | q :: ps, _, n + 1, ⟨u, r, h1, h2, h3⟩ => by subst h1; exact ⟨u, _, rfl, h2, RepL.set h n h3⟩
theorem RepL.reverse {c : Ct} {H : Hp} : ∀ {ps : List PV} {vs : List V}, RepL c H ps vs → RepL c H ps.reverse vs.reverse
  | [], _, h => by subst h; simp [RepL]
  | p :: ps, _, ⟨v, r, h1, h2, h3⟩ => by
    subst h1
    simp only [List.reverse_cons]
    exact RepL.append (RepL.reverse h3) ⟨v, [], rfl, h2, rfl⟩
theorem RepL.eraseIdx {c : Ct} {H : Hp} : ∀ {ps : List PV} {vs : List V} (n : Nat), RepL c H ps vs → RepL c H (ps.eraseIdx n) (vs.eraseIdx n)
  | [], _, n, h => by subst h; simp [RepL]
  | p :: ps, _, 0, ⟨v, r, h1, h2, h3⟩ => by subst h1; exact h3
  | p :: ps, _, n + 1, ⟨v, r, h1, h2, h3⟩ => by subst h1; exact ⟨v, _, rfl, h2, RepL.eraseIdx n h3⟩
theorem RepL.replicate {c : Ct} {H : Hp} {p : PV} {v : V} (h : Rep c H p v) : ∀ n : Nat, RepL c H (List.replicate n p) (List.replicate n v)
  | 0 => rfl
  | n + 1 => ⟨v, _, rfl, h, RepL.replicate h n⟩
theorem RepL.flat {c : Ct} {H : Hp} : ∀ {ps qs : List PV} {vs us : List V}, RepL c H ps vs → RepL c H qs us → RepL c H (ps ++ qs) (vs ++ us) := RepL.append

/-- the content at a, owned -/
def Own (c : Ct) (H : Hp) (a : Addr) : PV → Prop
  | .lst l => ∃ xs, H a = some (.lst xs) ∧ RepL c H l xs
  | .dct ks ps => ∃ vs, H a = some (.dK (ks.zip vs)) ∧ ks.length = vs.length ∧ RepL c H ps vs
  | .ins k ns ps => ∃ C dx vs, c.mg k = some (.ref C) ∧ H a = some (.ins C dx (ns.zip vs)) ∧ ns.length = vs.length ∧ RepL c H ps vs
  | _ => False
theorem Own.there {c : Ct} {H : Hp} {a : Addr} {p : PV} (h : Own c H a p) : H a ≠ none := by
  cases p with
  | lst l => obtain ⟨xs, h, _⟩ := h; rw [h]; exact fun z => nomatch z
  | dct ks ps => obtain ⟨xs, h, _⟩ := h; rw [h]; exact fun z => nomatch z
  | ins k ns ps => obtain ⟨C, dx, vs, _, h, _⟩ := h; rw [h]; exact fun z => nomatch z
  | _ => exact h.elim
theorem Own.ext {c : Ct} {H H' : Hp} {a : Addr} {p : PV} (e : Ext c H H') (rb : ∀ b, c.R b → c.B b) (n : ¬ c.R a) (h : Own c H a p) : Own c H' a p := by
  cases p with
  | lst l => obtain ⟨xs, h, k⟩ := h; exact ⟨xs, e _ _ h n, k.ext e rb⟩
  | dct ks ps => obtain ⟨xs, h, l, k⟩ := h; exact ⟨xs, e _ _ h n, l, k.ext e rb⟩
  | ins k ns ps => obtain ⟨C, dx, vs, m, h, l, k⟩ := h; exact ⟨C, dx, vs, m, e _ _ h n, l, k.ext e rb⟩
  | _ => exact h.elim
theorem ownSame {c : Ct} {H H' : Hp} {a : Addr} {p : PV} (s : Same H H') (h : Own c H a p) : Own c H' a p := by
  cases p with
  | lst l => obtain ⟨xs, h, k⟩ := h; exact ⟨xs, s _ _ h, replSame s k⟩
  | dct ks ps => obtain ⟨xs, h, l, k⟩ := h; exact ⟨xs, s _ _ h, l, replSame s k⟩
  | ins k ns ps => obtain ⟨C, dx, vs, m, h, l, k⟩ := h; exact ⟨C, dx, vs, m, s _ _ h, l, replSame s k⟩
  | _ => exact h.elim
theorem Own.ban {c : Ct} {B : Addr → Prop} {H : Hp} {a : Addr} {p : PV} (k : ∀ b, B b → c.B b ∨ H b = none) (h : Own c H a p) : Own { c with B := B } H a p := by
  cases p with
  | lst l => obtain ⟨xs, h, q⟩ := h; exact ⟨xs, h, q.ban k⟩
  | dct ks ps => obtain ⟨xs, h, l, q⟩ := h; exact ⟨xs, h, l, q.ban k⟩
  | ins k' ns ps => obtain ⟨C, dx, vs, m, h, l, q⟩ := h; exact ⟨C, dx, vs, m, h, l, q.ban k⟩
  | _ => exact h.elim
theorem Own.noTab {c : Ct} {H : Hp} {a : Addr} {p : PV} (h : Own c H a p) : ∀ u, H a = some u → NoTab u := by
  cases p with
  | lst l => obtain ⟨xs, h, _⟩ := h; intro u q; rw [h] at q; cases q; trivial
  | dct ks ps => obtain ⟨xs, h, _⟩ := h; intro u q; rw [h] at q; cases q; trivial
  | ins k ns ps => obtain ⟨C, dx, vs, _, h, _⟩ := h; intro u q; rw [h] at q; cases q; trivial
  | _ => exact h.elim
/-- what is owned is a value, where it is not banned -/
theorem Own.rep {c : Ct} {H : Hp} {a : Addr} {p : PV} (h : Own c H a p) (n : ¬ c.B a) : Rep c H p (.ref a) := by
  cases p with
  | lst l => obtain ⟨xs, h, q⟩ := h; exact ⟨a, xs, rfl, ⟨n, h⟩, q⟩
  | dct ks ps => obtain ⟨xs, h, l, q⟩ := h; exact ⟨a, xs, rfl, n, .inl h, l, q⟩
  | ins k' ns ps => obtain ⟨C, dx, vs, m, h, l, q⟩ := h; exact ⟨a, C, dx, vs, rfl, n, m, h, l, q⟩
  | _ => exact h.elim

/-- borrowed: a value, or the content of an owned one -/
def RepB (c : Ct) (H : Hp) (p : PV) (v : V) : Prop := Rep c H p v ∨ ∃ a, v = .ref a ∧ ¬ c.R a ∧ Own c H a p

/-- the pure slots and the frame's -/
abbrev Sl := List (Option PV)
structure Rel (c : Ct) (W : Wn) (σ : Sl) (σc : L2.St) (H : Hp) (g : Rg) : Prop where
  len : σ.length = σc.length
  rg : RgOk c H g
  rb : ∀ b, c.R b → c.B b
  dom : ∀ b, c.B b → H b ≠ none
  ndk : (W.map (·.1)).Nodup
  nda : (W.map (·.2)).Nodup
  wb : ∀ p ∈ W, ¬ c.B p.2
  val : ∀ i p, σ[i]? = some (some p) → i ∉ W.map (·.1) → ∃ v, σc[i]? = some (some v) ∧ Rep (c.ban W) H p v
  own : ∀ w ∈ W, ∃ p, σ[w.1]? = some (some p) ∧ σc[w.1]? = some (some (.ref w.2)) ∧ Own (c.ban W) H w.2 p

theorem Ct.ban_R {c : Ct} {W : Wn} (rb : ∀ b, c.R b → c.B b) : ∀ b, (c.ban W).R b → (c.ban W).B b := fun b h => .inl (rb b h)
theorem Ext.ban {c : Ct} {H H' : Hp} {B : Addr → Prop} (e : Ext c H H') : Ext { c with B := B } H H' := e
theorem Rel.wdom {c : Ct} {W : Wn} {σ : Sl} {σc : L2.St} {H : Hp} {g : Rg} (r : Rel c W σ σc H g) : ∀ b, (c.ban W).B b → H b ≠ none := fun b h => by
  rcases h with h | h
  · exact r.dom b h
  · obtain ⟨w, hw, rfl⟩ := List.mem_map.mp h
    obtain ⟨p, _, _, o⟩ := r.own w hw
    exact o.there
theorem dom_ext {c : Ct} {H H' : Hp} {g : Rg} (e : Ext c H H') (k : RgOk c H' g) {b : Addr} (h : H b ≠ none) : H' b ≠ none := by
  by_cases hr : c.R b
  · exact k.none hr
  · cases q : H b with
    | none => exact absurd q h
    | some o => rw [e b o q hr]; exact fun z => nomatch z
theorem Rel.ext {c : Ct} {W : Wn} {σ : Sl} {σc : L2.St} {H H' : Hp} {g g' : Rg} (r : Rel c W σ σc H g) (e : Ext c H H') (k : RgOk c H' g') : Rel c W σ σc H' g' where
  len := r.len
  rg := k
  rb := r.rb
  dom := fun b h => dom_ext e k (r.dom b h)
  ndk := r.ndk
  nda := r.nda
  wb := r.wb
  val := fun i p h n => let ⟨v, h1, h2⟩ := r.val i p h n; ⟨v, h1, Rep.ext (c := c.ban W) e (Ct.ban_R r.rb) h2⟩
  own := fun w hw => let ⟨p, h1, h2, h3⟩ := r.own w hw; ⟨p, h1, h2, Own.ext (c := c.ban W) e (Ct.ban_R r.rb) (fun z => r.wb w hw (r.rb _ z)) h3⟩

inductive Res (α : Type) where
  | ok (a : α) (g : Rg)
  | exc (k : Str) (ns : List Str) (ps : List PV) (g : Rg)
  | stuck
def Res.bind {α β : Type} : Res α → (α → Rg → Res β) → Res β
  | .ok a g, f => f a g
  | .exc k ns ps g, _ => .exc k ns ps g
  | .stuck, _ => .stuck
@[simp] theorem Res.bind_ok {α β : Type} (a : α) (g : Rg) (f : α → Rg → Res β) : (Res.ok a g).bind f = f a g := rfl
@[simp] theorem Res.bind_exc {α β : Type} (k : Str) (ns : List Str) (ps : List PV) (g : Rg) (f : α → Rg → Res β) : (Res.exc k ns ps g : Res α).bind f = .exc k ns ps g := rfl
@[simp] theorem Res.bind_stuck {α β : Type} (f : α → Rg → Res β) : (Res.stuck : Res α).bind f = .stuck := rfl
def RepX (c : Ct) (H : Hp) (k : Str) (ns : List Str) (ps : List PV) (cls : Value) (d : Option Addr) : Prop :=
  ∃ C dd vs, c.mg k = some (.ref C) ∧ cls = .ref C ∧ d = some dd ∧ ¬ c.B dd ∧ H dd = some (.xd (ns.zip vs)) ∧ ns.length = vs.length ∧ RepL c H ps vs

/-- how a value is handed: borrowed, kept, new -/
inductive Md where
  | brw | rep | frs
/-- p is handed as v; H the heap ahead, H' the one behind -/
def Val (c : Ct) (H H' : Hp) (p : PV) (v : V) : Md → Prop
  | .brw => RepB c H' p v
  | .rep => Rep c H' p v
  | .frs => ∃ a, v = .ref a ∧ H a = none ∧ Own (c.ban1 a) H' a p
def Pst (c : Ct) (W : Wn) (H : Hp) (md : Md) (r : Res PV) (Q : VK) (E : XK) : Prop :=
  match r with
  | .ok p g => ∀ v H', Ext c H H' → RgOk c H' g → Val (c.ban W) H H' p v md → Q v H'
  | .exc k ns ps g => ∀ cls d H', Ext c H H' → RgOk c H' g → RepX (c.ban W) H' k ns ps cls d → E cls d H'
  | .stuck => False
abbrev Den := Sl → Rg → Res PV
abbrev ct (X : Cx) (ρ : Rho) (B : Addr → Prop) : Ct := ⟨X.K, X.mg, ρ, B⟩
/-- the expression e is d -/
def SE (X : Cx) (Wx : WX) (Wk : List Nat) (md : Md) (e : Expr) (d : Den) : Prop :=
  ∃ t, PE X e t ∧ ∀ (ρ : Rho) (B : Addr → Prop) (W : Wn) (σ : Sl) (σc : L2.St) (H : Hp) (g : Rg) (Q : VK), W.map (·.1) = Wk →
    Rel (ct X ρ B) W σ σc H g → Pst (ct X ρ B) W H md (d σ g) Q (fun cls dd H' => Wx cls dd σc H') → t σc H Q

theorem Val.rep_of_frs {c : Ct} {H H' : Hp} {p : PV} {v : V} (dom : ∀ b, c.B b → H b ≠ none) (h : Val c H H' p v .frs) : Val c H H' p v .rep := by
  obtain ⟨a, rfl, n, o⟩ := h
  have o' : Own c H' a p := o.ban (c := c.ban1 a) (B := c.B) fun b z => .inl (.inl z)
  exact o'.rep fun z => dom a z n
theorem Val.brw {c : Ct} {H H' : Hp} {p : PV} {v : V} {md : Md} (rb : ∀ b, c.R b → c.B b) (dom : ∀ b, c.B b → H b ≠ none) (h : Val c H H' p v md) : RepB c H' p v := by
  cases md with
  | brw => exact h
  | rep => exact .inl h
  | frs =>
    obtain ⟨a, rfl, n, o⟩ := h
    exact .inr ⟨a, rfl, fun z => dom a (rb a z) n, o.ban (c := c.ban1 a) (B := c.B) fun b z => .inl (.inl z)⟩
theorem RepB.ext {c : Ct} {H H' : Hp} {p : PV} {v : V} (e : Ext c H H') (rb : ∀ b, c.R b → c.B b) (h : RepB c H p v) : RepB c H' p v := by
  rcases h with h | ⟨a, rfl, n, h⟩
  · exact .inl (h.ext e rb)
  · exact .inr ⟨a, rfl, n, h.ext e rb n⟩
/-- a value handed from further back -/
theorem Val.from {c : Ct} {H H1 H' : Hp} {g : Rg} {p : PV} {v : V} {md : Md} (e : Ext c H H1) (k : RgOk c H1 g) (h : Val c H1 H' p v md) : Val c H H' p v md := by
  cases md with
  | brw => exact h
  | rep => exact h
  | frs =>
    obtain ⟨a, rfl, n, o⟩ := h
    refine ⟨a, rfl, ?_, o⟩
    cases q : H a with
    | none => rfl
    | some z => exact absurd n (dom_ext e k (by rw [q]; exact fun z => nomatch z))
theorem Pst.from {c : Ct} {W : Wn} {H H1 : Hp} {g : Rg} {md : Md} {r : Res PV} {Q : VK} {E : XK} (e : Ext c H H1) (k : RgOk c H1 g) (h : Pst c W H md r Q E) : Pst c W H1 md r Q E := by
  cases r with
  | ok p g' => exact fun v H' e' k' q => h v H' (e.trans e') k' (Val.from (c := c.ban W) e k q)
  | exc a b cc d => exact fun cls d H' e' k' q => h cls d H' (e.trans e') k' q
  | stuck => exact h
/-- one part, then the rest -/
theorem Pst.bind {c : Ct} {W : Wn} {H : Hp} {m1 m2 : Md} {r : Res PV} {f : PV → Rg → Res PV} {Q Q1 : VK} {E : XK} (h : Pst c W H m2 (r.bind f) Q E)
    (k : ∀ p g1 v H1, r = .ok p g1 → Ext c H H1 → RgOk c H1 g1 → Val (c.ban W) H H1 p v m1 → Pst c W H1 m2 (f p g1) Q E → Q1 v H1) : Pst c W H m1 r Q1 E := by
  cases r with
  | ok p g1 => exact fun v H1 e k1 q => k p g1 v H1 rfl e k1 q (Pst.from e k1 h)
  | exc a b cc d => exact h
  | stuck => exact h
theorem se_rep {X : Cx} {Wx : WX} {Wk : List Nat} {e : Expr} {d : Den} (h : SE X Wx Wk .frs e d) : SE X Wx Wk .rep e d := by
  obtain ⟨t, ht, hs⟩ := h
  refine ⟨t, ht, fun ρ B W σ σc H g Q hW r p => hs ρ B W σ σc H g Q hW r ?_⟩
  cases hd : d σ g with
  | ok a g' => rw [hd] at p; exact fun v H' e' k' q => p v H' e' k' (Val.rep_of_frs r.wdom q)
  | exc a b cc dd => rw [hd] at p; exact p
  | stuck => rw [hd] at p; exact p
theorem se_brw {X : Cx} {Wx : WX} {Wk : List Nat} {md : Md} {e : Expr} {d : Den} (h : SE X Wx Wk md e d) : SE X Wx Wk .brw e d := by
  obtain ⟨t, ht, hs⟩ := h
  refine ⟨t, ht, fun ρ B W σ σc H g Q hW r p => hs ρ B W σ σc H g Q hW r ?_⟩
  cases hd : d σ g with
  | ok a g' => rw [hd] at p; exact fun v H' e' k' q => p v H' e' k' (Val.brw (c := (ct X ρ B).ban W) (Ct.ban_R r.rb) r.wdom q)
  | exc a b cc dd => rw [hd] at p; exact p
  | stuck => rw [hd] at p; exact p
end Tr

namespace Tr
open PySem PySem.Spec PyProof.Rows L2

section
variable {X : Cx} {Wx : WX} {Wk : List Nat} {md : Md}
def dC (p : PV) : Den := fun _ g => .ok p g
theorem se_int {i j pos} : SE X Wx Wk .rep (.Constant (.int i) j pos) (dC (.int i)) := ⟨_, pe_int, fun _ _ _ _ _ H _ _ _ r p => p _ H (Ext.refl _ _) r.rg rfl⟩
theorem se_bl {i j pos} : SE X Wx Wk .rep (.Constant (.bool i) j pos) (dC (.bl i)) := ⟨_, pe_bl, fun _ _ _ _ _ H _ _ _ r p => p _ H (Ext.refl _ _) r.rg rfl⟩
theorem se_non {j pos} : SE X Wx Wk .rep (.Constant .none j pos) (dC .non) := ⟨_, pe_non, fun _ _ _ _ _ H _ _ _ r p => p _ H (Ext.refl _ _) r.rg rfl⟩
theorem se_str {i j pos} : SE X Wx Wk .rep (.Constant (.str i) j pos) (dC (.str i)) := ⟨_, pe_str, fun _ _ _ _ _ H _ _ _ r p => p _ H (Ext.refl _ _) r.rg rfl⟩
def dV (i : Nat) : Den := fun σ g => match σ[i]? with | some (some p) => .ok p g | _ => .stuck
theorem se_var (i : Nat) {x : Str} {pos : Pos} (hw : i ∉ Wk := by decide) (hN : X.N[i]? = some x := by rfl) (hv : Vis X.env.scope x := by first | exact Or.inl rfl | exact Or.inr (Or.inl rfl) | exact Or.inr (Or.inr rfl)) (hd : (x == ("__debug__" : Str)) = false := by decide)
    (hcd : (x == ("__classdict__" : Str)) = false := by decide) : SE X Wx Wk .rep (.Name x pos) (dV i) := by
  refine ⟨_, pe_var hN hv hd hcd, fun ρ B W σ σc H g Q hW r p => ?_⟩
  unfold dV at p
  cases e : σ[i]? with
  | none => rw [e] at p; exact p.elim
  | some o =>
    cases o with
    | none => rw [e] at p; exact p.elim
    | some q =>
      rw [e] at p
      obtain ⟨v, h1, h2⟩ := r.val i q e (by rw [hW]; exact hw)
      exact ⟨v, h1, p v H (Ext.refl _ _) r.rg h2⟩
/-- a name of any kind, borrowed -/
theorem sb_var (i : Nat) {x : Str} {pos : Pos} (hN : X.N[i]? = some x := by rfl) (hv : Vis X.env.scope x := by first | exact Or.inl rfl | exact Or.inr (Or.inl rfl) | exact Or.inr (Or.inr rfl)) (hd : (x == ("__debug__" : Str)) = false := by decide)
    (hcd : (x == ("__classdict__" : Str)) = false := by decide) : SE X Wx Wk .brw (.Name x pos) (dV i) := by
  refine ⟨_, pe_var hN hv hd hcd, fun ρ B W σ σc H g Q hW r p => ?_⟩
  unfold dV at p
  cases e : σ[i]? with
  | none => rw [e] at p; exact p.elim
  | some o =>
    cases o with
    | none => rw [e] at p; exact p.elim
    | some q =>
      rw [e] at p
      by_cases hi : i ∈ W.map (·.1)
      · obtain ⟨w, hw, rfl⟩ := List.mem_map.mp hi
        obtain ⟨q', h1, h2, h3⟩ := r.own w hw
        rw [e] at h1; cases h1
        exact ⟨_, h2, p _ H (Ext.refl _ _) r.rg (.inr ⟨_, rfl, fun z => r.wb w hw (r.rb _ z), h3⟩)⟩
      · obtain ⟨v, h1, h2⟩ := r.val i q e hi
        exact ⟨v, h1, p v H (Ext.refl _ _) r.rg (.inl h2)⟩

theorem RepB.lst {c : Ct} {H : Hp} {l : List PV} {v : V} (h : RepB c H (.lst l) v) : ∃ a xs, v = .ref a ∧ H a = some (.lst xs) ∧ RepL c H l xs := by
  rcases h with ⟨a, xs, rfl, h, k⟩ | ⟨a, rfl, _, xs, h, k⟩
  · exact ⟨a, xs, rfl, h.2, k⟩
  · exact ⟨a, xs, rfl, h, k⟩
theorem RepB.tup {c : Ct} {H : Hp} {l : List PV} {v : V} (h : RepB c H (.tup l) v) : ∃ a xs, v = .ref a ∧ TAt c H a xs ∧ RepL c H l xs := by
  rcases h with h | ⟨a, _, _, h⟩
  · exact h
  · exact h.elim
theorem RepB.int {c : Ct} {H : Hp} {i : Int} {v : V} (h : RepB c H (.int i) v) : v = .int i := by
  rcases h with h | ⟨a, _, _, h⟩
  · exact h
  · exact h.elim
theorem RepB.bl {c : Ct} {H : Hp} {i : Bool} {v : V} (h : RepB c H (.bl i) v) : v = .bl i := by
  rcases h with h | ⟨a, _, _, h⟩
  · exact h
  · exact h.elim
theorem RepB.non {c : Ct} {H : Hp} {v : V} (h : RepB c H .non v) : v = .non := by
  rcases h with h | ⟨a, _, _, h⟩
  · exact h
  · exact h.elim
theorem RepB.str {c : Ct} {H : Hp} {i : Str} {v : V} (h : RepB c H (.str i) v) : v = .str i := by
  rcases h with h | ⟨a, _, _, h⟩
  · exact h
  · exact h.elim
theorem RepB.dct {c : Ct} {H : Hp} {ks : List Key} {ps : List PV} {v : V} (h : RepB c H (.dct ks ps) v) : ∃ a vs, v = .ref a ∧ Rd H a (.dK (ks.zip vs)) ∧ ks.length = vs.length ∧ RepL c H ps vs := by
  rcases h with ⟨a, vs, rfl, _, h⟩ | ⟨a, rfl, _, vs, h1, h⟩
  · exact ⟨a, vs, rfl, h⟩
  · exact ⟨a, vs, rfl, .inl h1, h⟩
theorem RepB.ins {c : Ct} {H : Hp} {k : Str} {ns : List Str} {ps : List PV} {v : V} (h : RepB c H (.ins k ns ps) v) : ∃ a C dx vs, v = .ref a ∧ c.mg k = some (.ref C) ∧ H a = some (.ins C dx (ns.zip vs)) ∧ ns.length = vs.length ∧ RepL c H ps vs := by
  rcases h with ⟨a, C, dx, vs, rfl, _, h⟩ | ⟨a, rfl, _, C, dx, vs, h⟩
  · exact ⟨a, C, dx, vs, rfl, h⟩
  · exact ⟨a, C, dx, vs, rfl, h⟩
end
end Tr

namespace Tr
open PySem PySem.Spec PyProof.Rows L2

section
variable {X : Cx} {Wx : WX} {Wk : List Nat} {md : Md}

def por {α : Type} (a b : Option α) : Option α := match a with | some w => some w | none => b
@[simp] theorem por_some {α : Type} (a : α) (b : Option α) : por (some a) b = some a := rfl
@[simp] theorem por_none {α : Type} (b : Option α) : por none b = b := rfl
def OpD (X : Cx) (f : Value → Value → Sem Value) (md : Md) (o : PV → PV → Option PV) : Prop :=
  ∃ r : R2, OpR X f r ∧ ∀ (c : Ct) (p q w : PV) (v u : V) (H : Hp) (Q : VK), c.K = X.K → c.mg = X.mg → (∀ b, c.B b → H b ≠ none) → RepB c H p v → RepB c H q u → o p q = some w →
    (∀ z H', Same H H' → Val c H H' w z md → Q z H') → r v u H Q
theorem opR_or {f : Value → Value → Sem Value} {r r' : R2} (h : OpR X f r) (h' : OpR X f r') : OpR X f (fun x y H Q => r x y H Q ∨ r' x y H Q) := by
  intro pins s σ H x y v u Q I rx ry q
  rcases q with q | q
  · exact h pins s σ H x y v u Q I rx ry q
  · exact h' pins s σ H x y v u Q I rx ry q
theorem OpD.or {f : Value → Value → Sem Value} {o o' : PV → PV → Option PV} (h : OpD X f md o) (h' : OpD X f md o') : OpD X f md (fun p q => por (o p q) (o' p q)) := by
  obtain ⟨r, hr, k⟩ := h
  obtain ⟨r', hr', k'⟩ := h'
  refine ⟨_, opR_or hr hr', fun c p q w v u H Q e1 e2 hd rp rq ho hq => ?_⟩
  cases e : o p q with
  | some z =>
    simp only [e, por_some] at ho
    cases ho
    exact .inl (k c p q _ v u H Q e1 e2 hd rp rq e hq)
  | none =>
    simp only [e, por_none] at ho
    exact .inr (k' c p q w v u H Q e1 e2 hd rp rq ho hq)
/-- a comparison's value -/
def bo (ob : PV → PV → Option Bool) : PV → PV → Option PV := fun p q => (ob p q).map PV.bl
def dBin (o : PV → PV → Option PV) (da db : Den) : Den := fun σ g => (da σ g).bind fun p g => (db σ g).bind fun q g => match o p q with | some w => .ok w g | none => .stuck
theorem se_op {op : Operator} {a b : Expr} {pos : Pos} {o : PV → PV → Option PV} {da db : Den} (ho : OpD X (binaryOp op) md o) (ha : SE X Wx Wk .brw a da) (hb : SE X Wx Wk .brw b db) : SE X Wx Wk md (.BinOp a op b pos) (dBin o da db) := by
  obtain ⟨r, hr, k⟩ := ho
  obtain ⟨ta, pa, sa⟩ := ha
  obtain ⟨tb, pb, sb⟩ := hb
  refine ⟨_, pe_op hr pa pb, fun ρ B W σ σc H g Q hW R p => ?_⟩
  refine sa ρ B W σ σc H g _ hW R (p.bind fun x g1 v H1 _ e1 k1 q1 p => ?_)
  have R1 := R.ext e1 k1
  refine sb ρ B W σ σc H1 g1 _ hW R1 (p.bind fun y g2 u H2 _ e2 k2 q2 p => ?_)
  have R2 := R1.ext e2 k2
  cases ew : o x y with
  | none => rw [ew] at p; exact p.elim
  | some w =>
    rw [ew] at p
    exact k ((ct X ρ B).ban W) x y w v u H2 Q rfl rfl R2.wdom (RepB.ext (c := (ct X ρ B).ban W) e2 (Ct.ban_R R.rb) q1) q2 ew fun z H' s hz => p z H' (Ext.of s) (k2.same s) hz
theorem se_cmp {op : CmpOp} {a b : Expr} {pos : Pos} {o : PV → PV → Option Bool} {da db : Den} (ho : OpD X (compareOp op) .rep (bo o)) (ha : SE X Wx Wk .brw a da) (hb : SE X Wx Wk .brw b db) (hm : behindInMarks op b = false := by first | exact nomark _ | rfl | with_unfolding_all rfl) : SE X Wx Wk .rep (.Compare a [op] [b] pos) (dBin (bo o) da db) := by
  obtain ⟨r, hr, k⟩ := ho
  obtain ⟨ta, pa, sa⟩ := ha
  obtain ⟨tb, pb, sb⟩ := hb
  refine ⟨_, pe_cmpR hr pa pb hm, fun ρ B W σ σc H g Q hW R p => ?_⟩
  refine sa ρ B W σ σc H g _ hW R (p.bind fun x g1 v H1 _ e1 k1 q1 p => ?_)
  have R1 := R.ext e1 k1
  refine sb ρ B W σ σc H1 g1 _ hW R1 (p.bind fun y g2 u H2 _ e2 k2 q2 p => ?_)
  have R2 := R1.ext e2 k2
  cases ew : bo o x y with
  | none => rw [ew] at p; exact p.elim
  | some w =>
    rw [ew] at p
    exact k ((ct X ρ B).ban W) x y w v u H2 Q rfl rfl R2.wdom (RepB.ext (c := (ct X ρ B).ban W) e2 (Ct.ban_R R.rb) q1) q2 ew fun z H' s hz => p z H' (Ext.of s) (k2.same s) hz

theorem OpD.toRep {f : Value → Value → Sem Value} {o : PV → PV → Option PV} (h : OpD X f .frs o) : OpD X f .rep o := by
  obtain ⟨r, hr, k⟩ := h
  exact ⟨r, hr, fun c p q w v u H Q e1 e2 hd rp rq ho hq => k c p q w v u H Q e1 e2 hd rp rq ho fun z H' s hz => hq z H' s (hz.rep_of_frs hd)⟩

/-- a new object's place -/
theorem same_new {H : Hp} {p : Addr} {o : HO} (h : H p = none) : Same H (upd H p o) := fun b u e => by rw [upd_ne (ne_of_none e h)]; exact e
theorem repl_new {c : Ct} {H : Hp} {z : Addr} {o : HO} {l : List PV} {xs : List V} (k : RepL c H l xs) (hz : H z = none) : RepL (c.ban1 z) (upd H z o) l xs :=
  replSame (c := c.ban1 z) (same_new hz) (RepL.ban (fun b h => h.elim .inl fun e => .inr (by rw [e]; exact hz)) k)
theorem val_lst {c : Ct} {H : Hp} {z : Addr} {l : List PV} {xs : List V} (k : RepL c H l xs) (hz : H z = none) : Val c H (upd H z (.lst xs)) (.lst l) (.ref z) .frs :=
  ⟨z, rfl, hz, xs, upd_same, repl_new k hz⟩
theorem val_tup {c : Ct} {H : Hp} {z : Addr} {l : List PV} {xs : List V} (k : RepL c H l xs) (hz : H z = none) (dom : ∀ b, c.B b → H b ≠ none) : Val c H (upd H z (.tup xs)) (.tup l) (.ref z) .rep :=
  ⟨z, xs, rfl, .inl ⟨fun b => dom z b hz, upd_same⟩, replSame (same_new hz) k⟩
def pAdd : PV → PV → Option PV
  | .int i, .int j => some (.int (i + j))
  | _, _ => none
def pCat : PV → PV → Option PV
  | .lst a, .lst b => if a.length + b.length ≤ sizeLine then some (.lst (a ++ b)) else none
  | _, _ => none
def pCatS : PV → PV → Option PV
  | .str a, .str b => if a.length + b.length ≤ sizeLine then some (.str (a ++ b)) else none
  | _, _ => none
theorem od_add : OpD X (binaryOp .Add) .rep pAdd := ⟨_, op_add, fun c p q w v u H Q _ _ hd rp rq ho hq => by
  cases p <;> cases q <;> simp only [pAdd] at ho <;> try (cases ho)
  exact ⟨_, _, rp.int, rq.int, hq _ _ (Same.refl _) rfl⟩⟩
theorem od_cat : OpD X (binaryOp .Add) .frs pCat := ⟨_, op_cat, fun c p q w v u H Q _ _ hd rp rq ho hq => by
  cases p <;> cases q <;> simp only [pCat] at ho <;> try (cases ho)
  split at ho <;> cases ho
  rename_i a b hl
  obtain ⟨l, xs, rfl, h1, k1⟩ := rp.lst
  obtain ⟨m, ys, rfl, h2, k2⟩ := rq.lst
  exact ⟨l, m, xs, ys, rfl, rfl, h1, h2, by rw [← k1.length, ← k2.length]; exact hl, fun z hz => hq _ _ (same_new hz) (val_lst (k1.append k2) hz)⟩⟩
theorem od_catS : OpD X (binaryOp .Add) .rep pCatS := ⟨_, op_add_str, fun c p q w v u H Q _ _ hd rp rq ho hq => by
  cases p <;> cases q <;> simp only [pCatS] at ho <;> try (cases ho)
  split at ho <;> cases ho
  rename_i hl
  exact ⟨_, _, rp.str, rq.str, hl, hq _ _ (Same.refl _) rfl⟩⟩
/-- + of ints, lists, texts -/
def pPlus (p q : PV) : Option PV := por (pAdd p q) (por (pCat p q) (pCatS p q))
theorem od_plus : OpD X (binaryOp .Add) .rep pPlus := od_add.or (od_cat.toRep.or od_catS)
def pSub : PV → PV → Option PV
  | .int i, .int j => some (.int (i - j))
  | _, _ => none
theorem od_sub : OpD X (binaryOp .Sub) .rep pSub := ⟨_, op_sub, fun c p q w v u H Q _ _ hd rp rq ho hq => by
  cases p <;> cases q <;> simp only [pSub] at ho <;> try (cases ho)
  exact ⟨_, _, rp.int, rq.int, hq _ _ (Same.refl _) rfl⟩⟩
def pMul : PV → PV → Option PV
  | .int i, .int j => if ((-(2 ^ 64) < i ∧ i < 2 ^ 64) ∨ (-(2 ^ 64) < j ∧ j < 2 ^ 64)) then some (.int (i * j)) else none
  | _, _ => none
theorem od_mul : OpD X (binaryOp .Mult) .rep pMul := ⟨_, op_mul, fun c p q w v u H Q _ _ hd rp rq ho hq => by
  cases p <;> cases q <;> simp only [pMul] at ho <;> try (cases ho)
  split at ho <;> cases ho
  rename_i hl
  exact ⟨_, _, rp.int, rq.int, hl, hq _ _ (Same.refl _) rfl⟩⟩
def pRept : PV → PV → Option PV
  | .lst a, .int k => if k < 2 ^ 63 ∧ -(2 ^ 63) ≤ k ∧ a.length * k.toNat ≤ sizeLine then some (.lst (List.replicate k.toNat a).flatten) else none
  | _, _ => none
theorem repl_flatten {c : Ct} {H : Hp} {l : List PV} {xs : List V} (k : RepL c H l xs) : ∀ n : Nat, RepL c H (List.replicate n l).flatten (List.replicate n xs).flatten
  | 0 => rfl
  | n + 1 => by
    rw [List.replicate_succ, List.replicate_succ, List.flatten_cons, List.flatten_cons]
    exact k.append (repl_flatten k n)
theorem od_rept : OpD X (binaryOp .Mult) .frs pRept := ⟨_, op_rep, fun c p q w v u H Q _ _ hd rp rq ho hq => by
  cases p <;> cases q <;> simp only [pRept] at ho <;> try (cases ho)
  split at ho <;> cases ho
  rename_i a k hl
  obtain ⟨l, xs, rfl, h1, k1⟩ := rp.lst
  exact ⟨l, k, xs, rfl, rq.int, h1, hl.2.1, hl.1, by rw [← k1.length]; exact hl.2.2, fun z hz => hq _ _ (same_new hz) (val_lst (repl_flatten k1 _) hz)⟩⟩
def pTimes (p q : PV) : Option PV := por (pMul p q) (pRept p q)
theorem od_times : OpD X (binaryOp .Mult) .rep pTimes := od_mul.or od_rept.toRep
def pMod : PV → PV → Option PV
  | .int i, .int j => if j ≠ 0 then some (.int (i.fmod j)) else none
  | _, _ => none
theorem od_mod : OpD X (binaryOp .Mod) .rep pMod := ⟨_, op_modN, fun c p q w v u H Q _ _ hd rp rq ho hq => by
  cases p <;> cases q <;> simp only [pMod] at ho <;> try (cases ho)
  split at ho <;> cases ho
  rename_i hl
  exact ⟨_, _, rp.int, rq.int, hl, hq _ _ (Same.refl _) rfl⟩⟩
def pFdiv : PV → PV → Option PV
  | .int i, .int j => if j ≠ 0 ∧ j.natAbs < 1073741824 then some (.int (i.fdiv j)) else none
  | _, _ => none
theorem od_fdiv : OpD X (binaryOp .FloorDiv) .rep pFdiv := ⟨_, op_fdivN, fun c p q w v u H Q _ _ hd rp rq ho hq => by
  cases p <;> cases q <;> simp only [pFdiv] at ho <;> try (cases ho)
  split at ho <;> cases ho
  rename_i hl
  exact ⟨_, _, rp.int, rq.int, hl, hq _ _ (Same.refl _) rfl⟩⟩
def pPow : PV → PV → Option PV
  | .int i, .int j => if 0 ≤ j ∧ j ≤ 1000000 ∧ i.natAbs < 2 ^ 64 then some (.int (i ^ j.toNat)) else none
  | _, _ => none
theorem od_pow : OpD X (binaryOp .Pow) .rep pPow := ⟨_, op_pow, fun c p q w v u H Q _ _ hd rp rq ho hq => by
  cases p <;> cases q <;> simp only [pPow] at ho <;> try (cases ho)
  split at ho <;> cases ho
  rename_i hl
  exact ⟨_, _, rp.int, rq.int, hl, hq _ _ (Same.refl _) rfl⟩⟩

def pLt : PV → PV → Option Bool
  | .int i, .int j => some (decide (i < j))
  | _, _ => none
theorem od_lt : OpD X (compareOp .Lt) .rep (bo pLt) := ⟨_, op_lt, fun c p q w v u H Q _ _ hd rp rq ho hq => by
  cases p <;> cases q <;> simp only [bo, pLt, Option.map] at ho <;> try (cases ho)
  exact ⟨_, _, rp.int, rq.int, hq _ _ (Same.refl _) rfl⟩⟩
def pLe : PV → PV → Option Bool
  | .int i, .int j => some (decide (i ≤ j))
  | _, _ => none
theorem od_le : OpD X (compareOp .LtE) .rep (bo pLe) := ⟨_, op_le, fun c p q w v u H Q _ _ hd rp rq ho hq => by
  cases p <;> cases q <;> simp only [bo, pLe, Option.map] at ho <;> try (cases ho)
  exact ⟨_, _, rp.int, rq.int, hq _ _ (Same.refl _) rfl⟩⟩
def pGt : PV → PV → Option Bool
  | .int i, .int j => some (decide (j < i))
  | _, _ => none
theorem od_gt : OpD X (compareOp .Gt) .rep (bo pGt) := ⟨_, op_gt, fun c p q w v u H Q _ _ hd rp rq ho hq => by
  cases p <;> cases q <;> simp only [bo, pGt, Option.map] at ho <;> try (cases ho)
  exact ⟨_, _, rp.int, rq.int, hq _ _ (Same.refl _) rfl⟩⟩
def pGe : PV → PV → Option Bool
  | .int i, .int j => some (decide (j ≤ i))
  | _, _ => none
theorem od_ge : OpD X (compareOp .GtE) .rep (bo pGe) := ⟨_, op_ge, fun c p q w v u H Q _ _ hd rp rq ho hq => by
  cases p <;> cases q <;> simp only [bo, pGe, Option.map] at ho <;> try (cases ho)
  exact ⟨_, _, rp.int, rq.int, hq _ _ (Same.refl _) rfl⟩⟩
mutual
/-- the data of a value -/
def toD : PV → Option PyData
  | .non => some .none
  | .bl b => some (.bool b)
  | .int i => some (.int i)
  | .str s => some (.str s)
  | .tup l => (toDs l).map .tuple
  | .lst l => (toDs l).map .list
  | _ => none
def toDs : List PV → Option (List PyData)
  | [] => some []
  | p :: ps => match toD p, toDs ps with | some d, some ds => some (d :: ds) | _, _ => none
end
mutual
theorem toD_dp {c : Ct} {H : Hp} : ∀ {p : PV} {v : V} {d : PyData}, toD p = some d → Rep c H p v → Dp c.K H v d
  | .non, v, d, e, h => by cases e; cases h; exact .non
  | .bl b, v, d, e, h => by cases e; cases h; exact .bl b
  | .int b, v, d, e, h => by cases e; cases h; exact .int b
  | .str b, v, d, e, h => by cases e; cases h; exact .str b
  | .tup l, v, d, e, h => by
    obtain ⟨a, xs, rfl, h, k⟩ := h
    cases q : toDs l with
    | none => simp [toD, q] at e
    | some ds => simp [toD, q] at e; subst e; exact .tup h.sq (toDs_dp q k)
  | .lst l, v, d, e, h => by
    obtain ⟨a, xs, rfl, h, k⟩ := h
    cases q : toDs l with
    | none => simp [toD, q] at e
    | some ds => simp [toD, q] at e; subst e; exact .lst h.sq (toDs_dp q k)
  | .dct _ _, v, d, e, h => by cases e
  | .ins _ _ _, v, d, e, h => by cases e
  | .rng, v, d, e, h => by cases e
theorem toDs_dp {c : Ct} {H : Hp} : ∀ {p : List PV} {v : List V} {d : List PyData}, toDs p = some d → RepL c H p v → DpAll c.K H v d
  | [], v, d, e, h => by cases e; cases h; exact .nil
  | p :: ps, v, d, e, h => by
    obtain ⟨x, r, rfl, h1, h2⟩ := h
    cases q1 : toD p with
    | none => simp [toDs, q1] at e
    | some d1 =>
      cases q2 : toDs ps with
      | none => simp [toDs, q1, q2] at e
      | some ds => simp [toDs, q1, q2] at e; subst e; exact .cons (toD_dp q1 h1) (toDs_dp q2 h2)
end
theorem toD_dpB {c : Ct} {H : Hp} {p : PV} {v : V} {d : PyData} (e : toD p = some d) (h : RepB c H p v) : Dp c.K H v d := by
  rcases h with h | ⟨a, rfl, _, h⟩
  · exact toD_dp e h
  · cases p with
    | lst l =>
      obtain ⟨xs, h, k⟩ := h
      cases q : toDs l with
      | none => simp [toD, q] at e
      | some ds => simp [toD, q] at e; subst e; exact .lst (.of h) (toDs_dp q k)
    | dct ks ps => cases e
    | ins k ns ps => cases e
    | _ => exact h.elim
/-- two values compared -/
def pEqB (p q : PV) : Option Bool := match toD p, toD q with
  | some d, some e => if SeqAt.shaped d = true ∧ SeqAt.shaped e = true then some (PyData.eqv d e) else none
  | _, _ => none
def pNeB (p q : PV) : Option Bool := (pEqB p q).map fun b => !b
theorem pEqB_some {p q : PV} {b : Bool} (h : pEqB p q = some b) : ∃ d e, toD p = some d ∧ toD q = some e ∧ SeqAt.shaped d = true ∧ SeqAt.shaped e = true ∧ b = PyData.eqv d e := by
  unfold pEqB at h
  split at h
  · rename_i d e h1 h2
    split at h
    · rename_i h3
      cases h
      exact ⟨d, e, h1, h2, h3.1, h3.2, rfl⟩
    · cases h
  · cases h
theorem od_eq {k : Nat} (hr : Room k X.A) : OpD X (compareOp .Eq) .rep (bo pEqB) := ⟨_, op_eqD (by have := hr.un; omega), fun c p q w v u H Q ek _ hd rp rq ho hq => by
  cases e : pEqB p q with
  | none => simp [bo, e] at ho
  | some b =>
    simp [bo, e] at ho
    subst ho
    obtain ⟨d1, d2, h1, h2, h3, h4, rfl⟩ := pEqB_some e
    exact ⟨d1, d2, ek ▸ toD_dpB h1 rp, ek ▸ toD_dpB h2 rq, h3, h4, hq _ _ (Same.refl _) rfl⟩⟩
theorem od_ne {k : Nat} (hr : Room k X.A) : OpD X (compareOp .NotEq) .rep (bo pNeB) := ⟨_, op_neD (by have := hr.un; omega), fun c p q w v u H Q ek _ hd rp rq ho hq => by
  cases e : pEqB p q with
  | none => simp [bo, pNeB, e] at ho
  | some b =>
    simp [bo, pNeB, e] at ho
    subst ho
    obtain ⟨d1, d2, h1, h2, h3, h4, rfl⟩ := pEqB_some e
    exact ⟨d1, d2, ek ▸ toD_dpB h1 rp, ek ▸ toD_dpB h2 rq, h3, h4, hq _ _ (Same.refl _) rfl⟩⟩
/-- is None -/
def isNonP : PV → Bool
  | .non => true
  | _ => false
def pIsN (p q : PV) : Option Bool := match q with | .non => some (isNonP p) | _ => none
def pNotN (p q : PV) : Option Bool := match q with | .non => some (!isNonP p) | _ => none
theorem isNon {c : Ct} {H : Hp} {p : PV} {v : V} (h : RepB c H p v) : decide (v = .non) = isNonP p := by
  cases p with
  | non => rw [h.non]; rfl
  | bl b => rw [h.bl]; rfl
  | int b => rw [h.int]; rfl
  | str b => rw [h.str]; rfl
  | tup l => obtain ⟨a, xs, rfl, _⟩ := h.tup; rfl
  | lst l => obtain ⟨a, xs, rfl, _⟩ := h.lst; rfl
  | dct l k => obtain ⟨a, xs, rfl, _⟩ := h.dct; rfl
  | ins k l m => obtain ⟨a, xs, d, e, rfl, _⟩ := h.ins; rfl
  | rng =>
    rcases h with ⟨p, _, rfl⟩ | ⟨a, _, _, h⟩
    · rfl
    · exact h.elim
theorem od_isN : OpD X (compareOp .Is) .rep (bo pIsN) := ⟨_, op_isN, fun c p q w v u H Q _ _ hd rp rq ho hq => by
  cases q <;> simp only [bo, pIsN, Option.map] at ho <;> try (cases ho)
  exact ⟨rq.non, by rw [isNon rp]; exact hq _ _ (Same.refl _) rfl⟩⟩
theorem od_notN : OpD X (compareOp .IsNot) .rep (bo pNotN) := ⟨_, op_notN, fun c p q w v u H Q _ _ hd rp rq ho hq => by
  cases q <;> simp only [bo, pNotN, Option.map] at ho <;> try (cases ho)
  exact ⟨rq.non, by rw [isNon rp]; exact hq _ _ (Same.refl _) rfl⟩⟩
/-- is True, is not True, of bools -/
def pIsB (p q : PV) : Option Bool := match p, q with | .bl a, .bl b => some (decide (a = b)) | _, _ => none
def pNotB (p q : PV) : Option Bool := match p, q with | .bl a, .bl b => some (!decide (a = b)) | _, _ => none
theorem od_isB : OpD X (compareOp .Is) .rep (bo pIsB) := ⟨_, op_isBl, fun c p q w v u H Q _ _ hd rp rq ho hq => by
  cases p <;> cases q <;> simp only [bo, pIsB, Option.map] at ho <;> try (cases ho)
  exact ⟨_, _, rp.bl, rq.bl, hq _ _ (Same.refl _) rfl⟩⟩
theorem od_notB : OpD X (compareOp .IsNot) .rep (bo pNotB) := ⟨_, op_notBl, fun c p q w v u H Q _ _ hd rp rq ho hq => by
  cases p <;> cases q <;> simp only [bo, pNotB, Option.map] at ho <;> try (cases ho)
  exact ⟨_, _, rp.bl, rq.bl, hq _ _ (Same.refl _) rfl⟩⟩
def pIs (p q : PV) : Option Bool := por (pIsN p q) (pIsB p q)
def pIsnt (p q : PV) : Option Bool := por (pNotN p q) (pNotB p q)
theorem OpD.orB {f : Value → Value → Sem Value} {o o' : PV → PV → Option Bool} (h : OpD X f md (bo o)) (h' : OpD X f md (bo o')) : OpD X f md (bo fun p q => por (o p q) (o' p q)) := by
  have e : (fun p q => por (bo o p q) (bo o' p q)) = bo fun p q => por (o p q) (o' p q) := by
    funext p q
    show por (Option.map PV.bl (o p q)) (Option.map PV.bl (o' p q)) = Option.map PV.bl (por (o p q) (o' p q))
    cases o p q <;> rfl
  rw [← e]
  exact h.or h'
theorem od_is : OpD X (compareOp .Is) .rep (bo pIs) := od_isN.orB od_isB
theorem od_isnt : OpD X (compareOp .IsNot) .rep (bo pIsnt) := od_notN.orB od_notB
/-- in a list or tuple of flat items -/
def flatP : PV → Bool
  | .non => true
  | .bl _ => true
  | .int _ => true
  | .str _ => true
  | _ => false
def eqP : PV → PV → Bool
  | .non, .non => true
  | .bl a, .bl b => a == b
  | .bl a, .int b => (if a then 1 else 0) == b
  | .int a, .bl b => a == (if b then 1 else 0)
  | .int a, .int b => a == b
  | .str a, .str b => a == b
  | _, _ => false
def pInB (p q : PV) : Option Bool := match q with
  | .lst l => if flatP p = true ∧ l.all flatP = true then some (l.any fun y => eqP y p) else none
  | .tup l => if flatP p = true ∧ l.all flatP = true then some (l.any fun y => eqP y p) else none
  | _ => none
theorem flat_rep {c : Ct} {H : Hp} {p : PV} {v : V} (h : Rep c H p v) (f : flatP p = true) : flatV v = true := by
  cases p <;> simp only [flatP] at f <;> first | (cases f; done) | (cases h; rfl)
theorem flat_repB {c : Ct} {H : Hp} {p : PV} {v : V} (h : RepB c H p v) (f : flatP p = true) : flatV v = true := by
  rcases h with h | ⟨a, rfl, _, h⟩
  · exact flat_rep h f
  · cases p <;> simp only [flatP] at f <;> first | (cases f; done) | exact h.elim
theorem flat_repB' {c : Ct} {H : Hp} {p : PV} {v : V} (h : RepB c H p v) (f : flatP p = true) : Rep c H p v := by
  rcases h with h | ⟨a, rfl, _, h⟩
  · exact h
  · cases p <;> simp only [flatP] at f <;> first | (cases f; done) | exact h.elim
theorem flat_all {c : Ct} {H : Hp} : ∀ {l : List PV} {vs : List V}, RepL c H l vs → l.all flatP = true → vs.all flatV = true
  | [], _, h, _ => by subst h; rfl
  | p :: ps, _, ⟨v, r, e, h1, h2⟩, f => by
    subst e
    simp only [List.all_cons, Bool.and_eq_true] at f ⊢
    exact ⟨flat_rep h1 f.1, flat_all h2 f.2⟩
theorem eqV_rep {c : Ct} {H : Hp} {p q : PV} {v u : V} (h : Rep c H p v) (k : Rep c H q u) (f : flatP p = true) (f' : flatP q = true) : eqV v u = eqP p q := by
  cases p <;> simp only [flatP] at f <;> first | (cases f; done) | skip
  all_goals (cases q <;> simp only [flatP] at f' <;> first | (cases f'; done) | (cases h; cases k; rfl))
theorem inV_rep {c : Ct} {H : Hp} {p : PV} {v : V} (h : Rep c H p v) (f : flatP p = true) : ∀ {l : List PV} {vs : List V}, RepL c H l vs → l.all flatP = true → inV v vs = l.any fun y => eqP y p
  | [], _, k, _ => by subst k; rfl
  | q :: ps, _, ⟨u, r, e, h1, h2⟩, g => by
    subst e
    simp only [List.all_cons, Bool.and_eq_true] at g
    show (eqV u v || inV v r) = (eqP q p || ps.any fun y => eqP y p)
    rw [eqV_rep h1 h g.1 f, inV_rep h f h2 g.2]
theorem pInB_ok {c : Ct} {H : Hp} {p q : PV} {v u : V} {b : Bool} (rp : RepB c H p v) (rq : RepB c H q u) (h : pInB p q = some b) :
    ∃ a xs, u = .ref a ∧ (SqL c.K H a xs ∨ SqT c.K H a xs) ∧ flatV v = true ∧ xs.all flatV = true ∧ b = inV v xs := by
  cases q <;> simp only [pInB] at h <;> try (cases h)
  all_goals (split at h <;> cases h; rename_i l hl)
  · obtain ⟨a, xs, rfl, h1, k⟩ := rq.tup
    exact ⟨a, xs, rfl, .inr h1.sq, flat_repB rp hl.1, flat_all k hl.2, (inV_rep (flat_repB' rp hl.1) hl.1 k hl.2).symm⟩
  · obtain ⟨a, xs, rfl, h1, k⟩ := rq.lst
    exact ⟨a, xs, rfl, .inl (.of h1), flat_repB rp hl.1, flat_all k hl.2, (inV_rep (flat_repB' rp hl.1) hl.1 k hl.2).symm⟩
def pNin (p q : PV) : Option Bool := (pInB p q).map fun b => !b
theorem od_in : OpD X (compareOp .In) .rep (bo pInB) := ⟨_, op_in_seq, fun c p q w v u H Q ek _ hd rp rq ho hq => by
  cases e : pInB p q with
  | none => simp [bo, e] at ho
  | some b =>
    simp [bo, e] at ho
    subst ho
    obtain ⟨a, xs, h1, h2, h3, h4, rfl⟩ := pInB_ok rp rq e
    exact ⟨a, xs, h1, ek ▸ h2, h3, h4, hq _ _ (Same.refl _) rfl⟩⟩
theorem od_nin : OpD X (compareOp .NotIn) .rep (bo pNin) := ⟨_, op_notIn_seq, fun c p q w v u H Q ek _ hd rp rq ho hq => by
  cases e : pInB p q with
  | none => simp [bo, pNin, e] at ho
  | some b =>
    simp [bo, pNin, e] at ho
    subst ho
    obtain ⟨a, xs, h1, h2, h3, h4, rfl⟩ := pInB_ok rp rq e
    exact ⟨a, xs, h1, ek ▸ h2, h3, h4, hq _ _ (Same.refl _) rfl⟩⟩
end
end Tr

namespace Tr
open PySem PySem.Spec PyProof.Rows L2

abbrev DenT := Sl → Rg → Res Bool
def PstT (c : Ct) (H : Hp) (W : Wn) (r : Res Bool) (Q : Bool → Hp → Prop) (E : XK) : Prop :=
  match r with
  | .ok p g => ∀ H', Ext c H H' → RgOk c H' g → Q p H'
  | .exc k ns ps g => ∀ cls d H', Ext c H H' → RgOk c H' g → RepX (c.ban W) H' k ns ps cls d → E cls d H'
  | .stuck => False
def ST (X : Cx) (Wx : WX) (Wk : List Nat) (e : Expr) (d : DenT) : Prop :=
  ∃ t, PT X e t ∧ ∀ (ρ : Rho) (B : Addr → Prop) (W : Wn) (σ : Sl) (σc : L2.St) (H : Hp) (g : Rg) (Q : Bool → Hp → Prop), W.map (·.1) = Wk →
    Rel (ct X ρ B) W σ σc H g → PstT (ct X ρ B) H W (d σ g) Q (fun cls dd H' => Wx cls dd σc H') → t σc H Q
def SW (X : Cx) (Wx : WX) (Wk : List Nat) (e : Expr) (d : DenT) : Prop :=
  ∃ t, PW X e t ∧ ∀ (ρ : Rho) (B : Addr → Prop) (W : Wn) (σ : Sl) (σc : L2.St) (H : Hp) (g : Rg) (Q : Bool → Hp → Prop), W.map (·.1) = Wk →
    Rel (ct X ρ B) W σ σc H g → PstT (ct X ρ B) H W (d σ g) Q (fun cls dd H' => Wx cls dd σc H') → t σc H Q
theorem PstT.from {c : Ct} {W : Wn} {H H1 : Hp} {r : Res Bool} {Q : Bool → Hp → Prop} {E : XK} (e : Ext c H H1) (h : PstT c H W r Q E) : PstT c H1 W r Q E := by
  cases r with
  | ok p g' => exact fun H' e' k' => h H' (e.trans e') k'
  | exc a b cc d => exact fun cls d H' e' k' q => h cls d H' (e.trans e') k' q
  | stuck => exact h
/-- a value, then a test of it -/
theorem PstT.bind {c : Ct} {W : Wn} {H : Hp} {m1 : Md} {r : Res PV} {f : PV → Rg → Res Bool} {Q : Bool → Hp → Prop} {Q1 : VK} {E : XK} (h : PstT c H W (r.bind f) Q E)
    (k : ∀ p g1 v H1, r = .ok p g1 → Ext c H H1 → RgOk c H1 g1 → Val (c.ban W) H H1 p v m1 → PstT c H1 W (f p g1) Q E → Q1 v H1) : Pst c W H m1 r Q1 E := by
  cases r with
  | ok p g1 => exact fun v H1 e k1 q => k p g1 v H1 rfl e k1 q (PstT.from e h)
  | exc a b cc d => exact h
  | stuck => exact h
theorem PstT.bindT {c : Ct} {W : Wn} {H : Hp} {r : Res Bool} {f : Bool → Rg → Res Bool} {Q Q1 : Bool → Hp → Prop} {E : XK} (h : PstT c H W (r.bind f) Q E)
    (k : ∀ p g1 H1, r = .ok p g1 → Ext c H H1 → RgOk c H1 g1 → PstT c H1 W (f p g1) Q E → Q1 p H1) : PstT c H W r Q1 E := by
  cases r with
  | ok p g1 => exact fun H1 e k1 => k p g1 H1 rfl e k1 (PstT.from e h)
  | exc a b cc d => exact h
  | stuck => exact h
theorem Pst.bindT {c : Ct} {W : Wn} {H : Hp} {md : Md} {r : Res Bool} {f : Bool → Rg → Res PV} {Q : VK} {Q1 : Bool → Hp → Prop} {E : XK} (h : Pst c W H md (r.bind f) Q E)
    (k : ∀ p g1 H1, r = .ok p g1 → Ext c H H1 → RgOk c H1 g1 → Pst c W H1 md (f p g1) Q E → Q1 p H1) : PstT c H W r Q1 E := by
  cases r with
  | ok p g1 => exact fun H1 e k1 => k p g1 H1 rfl e k1 (Pst.from e k1 h)
  | exc a b cc d => exact h
  | stuck => exact h

/-- a value's truth -/
def truth : PV → Option Bool
  | .non => some false
  | .bl b => some b
  | .int i => some (i != 0)
  | .str s => if s.length ≤ sizeLine then some ((s.length : Int) != 0) else none
  | .lst l => some (!l.isEmpty)
  | .tup l => some (!l.isEmpty)
  | _ => none
def dTr (d : Den) : DenT := fun σ g => (d σ g).bind fun p g => match truth p with | some b => .ok b g | none => .stuck
theorem isEmpty_len {α β : Type} {l : List α} {m : List β} (h : l.length = m.length) : l.isEmpty = m.isEmpty := by
  cases l <;> cases m <;> simp_all
section
variable {X : Cx} {Wx : WX} {Wk : List Nat} {md : Md}
theorem truV_of {c : Ct} {H : Hp} {p : PV} {v : V} {b : Bool} (h : RepB c H p v) (e : truth p = some b) : TruV c.K v H b := by
  cases p with
  | non => cases e; rw [h.non]; rfl
  | bl b => cases e; rw [h.bl]; rfl
  | int i => cases e; rw [h.int]; rfl
  | str s =>
    have e : (if s.length ≤ sizeLine then some ((s.length : Int) != 0) else none) = some b := e
    by_cases hl : s.length ≤ sizeLine
    · rw [if_pos hl] at e
      cases e
      rw [h.str]
      exact ⟨hl, rfl⟩
    · rw [if_neg hl] at e
      cases e
  | lst l =>
    cases e
    obtain ⟨a, xs, rfl, h1, k⟩ := h.lst
    exact .inl ⟨xs, .of h1, by rw [isEmpty_len k.length]⟩
  | tup l =>
    cases e
    obtain ⟨a, xs, rfl, h1, k⟩ := h.tup
    exact .inr (.inl ⟨xs, h1.sq, by rw [isEmpty_len k.length]⟩)
  | dct ks ps => cases e
  | ins k ns ps => cases e
  | rng => cases e
theorem st_val {e : Expr} {d : Den} (h : SE X Wx Wk .brw e d) (he : ∀ whole, isTrue e X.env whole = (do let v ← whole; standAt e.pos; holding [v] (truthy v)) := by intro _; rfl) : ST X Wx Wk e (dTr d) := by
  obtain ⟨t, ht, hs⟩ := h
  refine ⟨_, pt_truth ht he, fun ρ B W σ σc H g Q hW R p => ?_⟩
  refine hs ρ B W σ σc H g _ hW R (PstT.bind p fun x g1 v H1 _ e1 k1 q1 p => ?_)
  cases eb : truth x with
  | none => rw [eb] at p; exact p.elim
  | some b =>
    rw [eb] at p
    exact ⟨b, truV_of q1 eb, p H1 (Ext.refl _ _) k1⟩
/-- a comparison as a test -/
def dCmp (o : PV → PV → Option Bool) (da db : Den) : DenT := fun σ g => (da σ g).bind fun p g => (db σ g).bind fun q g => match o p q with | some w => .ok w g | none => .stuck
theorem st_cmp {op : CmpOp} {a b : Expr} {pos : Pos} {o : PV → PV → Option Bool} {da db : Den} (ho : OpD X (compareOp op) .rep (bo o)) (ha : SE X Wx Wk .brw a da) (hb : SE X Wx Wk .brw b db) (hm : behindInMarks op b = false := by first | exact nomark _ | rfl | with_unfolding_all rfl) : ST X Wx Wk (.Compare a [op] [b] pos) (dCmp o da db) := by
  obtain ⟨r, hr, k⟩ := ho
  obtain ⟨ta, pa, sa⟩ := ha
  obtain ⟨tb, pb, sb⟩ := hb
  refine ⟨_, pt_cmpR hr pa pb hm, fun ρ B W σ σc H g Q hW R p => ?_⟩
  refine sa ρ B W σ σc H g _ hW R (PstT.bind p fun x g1 v H1 _ e1 k1 q1 p => ?_)
  have R1 := R.ext e1 k1
  refine sb ρ B W σ σc H1 g1 _ hW R1 (PstT.bind p fun y g2 u H2 _ e2 k2 q2 p => ?_)
  have R2 := R1.ext e2 k2
  cases ew : o x y with
  | none => rw [ew] at p; exact p.elim
  | some w =>
    rw [ew] at p
    refine k ((ct X ρ B).ban W) x y (.bl w) v u H2 _ rfl rfl R2.wdom (RepB.ext (c := (ct X ρ B).ban W) e2 (Ct.ban_R R.rb) q1) q2 (by unfold bo; rw [ew]; rfl) fun z H' s hz => ?_
    exact ⟨w, hz, p H' (Ext.of s) (k2.same s)⟩
def dChT (o o' : PV → PV → Option Bool) (da db dc : Den) : DenT := fun σ g => (da σ g).bind fun p g => (db σ g).bind fun q g => match o p q with
  | some true => (dc σ g).bind fun r g => match o' q r with | some w => .ok w g | none => .stuck
  | some false => .ok false g
  | none => .stuck
theorem st_chain {op op' : CmpOp} {a b e : Expr} {pos : Pos} {o o' : PV → PV → Option Bool} {da db dc : Den} (ho : OpD X (compareOp op) .rep (bo o)) (ho' : OpD X (compareOp op') .rep (bo o')) (ha : SE X Wx Wk .brw a da) (hb : SE X Wx Wk .brw b db) (hc : SE X Wx Wk .brw e dc)
    (hm : lastMarks [op, op'] [b, e] = false := by with_unfolding_all rfl) : ST X Wx Wk (.Compare a [op, op'] [b, e] pos) (dChT o o' da db dc) := by
  obtain ⟨r, hr, k⟩ := ho
  obtain ⟨r', hr', k'⟩ := ho'
  obtain ⟨ta, pa, sa⟩ := ha
  obtain ⟨tb, pb, sb⟩ := hb
  obtain ⟨tc, pc, sc⟩ := hc
  refine ⟨_, pt_chain hr hr' pa pb pc hm, fun ρ B W σ σc H g Q hW R p => ?_⟩
  refine sa ρ B W σ σc H g _ hW R (PstT.bind p fun x g1 v H1 _ e1 k1 q1 p => ?_)
  have R1 := R.ext e1 k1
  refine sb ρ B W σ σc H1 g1 _ hW R1 (PstT.bind p fun y g2 u H2 _ e2 k2 q2 p => ?_)
  have R2 := R1.ext e2 k2
  cases ew : o x y with
  | none => rw [ew] at p; exact p.elim
  | some w =>
    rw [ew] at p
    refine k ((ct X ρ B).ban W) x y (.bl w) v u H2 _ rfl rfl R2.wdom (RepB.ext (c := (ct X ρ B).ban W) e2 (Ct.ban_R R.rb) q1) q2 (by unfold bo; rw [ew]; rfl) fun z H' s hz => ?_
    refine ⟨w, hz, ?_⟩
    cases w with
    | false => exact ⟨false, rfl, p H' (Ext.of s) (k2.same s)⟩
    | true =>
      have R3 := R2.ext (Ext.of s) (k2.same s)
      refine sc ρ B W σ σc H' g2 _ hW R3 (PstT.bind (PstT.from (Ext.of s) p) fun z' g3 u' H3 _ e3 k3 q3 p => ?_)
      have R4 := R3.ext e3 k3
      cases ew' : o' y z' with
      | none => rw [ew'] at p; exact p.elim
      | some w' =>
        rw [ew'] at p
        refine k' ((ct X ρ B).ban W) y z' (.bl w') u u' H3 _ rfl rfl R4.wdom (RepB.ext (c := (ct X ρ B).ban W) e3 (Ct.ban_R R.rb) (RepB.ext (c := (ct X ρ B).ban W) (Ext.of s) (Ct.ban_R R.rb) q2)) q3 (by unfold bo; rw [ew']; rfl) fun z2 H4 s2 hz2 => ?_
        exact ⟨w', hz2, p H4 (Ext.of s2) (k3.same s2)⟩
/-- a test as a value -/
def dOfT (d : DenT) : Den := fun σ g => (d σ g).bind fun b g => .ok (.bl b) g
theorem se_chain {op op' : CmpOp} {a b e : Expr} {pos : Pos} {o o' : PV → PV → Option Bool} {da db dc : Den} (ho : OpD X (compareOp op) .rep (bo o)) (ho' : OpD X (compareOp op') .rep (bo o')) (ha : SE X Wx Wk .brw a da) (hb : SE X Wx Wk .brw b db) (hc : SE X Wx Wk .brw e dc)
    (hm : lastMarks [op, op'] [b, e] = false := by with_unfolding_all rfl) : SE X Wx Wk .rep (.Compare a [op, op'] [b, e] pos) (dOfT (dChT o o' da db dc)) := by
  obtain ⟨r, hr, k⟩ := ho
  obtain ⟨r', hr', k'⟩ := ho'
  obtain ⟨ta, pa, sa⟩ := ha
  obtain ⟨tb, pb, sb⟩ := hb
  obtain ⟨tc, pc, sc⟩ := hc
  refine ⟨_, pe_chain hr hr' pa pb pc hm, fun ρ B W σ σc H g Q hW R p => ?_⟩
  have p : PstT (ct X ρ B) H W (dChT o o' da db dc σ g) (fun b H' => Q (.bl b) H') (fun cls dd H' => Wx cls dd σc H') := by
    refine Pst.bindT p fun b g1 H1 _ e1 k1 q => q (.bl b) H1 (Ext.refl _ _) k1 rfl
  refine sa ρ B W σ σc H g _ hW R (PstT.bind p fun x g1 v H1 _ e1 k1 q1 p => ?_)
  have R1 := R.ext e1 k1
  refine sb ρ B W σ σc H1 g1 _ hW R1 (PstT.bind p fun y g2 u H2 _ e2 k2 q2 p => ?_)
  have R2 := R1.ext e2 k2
  cases ew : o x y with
  | none => rw [ew] at p; exact p.elim
  | some w =>
    rw [ew] at p
    refine k ((ct X ρ B).ban W) x y (.bl w) v u H2 _ rfl rfl R2.wdom (RepB.ext (c := (ct X ρ B).ban W) e2 (Ct.ban_R R.rb) q1) q2 (by unfold bo; rw [ew]; rfl) fun z H' s hz => ?_
    refine ⟨w, hz, ?_⟩
    cases w with
    | false => exact p H' (Ext.of s) (k2.same s)
    | true =>
      have R3 := R2.ext (Ext.of s) (k2.same s)
      refine sc ρ B W σ σc H' g2 _ hW R3 (PstT.bind (PstT.from (Ext.of s) p) fun z' g3 u' H3 _ e3 k3 q3 p => ?_)
      have R4 := R3.ext e3 k3
      cases ew' : o' y z' with
      | none => rw [ew'] at p; exact p.elim
      | some w' =>
        rw [ew'] at p
        refine k' ((ct X ρ B).ban W) y z' (.bl w') u u' H3 _ rfl rfl R4.wdom (RepB.ext (c := (ct X ρ B).ban W) e3 (Ct.ban_R R.rb) (RepB.ext (c := (ct X ρ B).ban W) (Ext.of s) (Ct.ban_R R.rb) q2)) q3 (by unfold bo; rw [ew']; rfl) fun z2 H4 s2 hz2 => ?_
        have hz2 : z2 = .bl w' := hz2
        subst hz2
        exact p H4 (Ext.of s2) (k3.same s2)
def dAndT (a b : DenT) : DenT := fun σ g => (a σ g).bind fun c g => if c = true then b σ g else .ok false g
def dOrT (a b : DenT) : DenT := fun σ g => (a σ g).bind fun c g => if c = true then .ok true g else b σ g
def dNotT (a : DenT) : DenT := fun σ g => (a σ g).bind fun c g => .ok (!c) g
theorem sw_st {e : Expr} {d : DenT} (h : SW X Wx Wk e d) : ST X Wx Wk e d := by
  obtain ⟨t, ht, hs⟩ := h
  exact ⟨t, ht.pt, hs⟩
theorem sw_and1 {a : Expr} {pos : Pos} {d : DenT} (h : ST X Wx Wk a d) : SW X Wx Wk (.BoolOp .And [a] pos) d := by
  obtain ⟨t, ht, hs⟩ := h
  exact ⟨t, pw_and1 ht, hs⟩
theorem sw_or1 {a : Expr} {pos : Pos} {d : DenT} (h : ST X Wx Wk a d) : SW X Wx Wk (.BoolOp .Or [a] pos) d := by
  obtain ⟨t, ht, hs⟩ := h
  exact ⟨t, pw_or1 ht, hs⟩
theorem sw_and {a b : Expr} {rest : List Expr} {pos : Pos} {da db : DenT} (h : ST X Wx Wk a da) (h' : SW X Wx Wk (.BoolOp .And (b :: rest) pos) db) : SW X Wx Wk (.BoolOp .And (a :: b :: rest) pos) (dAndT da db) := by
  obtain ⟨t, ht, hs⟩ := h
  obtain ⟨t', ht', hs'⟩ := h'
  refine ⟨_, pw_and ht ht', fun ρ B W σ σc H g Q hW R p => ?_⟩
  refine hs ρ B W σ σc H g _ hW R (PstT.bindT p fun c g1 H1 _ e1 k1 p => ?_)
  cases c with
  | true => exact hs' ρ B W σ σc H1 g1 _ hW (R.ext e1 k1) p
  | false => exact p H1 (Ext.refl _ _) k1
theorem sw_or {a b : Expr} {rest : List Expr} {pos : Pos} {da db : DenT} (h : ST X Wx Wk a da) (h' : SW X Wx Wk (.BoolOp .Or (b :: rest) pos) db) : SW X Wx Wk (.BoolOp .Or (a :: b :: rest) pos) (dOrT da db) := by
  obtain ⟨t, ht, hs⟩ := h
  obtain ⟨t', ht', hs'⟩ := h'
  refine ⟨_, pw_or ht ht', fun ρ B W σ σc H g Q hW R p => ?_⟩
  refine hs ρ B W σ σc H g _ hW R (PstT.bindT p fun c g1 H1 _ e1 k1 p => ?_)
  cases c with
  | false => exact hs' ρ B W σ σc H1 g1 _ hW (R.ext e1 k1) p
  | true => exact p H1 (Ext.refl _ _) k1
theorem st_not {a : Expr} {pos : Pos} {d : DenT} (h : ST X Wx Wk a d) : ST X Wx Wk (.UnaryOp .Not a pos) (dNotT d) := by
  obtain ⟨t, ht, hs⟩ := h
  refine ⟨_, pt_not ht, fun ρ B W σ σc H g Q hW R p => ?_⟩
  exact hs ρ B W σ σc H g _ hW R (PstT.bindT p fun c g1 H1 _ e1 k1 p => p H1 (Ext.refl _ _) k1)
/-- and, or, not as values, of bools -/
def dAnd (da db : Den) : Den := fun σ g => (da σ g).bind fun p g => match p with | .bl true => db σ g | .bl false => .ok (.bl false) g | _ => .stuck
def dOr (da db : Den) : Den := fun σ g => (da σ g).bind fun p g => match p with | .bl false => db σ g | .bl true => .ok (.bl true) g | _ => .stuck
def dNot (da : Den) : Den := fun σ g => (da σ g).bind fun p g => match p with | .bl b => .ok (.bl (!b)) g | _ => .stuck
theorem se_one {op} {a : Expr} {pos : Pos} {d : Den} (h : SE X Wx Wk md a d) : SE X Wx Wk md (.BoolOp op [a] pos) d := by
  obtain ⟨t, ht, hs⟩ := h
  exact ⟨t, pe_one ht, hs⟩
theorem se_and {a b : Expr} {rest : List Expr} {pos : Pos} {da db : Den} (h : SE X Wx Wk .brw a da) (h' : SE X Wx Wk .rep (.BoolOp .And (b :: rest) pos) db) : SE X Wx Wk .rep (.BoolOp .And (a :: b :: rest) pos) (dAnd da db) := by
  obtain ⟨t, ht, hs⟩ := h
  obtain ⟨t', ht', hs'⟩ := h'
  refine ⟨_, pe_and ht ht', fun ρ B W σ σc H g Q hW R p => ?_⟩
  refine hs ρ B W σ σc H g _ hW R (p.bind fun x g1 v H1 _ e1 k1 q1 p => ?_)
  cases x with
  | bl b =>
    refine ⟨b, q1.bl, ?_⟩
    cases b with
    | true => exact hs' ρ B W σ σc H1 g1 _ hW (R.ext e1 k1) p
    | false => exact p _ H1 (Ext.refl _ _) k1 rfl
  | _ => exact p.elim
theorem se_or {a b : Expr} {rest : List Expr} {pos : Pos} {da db : Den} (h : SE X Wx Wk .brw a da) (h' : SE X Wx Wk .rep (.BoolOp .Or (b :: rest) pos) db) : SE X Wx Wk .rep (.BoolOp .Or (a :: b :: rest) pos) (dOr da db) := by
  obtain ⟨t, ht, hs⟩ := h
  obtain ⟨t', ht', hs'⟩ := h'
  refine ⟨_, pe_or ht ht', fun ρ B W σ σc H g Q hW R p => ?_⟩
  refine hs ρ B W σ σc H g _ hW R (p.bind fun x g1 v H1 _ e1 k1 q1 p => ?_)
  cases x with
  | bl b =>
    refine ⟨b, q1.bl, ?_⟩
    cases b with
    | false => exact hs' ρ B W σ σc H1 g1 _ hW (R.ext e1 k1) p
    | true => exact p _ H1 (Ext.refl _ _) k1 rfl
  | _ => exact p.elim
theorem se_not {a : Expr} {pos : Pos} {da : Den} (h : SE X Wx Wk .brw a da) : SE X Wx Wk .rep (.UnaryOp .Not a pos) (dNot da) := by
  obtain ⟨t, ht, hs⟩ := h
  refine ⟨_, pe_not ht, fun ρ B W σ σc H g Q hW R p => ?_⟩
  refine hs ρ B W σ σc H g _ hW R (p.bind fun x g1 v H1 _ e1 k1 q1 p => ?_)
  cases x with
  | bl b => exact ⟨b, q1.bl, p _ H1 (Ext.refl _ _) k1 rfl⟩
  | _ => exact p.elim
def dIfE (c : DenT) (a b : Den) : Den := fun σ g => (c σ g).bind fun t g => if t = true then a σ g else b σ g
theorem se_if {c a b : Expr} {pos : Pos} {dc : DenT} {da db : Den} (hc : ST X Wx Wk c dc) (ha : SE X Wx Wk md a da) (hb : SE X Wx Wk md b db) : SE X Wx Wk md (.IfExp c a b pos) (dIfE dc da db) := by
  obtain ⟨t, ht, hs⟩ := hc
  obtain ⟨ta, pa, sa⟩ := ha
  obtain ⟨tb, pb, sb⟩ := hb
  refine ⟨_, pe_ifExp ht pa pb, fun ρ B W σ σc H g Q hW R p => ?_⟩
  refine hs ρ B W σ σc H g _ hW R (Pst.bindT p fun c g1 H1 _ e1 k1 p => ?_)
  cases c with
  | true => exact sa ρ B W σ σc H1 g1 _ hW (R.ext e1 k1) p
  | false => exact sb ρ B W σ σc H1 g1 _ hW (R.ext e1 k1) p
/-- -a -/
def dNeg (da : Den) : Den := fun σ g => (da σ g).bind fun p g => match p with | .int i => .ok (.int (-i)) g | _ => .stuck
theorem se_neg {a : Expr} {pos : Pos} {da : Den} (h : SE X Wx Wk .brw a da) : SE X Wx Wk .rep (.UnaryOp .USub a pos) (dNeg da) := by
  obtain ⟨t, ht, hs⟩ := h
  refine ⟨_, pe_un un_neg ht, fun ρ B W σ σc H g Q hW R p => ?_⟩
  refine hs ρ B W σ σc H g _ hW R (p.bind fun x g1 v H1 _ e1 k1 q1 p => ?_)
  cases x with
  | int b => exact ⟨b, q1.int, p _ H1 (Ext.refl _ _) k1 rfl⟩
  | _ => exact p.elim
end
end Tr

namespace Tr
open PySem PySem.Spec PyProof.Rows L2

abbrev DenL := Sl → Rg → Res (List PV)
def RepLB (c : Ct) (H : Hp) : List PV → List V → Prop
  | [], vs => vs = []
  | p :: ps, vs => ∃ v r, vs = v :: r ∧ RepB c H p v ∧ RepLB c H ps r
theorem RepLB.ext {c : Ct} {H H' : Hp} (e : Ext c H H') (rb : ∀ b, c.R b → c.B b) : ∀ {ps : List PV} {vs : List V}, RepLB c H ps vs → RepLB c H' ps vs
  | [], _, h => h
  | p :: ps, _, ⟨v, r, h1, h2, h3⟩ => ⟨v, r, h1, h2.ext e rb, RepLB.ext e rb h3⟩
def ValL (c : Ct) (H : Hp) (ps : List PV) (vs : List V) : Md → Prop
  | .brw => RepLB c H ps vs
  | _ => RepL c H ps vs
def PstL (c : Ct) (W : Wn) (H : Hp) (md : Md) (n : Nat) (r : Res (List PV)) (Q : List V → Hp → Prop) (E : XK) : Prop :=
  match r with
  | .ok p g => ∀ v H', Ext c H H' → RgOk c H' g → ValL (c.ban W) H' p v md → p.length = n → Q v H'
  | .exc k ns ps g => ∀ cls d H', Ext c H H' → RgOk c H' g → RepX (c.ban W) H' k ns ps cls d → E cls d H'
  | .stuck => False
def SA (X : Cx) (Wx : WX) (Wk : List Nat) (md : Md) (es : List Expr) (d : DenL) : Prop :=
  ∃ t, PA X es t ∧ ∀ (ρ : Rho) (B : Addr → Prop) (W : Wn) (σ : Sl) (σc : L2.St) (H : Hp) (g : Rg) (Q : List V → Hp → Prop), W.map (·.1) = Wk →
    Rel (ct X ρ B) W σ σc H g → PstL (ct X ρ B) W H md es.length (d σ g) Q (fun cls dd H' => Wx cls dd σc H') → t σc H Q
theorem PstL.from {c : Ct} {W : Wn} {H H1 : Hp} {md : Md} {n : Nat} {r : Res (List PV)} {Q : List V → Hp → Prop} {E : XK} (e : Ext c H H1) (h : PstL c W H md n r Q E) : PstL c W H1 md n r Q E := by
  cases r with
  | ok p g' => exact fun v H' e' k' q => h v H' (e.trans e') k' q
  | exc a b cc d => exact fun cls d H' e' k' q => h cls d H' (e.trans e') k' q
  | stuck => exact h
/-- an expression, then a list -/
theorem PstL.bind1 {c : Ct} {W : Wn} {H : Hp} {m1 m2 : Md} {n : Nat} {r : Res PV} {f : PV → Rg → Res (List PV)} {Q : List V → Hp → Prop} {Q1 : VK} {E : XK} (h : PstL c W H m2 n (r.bind f) Q E)
    (k : ∀ p g1 v H1, r = .ok p g1 → Ext c H H1 → RgOk c H1 g1 → Val (c.ban W) H H1 p v m1 → PstL c W H1 m2 n (f p g1) Q E → Q1 v H1) : Pst c W H m1 r Q1 E := by
  cases r with
  | ok p g1 => exact fun v H1 e k1 q => k p g1 v H1 rfl e k1 q (PstL.from e h)
  | exc a b cc d => exact h
  | stuck => exact h
/-- a list, then a list -/
theorem PstL.bindL {c : Ct} {W : Wn} {H : Hp} {m1 m2 : Md} {n n1 : Nat} {r : Res (List PV)} {f : List PV → Rg → Res (List PV)} {Q Q1 : List V → Hp → Prop} {E : XK} (h : PstL c W H m2 n (r.bind f) Q E)
    (k : ∀ p g1 v H1, r = .ok p g1 → Ext c H H1 → RgOk c H1 g1 → ValL (c.ban W) H1 p v m1 → p.length = n1 → PstL c W H1 m2 n (f p g1) Q E → Q1 v H1) : PstL c W H m1 n1 r Q1 E := by
  cases r with
  | ok p g1 => exact fun v H1 e k1 q l => k p g1 v H1 rfl e k1 q l (PstL.from e h)
  | exc a b cc d => exact h
  | stuck => exact h
/-- a list, then a value -/
theorem Pst.bindL {c : Ct} {W : Wn} {H : Hp} {m1 m2 : Md} {n1 : Nat} {r : Res (List PV)} {f : List PV → Rg → Res PV} {Q : VK} {Q1 : List V → Hp → Prop} {E : XK} (h : Pst c W H m2 (r.bind f) Q E)
    (k : ∀ p g1 v H1, r = .ok p g1 → Ext c H H1 → RgOk c H1 g1 → ValL (c.ban W) H1 p v m1 → p.length = n1 → Pst c W H1 m2 (f p g1) Q E → Q1 v H1) : PstL c W H m1 n1 r Q1 E := by
  cases r with
  | ok p g1 => exact fun v H1 e k1 q l => k p g1 v H1 rfl e k1 q l (Pst.from e k1 h)
  | exc a b cc d => exact h
  | stuck => exact h
def dNil : DenL := fun _ g => .ok [] g
def dCons (d : Den) (ds : DenL) : DenL := fun σ g => (d σ g).bind fun p g => (ds σ g).bind fun ps g => .ok (p :: ps) g
section
variable {X : Cx} {Wx : WX} {Wk : List Nat} {md : Md}
theorem sa_nil : SA X Wx Wk md [] dNil := ⟨_, pa_nil, fun ρ B W σ σc H g Q hW R p => p [] H (Ext.refl _ _) R.rg (by cases md <;> rfl) rfl⟩
theorem sa_cons {e : Expr} {es : List Expr} {d : Den} {ds : DenL} (h : SE X Wx Wk .rep e d) (h' : SA X Wx Wk .rep es ds) (hs : starEach (e :: es) X.env = (false, eval e X.env) :: starEach es X.env := by rfl) : SA X Wx Wk .rep (e :: es) (dCons d ds) := by
  obtain ⟨t, ht, hd⟩ := h
  obtain ⟨t', ht', hd'⟩ := h'
  refine ⟨_, pa_cons ht ht' hs, fun ρ B W σ σc H g Q hW R p => ?_⟩
  refine hd ρ B W σ σc H g _ hW R (PstL.bind1 p fun x g1 v H1 _ e1 k1 q1 p => ?_)
  refine hd' ρ B W σ σc H1 g1 _ hW (R.ext e1 k1) (PstL.bindL p fun ys g2 vs H2 _ e2 k2 q2 l p => ?_)
  exact p _ H2 (Ext.refl _ _) k2 ⟨v, vs, rfl, Rep.ext (c := (ct X ρ B).ban W) e2 (Ct.ban_R R.rb) q1, q2⟩ (by simp [l])
/-- .. borrowed -/
theorem sb_cons {e : Expr} {es : List Expr} {d : Den} {ds : DenL} (h : SE X Wx Wk .brw e d) (h' : SA X Wx Wk .brw es ds) (hs : starEach (e :: es) X.env = (false, eval e X.env) :: starEach es X.env := by rfl) : SA X Wx Wk .brw (e :: es) (dCons d ds) := by
  obtain ⟨t, ht, hd⟩ := h
  obtain ⟨t', ht', hd'⟩ := h'
  refine ⟨_, pa_cons ht ht' hs, fun ρ B W σ σc H g Q hW R p => ?_⟩
  refine hd ρ B W σ σc H g _ hW R (PstL.bind1 p fun x g1 v H1 _ e1 k1 q1 p => ?_)
  refine hd' ρ B W σ σc H1 g1 _ hW (R.ext e1 k1) (PstL.bindL p fun ys g2 vs H2 _ e2 k2 q2 l p => ?_)
  exact p _ H2 (Ext.refl _ _) k2 ⟨v, vs, rfl, RepB.ext (c := (ct X ρ B).ban W) e2 (Ct.ban_R R.rb) q1, q2⟩ (by simp [l])

theorem small_len {n : Nat} (h : n ≤ 1000) : n ≤ sizeLine := Nat.le_trans h (by decide)
def dLst (ds : DenL) : Den := fun σ g => (ds σ g).bind fun ps g => .ok (.lst ps) g
def dTup (ds : DenL) : Den := fun σ g => (ds σ g).bind fun ps g => .ok (.tup ps) g
theorem se_lst {es : List Expr} {pos : Pos} {ds : DenL} (h : SA X Wx Wk .rep es ds) (hl : es.length ≤ 1000 := by decide) : SE X Wx Wk .frs (.List es pos) (dLst ds) := by
  obtain ⟨t, ht, hd⟩ := h
  refine ⟨_, pe_lst ht, fun ρ B W σ σc H g Q hW R p => ?_⟩
  refine hd ρ B W σ σc H g _ hW R (Pst.bindL p fun ps g1 vs H1 _ e1 k1 q1 l p => ?_)
  refine ⟨small_len (by rw [← RepL.length q1, l]; exact hl), fun z hz => ?_⟩
  exact p _ _ (Ext.of (same_new hz)) (k1.same (same_new hz)) (val_lst (c := (ct X ρ B).ban W) q1 hz)
theorem se_tup {es : List Expr} {k} {pos : Pos} {ds : DenL} (h : SA X Wx Wk .rep es ds) (hl : es.length ≤ 1000 := by decide) : SE X Wx Wk .rep (.Tuple es k pos) (dTup ds) := by
  obtain ⟨t, ht, hd⟩ := h
  refine ⟨_, pe_tup ht, fun ρ B W σ σc H g Q hW R p => ?_⟩
  refine hd ρ B W σ σc H g _ hW R (Pst.bindL p fun ps g1 vs H1 _ e1 k1 q1 l p => ?_)
  refine ⟨small_len (by rw [← RepL.length q1, l]; exact hl), fun z hz => ?_⟩
  exact p _ _ (Ext.of (same_new hz)) (k1.same (same_new hz)) (val_tup (c := (ct X ρ B).ban W) q1 hz (R.ext e1 k1).wdom)

def keyP : PV → Option Key
  | .int i => some (.inl i)
  | .str s => some (.inr s)
  | _ => none
theorem keyP_rep {c : Ct} {H : Hp} {p : PV} {v : V} {k : Key} (h : RepB c H p v) (e : keyP p = some k) : v = kV k := by
  cases p <;> simp only [keyP] at e <;> cases e
  · exact h.int
  · exact h.str
def valP (ks : List Key) (ps : List PV) (k : Key) : Option PV := ((ks.zip ps).find? fun kv => decide (kv.1 = k)).map (·.2)
theorem valP_rep {c : Ct} {H : Hp} {k : Key} : ∀ {ks : List Key} {ps : List PV} {vs : List V}, RepL c H ps vs → match valP ks ps k with
    | some p => ∃ v, valV (ks.zip vs) k = some v ∧ Rep c H p v
    | none => valV (ks.zip vs) k = none
  | [], ps, vs, _ => by simp [valP, valV]
  | _ :: _, [], vs, h => by have h : vs = [] := h; subst h; simp [valP, valV]
  | q :: ks, p :: ps, _, ⟨v, r, rfl, h1, h2⟩ => by
    by_cases e : q = k
    · subst e
      simp [valP, valV]
      exact h1
    · have ih := valP_rep (k := k) (ks := ks) h2
      have e1 : valP (q :: ks) (p :: ps) k = valP ks ps k := by simp [valP, e]
      have e2 : valV ((q :: ks).zip (v :: r)) k = valV (ks.zip r) k := by simp [valV, e]
      rw [e1, e2]
      exact ih
def pIxS (z : Str) (i : Int) : Option PV := if z.length ≤ sizeLine then (atI z.cps.toList i).map fun c => .str ⟨#[c]⟩ else none
def pIx (p q : PV) : Option PV := match p, q with
  | .lst l, .int i => atI l i
  | .tup l, .int i => atI l i
  | .str z, .int i => pIxS z i
  | .dct ks ps, k => (keyP k).bind fun k => valP ks ps k
  | _, _ => none
theorem atI_rep {c : Ct} {H : Hp} {l : List PV} {xs : List V} {i : Int} {w : PV} (k : RepL c H l xs) (e : atI l i = some w) : ∃ v, atI xs i = some v ∧ Rep c H w v := by
  unfold atI at e ⊢
  rw [← k.length]
  cases q : ixN l.length i with
  | none => rw [q] at e; cases e
  | some j =>
    rw [q] at e
    exact k.get e
theorem or_pe {e : Expr} {t u : TE} (h : PE X e t) (h' : PE X e u) : PE X e (fun σ H Q => t σ H Q ∨ u σ H Q) := ⟨fun pins s σ H Q I q => q.elim (h.run pins s σ H Q I) (h'.run pins s σ H Q I)⟩
def dIx (da db : Den) : Den := dBin pIx da db
theorem se_ix {k : Nat} {a b : Expr} {pos : Pos} {da db : Den} (hr : Room k X.A) (ha : SE X Wx Wk .brw a da) (hb : SE X Wx Wk .brw b db) (hs : ∀ o i, subscripted b false o i = operate [o, i] (getItem o i) := by intro _ _; rfl) : SE X Wx Wk .rep (.Subscript a b pos) (dIx da db) := by
  obtain ⟨ta, pa, sa⟩ := ha
  obtain ⟨tb, pb, sb⟩ := hb
  refine ⟨_, or_pe (pe_ix (ix_list.or (ix_tup.or ix_str)) pa pb hs) (pe_dget (hu_of hr) pa pb hs), fun ρ B W σ σc H g Q hW R p => ?_⟩
  have isD : ∀ x g1, da σ g = .ok x g1 → (∃ ks ps, x = .dct ks ps) ∨ ∀ ks ps, x ≠ .dct ks ps := fun x _ _ => by
    cases x with
    | dct ks ps => exact .inl ⟨ks, ps, rfl⟩
    | _ => exact .inr fun _ _ z => nomatch z
  have list_way : (∀ x g1, da σ g = .ok x g1 → ∀ ks ps, x ≠ .dct ks ps) → tOp (fun x y H Q => rIxL X.K x y H Q ∨ rIxT X.K x y H Q ∨ rIxS x y H Q) ta tb σc H Q := fun nd => by
    refine sa ρ B W σ σc H g _ hW R (p.bind fun x g1 v H1 hx e1 k1 q1 p => ?_)
    have R1 := R.ext e1 k1
    refine sb ρ B W σ σc H1 g1 _ hW R1 (p.bind fun y g2 u H2 _ e2 k2 q2 p => ?_)
    have q1 : RepB ((ct X ρ B).ban W) H2 x v := RepB.ext (c := (ct X ρ B).ban W) e2 (Ct.ban_R R.rb) q1
    cases ew : pIx x y with
    | none => rw [ew] at p; exact p.elim
    | some w =>
      rw [ew] at p
      have fin : ∀ z, Rep ((ct X ρ B).ban W) H2 w z → Q z H2 := fun z hz => p z H2 (Ext.refl _ _) k2 hz
      cases x with
      | dct ks ps => exact absurd rfl (nd _ _ hx ks ps)
      | lst l =>
        cases y <;> simp only [pIx] at ew <;> try (cases ew)
        obtain ⟨a', xs, rfl, h1, k⟩ := q1.lst
        obtain ⟨z, ez, rz⟩ := atI_rep k ew
        exact .inl ⟨a', xs, _, z, rfl, q2.int, .of h1, ez, fin z rz⟩
      | tup l =>
        cases y <;> simp only [pIx] at ew <;> try (cases ew)
        obtain ⟨a', xs, rfl, h1, k⟩ := q1.tup
        obtain ⟨z, ez, rz⟩ := atI_rep k ew
        exact .inr (.inl ⟨a', xs, _, z, rfl, q2.int, h1.sq, ez, fin z rz⟩)
      | str s =>
        cases y with
        | int i =>
          have ew : (if s.length ≤ sizeLine then (atI s.cps.toList i).map fun c => PV.str ⟨#[c]⟩ else none) = some w := ew
          by_cases hl : s.length ≤ sizeLine
          · rw [if_pos hl] at ew
            cases ec : atI s.cps.toList i with
            | none => rw [ec] at ew; cases ew
            | some ch =>
              rw [ec] at ew
              cases ew
              exact .inr (.inr ⟨s, i, ch, q1.str, q2.int, hl, ec, fin _ rfl⟩)
          · rw [if_neg hl] at ew; cases ew
        | _ => cases ew
      | _ => cases ew
  have dict_way : (∀ x g1, da σ g = .ok x g1 → ∃ ks ps, x = .dct ks ps) → tDGet ta tb σc H Q := fun nd => by
    refine sa ρ B W σ σc H g _ hW R (p.bind fun x g1 v H1 hx e1 k1 q1 p => ?_)
    have R1 := R.ext e1 k1
    refine sb ρ B W σ σc H1 g1 _ hW R1 (p.bind fun y g2 u H2 _ e2 k2 q2 p => ?_)
    have q1 : RepB ((ct X ρ B).ban W) H2 x v := RepB.ext (c := (ct X ρ B).ban W) e2 (Ct.ban_R R.rb) q1
    obtain ⟨ks, ps, rfl⟩ := nd x g1 hx
    cases ew : pIx (.dct ks ps) y with
    | none => rw [ew] at p; exact p.elim
    | some w =>
      rw [ew] at p
      have ew : ((keyP y).bind fun k => valP ks ps k) = some w := ew
      cases ek : keyP y with
      | none => rw [ek] at ew; cases ew
      | some k =>
        rw [ek] at ew
        have ew : valP ks ps k = some w := ew
        obtain ⟨a', vs, rfl, h1, hl, rr⟩ := q1.dct
        have q := valP_rep (k := k) (ks := ks) rr
        rw [ew] at q
        obtain ⟨z, e1, e2⟩ := q
        exact ⟨a', z, rfl, .inl ⟨_, k, h1, keyP_rep q2 ek, e1.symm⟩, p z H2 (Ext.refl _ _) k2 e2⟩
  cases hda : da σ g with
  | ok x g1 =>
    rcases isD x g1 hda with ⟨ks, ps, rfl⟩ | nd
    · exact .inr (dict_way fun x g1 h => by rw [hda] at h; cases h; exact ⟨_, _, rfl⟩)
    · exact .inl (list_way fun x g1 h => by rw [hda] at h; cases h; exact nd)
  | exc _ _ _ _ => exact .inl (list_way fun x g1 h => by rw [hda] at h; cases h)
  | stuck => exact .inl (list_way fun x g1 h => by rw [hda] at h; cases h)
end
end Tr

namespace Tr
open PySem PySem.Spec PyProof.Rows L2

def cutL {α : Type} (xs : List α) (lo hi : Option Int) : List α := (xs.drop (HT.sIx xs.length 0 lo)).take (HT.sIx xs.length xs.length hi - HT.sIx xs.length 0 lo)
theorem cutL_rep {c : Ct} {H : Hp} {l : List PV} {xs : List V} (k : RepL c H l xs) (lo hi : Option Int) : RepL c H (cutL l lo hi) (cutV xs lo hi) := by
  unfold cutL cutV
  rw [k.length]
  exact (k.drop _).take _
abbrev DenO := Sl → Rg → Res (Option Int)
def PstO (c : Ct) (W : Wn) (H : Hp) (r : Res (Option Int)) (Q : Option Int → Hp → Prop) (E : XK) : Prop :=
  match r with
  | .ok p g => ∀ H', Ext c H H' → RgOk c H' g → Q p H'
  | .exc k ns ps g => ∀ cls d H', Ext c H H' → RgOk c H' g → RepX (c.ban W) H' k ns ps cls d → E cls d H'
  | .stuck => False
def SO (X : Cx) (Wx : WX) (Wk : List Nat) (e : Option Expr) (d : DenO) : Prop :=
  ∃ t, PO X e t ∧ ∀ (ρ : Rho) (B : Addr → Prop) (W : Wn) (σ : Sl) (σc : L2.St) (H : Hp) (g : Rg) (Q : Option Int → Hp → Prop), W.map (·.1) = Wk →
    Rel (ct X ρ B) W σ σc H g → PstO (ct X ρ B) W H (d σ g) Q (fun cls dd H' => Wx cls dd σc H') → t σc H Q
theorem PstO.from {c : Ct} {W : Wn} {H H1 : Hp} {r : Res (Option Int)} {Q : Option Int → Hp → Prop} {E : XK} (e : Ext c H H1) (h : PstO c W H r Q E) : PstO c W H1 r Q E := by
  cases r with
  | ok p g' => exact fun H' e' k' => h H' (e.trans e') k'
  | exc a b cc d => exact fun cls d H' e' k' q => h cls d H' (e.trans e') k' q
  | stuck => exact h
theorem PstO.bind {c : Ct} {W : Wn} {H : Hp} {m1 : Md} {r : Res PV} {f : PV → Rg → Res (Option Int)} {Q : Option Int → Hp → Prop} {Q1 : VK} {E : XK} (h : PstO c W H (r.bind f) Q E)
    (k : ∀ p g1 v H1, r = .ok p g1 → Ext c H H1 → RgOk c H1 g1 → Val (c.ban W) H H1 p v m1 → PstO c W H1 (f p g1) Q E → Q1 v H1) : Pst c W H m1 r Q1 E := by
  cases r with
  | ok p g1 => exact fun v H1 e k1 q => k p g1 v H1 rfl e k1 q (PstO.from e h)
  | exc a b cc d => exact h
  | stuck => exact h
theorem Pst.bindO {c : Ct} {W : Wn} {H : Hp} {md : Md} {r : Res (Option Int)} {f : Option Int → Rg → Res PV} {Q : VK} {Q1 : Option Int → Hp → Prop} {E : XK} (h : Pst c W H md (r.bind f) Q E)
    (k : ∀ p g1 H1, r = .ok p g1 → Ext c H H1 → RgOk c H1 g1 → Pst c W H1 md (f p g1) Q E → Q1 p H1) : PstO c W H r Q1 E := by
  cases r with
  | ok p g1 => exact fun H1 e k1 => k p g1 H1 rfl e k1 (Pst.from e k1 h)
  | exc a b cc d => exact h
  | stuck => exact h
def dNo : DenO := fun _ g => .ok none g
def dSome (d : Den) : DenO := fun σ g => (d σ g).bind fun p g => match p with | .int i => .ok (some i) g | _ => .stuck
section
variable {X : Cx} {Wx : WX} {Wk : List Nat} {md : Md}
theorem so_none : SO X Wx Wk none dNo := ⟨_, po_none, fun ρ B W σ σc H g Q hW R p => p H (Ext.refl _ _) R.rg⟩
theorem so_some {e : Expr} {d : Den} (h : SE X Wx Wk .brw e d) : SO X Wx Wk (some e) (dSome d) := by
  obtain ⟨t, ht, hs⟩ := h
  refine ⟨_, po_some ht, fun ρ B W σ σc H g Q hW R p => ?_⟩
  refine hs ρ B W σ σc H g _ hW R (PstO.bind p fun x g1 v H1 _ e1 k1 q1 p => ?_)
  cases x with
  | int i => exact ⟨i, q1.int, p H1 (Ext.refl _ _) k1⟩
  | _ => exact p.elim
def pSl (p : PV) (lo hi : Option Int) : Option PV := match p with
  | .lst l => some (.lst (cutL l lo hi))
  | _ => none
def dSl (f : PV → Option Int → Option Int → Option PV) (d : Den) (lo hi : DenO) : Den := fun σ g => (d σ g).bind fun p g => (lo σ g).bind fun a g => (hi σ g).bind fun b g => match f p a b with | some w => .ok w g | none => .stuck
/-- xs[lo:hi] of a list -/
theorem se_slice {e : Expr} {lo hi : Option Expr} {p2 pos : Pos} {d : Den} {dl dh : DenO} (h : SE X Wx Wk .brw e d) (hl : SO X Wx Wk lo dl) (hh : SO X Wx Wk hi dh) : SE X Wx Wk .frs (.Subscript e (.Slice lo hi none p2) pos) (dSl pSl d dl dh) := by
  obtain ⟨t, ht, hs⟩ := h
  obtain ⟨tl, htl, hsl⟩ := hl
  obtain ⟨th, hth, hsh⟩ := hh
  refine ⟨_, pe_slice sl_list ht htl hth, fun ρ B W σ σc H g Q hW R p => ?_⟩
  refine hs ρ B W σ σc H g _ hW R (p.bind fun x g1 v H1 _ e1 k1 q1 p => ?_)
  have R1 := R.ext e1 k1
  refine hsl ρ B W σ σc H1 g1 _ hW R1 (p.bindO fun lo g2 H2 _ e2 k2 p => ?_)
  have R2 := R1.ext e2 k2
  refine hsh ρ B W σ σc H2 g2 _ hW R2 (p.bindO fun hi g3 H3 _ e3 k3 p => ?_)
  have q1 : RepB ((ct X ρ B).ban W) H3 x v := RepB.ext (c := (ct X ρ B).ban W) e3 (Ct.ban_R R.rb) (RepB.ext (c := (ct X ρ B).ban W) e2 (Ct.ban_R R.rb) q1)
  cases x with
  | lst l =>
    obtain ⟨a, xs, rfl, h1, k⟩ := q1.lst
    exact ⟨a, xs, rfl, .of h1, fun z hz => p _ _ (Ext.of (same_new hz)) (k3.same (same_new hz)) (val_lst (c := (ct X ρ B).ban W) (cutL_rep k lo hi) hz)⟩
  | _ => exact p.elim
/-- s[lo:hi] of a text -/
def pSlS (p : PV) (lo hi : Option Int) : Option PV := match p with
  | .str z => if z.length ≤ sizeLine then some (.str (cutS z lo hi)) else none
  | _ => none
/-- xs[::-1] -/
def dRev (d : Den) : Den := fun σ g => (d σ g).bind fun p g => match p with | .lst l => .ok (.lst l.reverse) g | _ => .stuck
theorem se_rev {e : Expr} {k : Nat} {p1 p2 p3 pos : Pos} {d : Den} (h : SE X Wx Wk .brw e d) : SE X Wx Wk .frs (.Subscript e (.Slice none none (some (.UnaryOp .USub (.Constant (.int 1) k p1) p2)) p3) pos) (dRev d) := by
  obtain ⟨t, ht, hs⟩ := h
  refine ⟨_, pe_revL ht, fun ρ B W σ σc H g Q hW R p => ?_⟩
  refine hs ρ B W σ σc H g _ hW R (p.bind fun x g1 v H1 _ e1 k1 q1 p => ?_)
  cases x with
  | lst l =>
    obtain ⟨a, xs, rfl, h1, k⟩ := q1.lst
    exact ⟨a, xs, rfl, .of h1, fun z hz => p _ _ (Ext.of (same_new hz)) (k1.same (same_new hz)) (val_lst (c := (ct X ρ B).ban W) k.reverse hz)⟩
  | _ => exact p.elim

def fldP (ns : List Str) (ps : List PV) (f : Str) : Option PV := (ns.zip ps).lookup f
theorem fldP_rep {c : Ct} {H : Hp} {f : Str} : ∀ {ns : List Str} {ps : List PV} {vs : List V} {p : PV}, RepL c H ps vs → fldP ns ps f = some p → ∃ v, (ns.zip vs).lookup f = some v ∧ Rep c H p v
  | [], _, _, _, _, e => by simp [fldP] at e
  | _ :: _, [], _, _, _, e => by simp [fldP] at e
  | n :: ns, q :: ps, _, p, ⟨v, r, rfl, h1, h2⟩, e => by
    unfold fldP at e
    simp only [List.zip_cons_cons, List.lookup_cons] at e ⊢
    by_cases hn : (f == n) = true
    · simp only [hn] at e ⊢
      cases e
      exact ⟨v, rfl, h1⟩
    · have hn : (f == n) = false := by simpa using hn
      simp only [hn] at e ⊢
      exact fldP_rep (f := f) h2 e
/-- what the top says of a class whose instances are read -/
structure ClF (K : PySem.W.Frag) (mg : Str → Option Value) (k : Str) : Prop where
  ex : ∃ C, mg k = some (.ref C) ∧ Cls K C
def dFld (k f : Str) (d : Den) : Den := fun σ g => (d σ g).bind fun p g => match p with
  | .ins k' ns ps => if k' = k then (match fldP ns ps f with | some w => .ok w g | none => .stuck) else .stuck
  | _ => .stuck
theorem se_fld {e : Expr} {f k : Str} {pos : Pos} {d : Den} (T : ClF X.K X.mg k) (nf : ∀ C, X.mg k = some (.ref C) → NoAttr X.K C f) (h : SE X Wx Wk .brw e d) (hb : attributeBase e f X.env (eval e X.env) = eval e X.env := by rfl) : SE X Wx Wk .rep (.Attribute e f pos) (dFld k f d) := by
  obtain ⟨t, ht, hs⟩ := h
  refine ⟨_, pe_fld ht hb, fun ρ B W σ σc H g Q hW R p => ?_⟩
  refine hs ρ B W σ σc H g _ hW R (p.bind fun x g1 v H1 _ e1 k1 q1 p => ?_)
  cases x with
  | ins k' ns ps =>
    by_cases ek : k' = k
    · subst ek
      simp only [if_pos rfl] at p
      obtain ⟨a, C, dx, vs, rfl, hm, h1, hl, rr⟩ := q1.ins
      obtain ⟨C', hm', hc⟩ := T.ex
      have : C' = C := by
        have hm : X.mg k' = some (.ref C) := hm
        rw [hm] at hm'; cases hm'; rfl
      subst this
      cases ef : fldP ns ps f with
      | none => rw [ef] at p; exact p.elim
      | some w =>
        rw [ef] at p
        obtain ⟨z, ez, rz⟩ := fldP_rep rr ef
        exact ⟨a, C', dx, _, z, rfl, h1, hc, nf _ hm', ez, p z H1 (Ext.refl _ _) k1 rz⟩
    · simp only [if_neg ek] at p
      exact p.elim
  | _ => exact p.elim

def CallD (X : Cx) (f : Value) (md : Md) (o : List PV → Option PV) : Prop :=
  ∃ r, CallR X f r ∧ ∀ (c : Ct) (ps : List PV) (w : PV) (vs : List V) (H : Hp) (Q : VK), c.K = X.K → c.mg = X.mg → (∀ b, c.B b → H b ≠ none) → RepLB c H ps vs → o ps = some w →
    (∀ z H', Same H H' → Val c H H' w z md → Q z H') → r vs H Q
theorem callR_or {f : Value} {r r' : List V → Hp → VK → Prop} (h : CallR X f r) (h' : CallR X f r') : CallR X f (fun x H Q => r x H Q ∨ r' x H Q) := by
  intro pins s σ H xs us Q I rx q
  rcases q with q | q
  · exact h pins s σ H xs us Q I rx q
  · exact h' pins s σ H xs us Q I rx q
theorem CallD.or {f : Value} {o o' : List PV → Option PV} (h : CallD X f md o) (h' : CallD X f md o') : CallD X f md (fun p => por (o p) (o' p)) := by
  obtain ⟨r, hr, k⟩ := h
  obtain ⟨r', hr', k'⟩ := h'
  refine ⟨_, callR_or hr hr', fun c p w v H Q e1 e2 hd rp ho hq => ?_⟩
  cases e : o p with
  | some z =>
    simp only [e, por_some] at ho
    cases ho
    exact .inl (k c p _ v H Q e1 e2 hd rp e hq)
  | none =>
    simp only [e, por_none] at ho
    exact .inr (k' c p _ v H Q e1 e2 hd rp ho hq)
def dCB (o : List PV → Option PV) (ds : DenL) : Den := fun σ g => (ds σ g).bind fun ps g => match o ps with | some w => .ok w g | none => .stuck
theorem se_callB {id : String} {x : Str} {e : Expr} {es : List Expr} {p pos : Pos} {o : List PV → Option PV} {ds : DenL} (hc : CallD X (.builtin id) md o) (hm : X.mg x = none) (hv : bootBuiltins x = some (.builtin id)) (ha : SA X Wx Wk .brw (e :: es) ds) (hg : Gl X x := by rfl) (hn : x ≠ "__name__" := by decide) (hdb : (x == ("__debug__" : Str)) = false := by decide)
    (he : starEach (e :: es) X.env = (false, eval e X.env) :: starEach es X.env := by rfl) (hpl : (backTo pos (starEach es X.env)).any (·.1) = false := by rfl) : SE X Wx Wk md (.Call (.Name x p) (e :: es) [] pos) (dCB o ds) := by
  obtain ⟨r, hr, k⟩ := hc
  obtain ⟨t, ht, hs⟩ := ha
  refine ⟨_, pe_callB hr hg hm hv ht hn hdb he hpl, fun ρ B W σ σc H g Q hW R p => ?_⟩
  refine hs ρ B W σ σc H g _ hW R (p.bindL fun ps g1 vs H1 _ e1 k1 q1 l p => ?_)
  cases ew : o ps with
  | none => rw [ew] at p; exact p.elim
  | some w =>
    rw [ew] at p
    exact k ((ct X ρ B).ban W) ps w vs H1 Q rfl rfl (R.ext e1 k1).wdom q1 ew fun z H' s hz => p z H' (Ext.of s) (k1.same s) hz
theorem se_callTy {T : String} {x : Str} {e : Expr} {es : List Expr} {p pos : Pos} {o : List PV → Option PV} {ds : DenL} (hc : CallD X (.type T) md o) (hm : X.mg x = none) (hv : bootBuiltins x = some (.type T)) (ha : SA X Wx Wk .brw (e :: es) ds) (hg : Gl X x := by rfl) (hn : x ≠ "__name__" := by decide) (hdb : (x == ("__debug__" : Str)) = false := by decide)
    (he : starEach (e :: es) X.env = (false, eval e X.env) :: starEach es X.env := by rfl) (hpl : (backTo pos (starEach es X.env)).any (·.1) = false := by rfl) : SE X Wx Wk md (.Call (.Name x p) (e :: es) [] pos) (dCB o ds) := by
  obtain ⟨r, hr, k⟩ := hc
  obtain ⟨t, ht, hs⟩ := ha
  refine ⟨_, pe_callTy hr hg hm hv ht hn hdb he hpl, fun ρ B W σ σc H g Q hW R p => ?_⟩
  refine hs ρ B W σ σc H g _ hW R (p.bindL fun ps g1 vs H1 _ e1 k1 q1 l p => ?_)
  cases ew : o ps with
  | none => rw [ew] at p; exact p.elim
  | some w =>
    rw [ew] at p
    exact k ((ct X ρ B).ban W) ps w vs H1 Q rfl rfl (R.ext e1 k1).wdom q1 ew fun z H' s hz => p z H' (Ext.of s) (k1.same s) hz
end
end Tr

namespace Tr
open PySem PySem.Spec PyProof.Rows L2

theorem RepLB.one {c : Ct} {H : Hp} {p : PV} {vs : List V} (h : RepLB c H [p] vs) : ∃ v, vs = [v] ∧ RepB c H p v := by
  obtain ⟨v, r, rfl, h1, h2⟩ := h
  have h2 : r = [] := h2
  subst h2
  exact ⟨v, rfl, h1⟩
theorem RepLB.two {c : Ct} {H : Hp} {p q : PV} {vs : List V} (h : RepLB c H [p, q] vs) : ∃ v u, vs = [v, u] ∧ RepB c H p v ∧ RepB c H q u := by
  obtain ⟨v, r, rfl, h1, h2⟩ := h
  obtain ⟨u, rfl, h3⟩ := RepLB.one h2
  exact ⟨v, u, rfl, h1, h3⟩
section
variable {X : Cx} {Wx : WX} {Wk : List Nat} {md : Md}
theorem CallD.toRep {f : Value} {o : List PV → Option PV} (h : CallD X f .frs o) : CallD X f .rep o := by
  obtain ⟨r, hr, k⟩ := h
  exact ⟨r, hr, fun c p w v H Q e1 e2 hd rp ho hq => k c p w v H Q e1 e2 hd rp ho fun z H' s hz => hq z H' s (hz.rep_of_frs hd)⟩
def oLenL : List PV → Option PV
  | [.lst l] => some (.int (l.length : Nat))
  | [.tup l] => some (.int (l.length : Nat))
  | _ => none
def oLenS : List PV → Option PV
  | [.str z] => if z.length ≤ sizeLine then some (.int (z.length : Nat)) else none
  | _ => none
def oLenD : List PV → Option PV
  | [.dct ks _] => some (.int (ks.length : Nat))
  | _ => none
theorem cd_lenL : CallD X (.builtin "len") .rep oLenL := ⟨_, call_len_seq, fun c ps w vs H Q ek _ hd rp ho hq => by
  unfold oLenL at ho
  split at ho <;> cases ho
  · obtain ⟨v, rfl, r⟩ := rp.one
    obtain ⟨a, xs, rfl, h1, k⟩ := r.lst
    exact ⟨a, xs, rfl, .inl (.of h1), by rw [← k.length]; exact hq _ _ (Same.refl _) rfl⟩
  · obtain ⟨v, rfl, r⟩ := rp.one
    obtain ⟨a, xs, rfl, h1, k⟩ := r.tup
    exact ⟨a, xs, rfl, .inr (ek ▸ h1.sq), by rw [← k.length]; exact hq _ _ (Same.refl _) rfl⟩⟩
theorem cd_lenS : CallD X (.builtin "len") .rep oLenS := ⟨_, call_len_str, fun c ps w vs H Q ek _ hd rp ho hq => by
  unfold oLenS at ho
  split at ho
  · rename_i z
    by_cases hl : z.length ≤ sizeLine
    · rw [if_pos hl] at ho
      cases ho
      obtain ⟨v, rfl, r⟩ := rp.one
      exact ⟨z, by rw [r.str], hl, hq _ _ (Same.refl _) rfl⟩
    · rw [if_neg hl] at ho; cases ho
  · cases ho⟩
theorem call_lenR : CallR X (.builtin "len") (fun xs H Q => ∃ a kvs, xs = [V.ref a] ∧ Rd H a (.dK kvs) ∧ Q (.int kvs.length) H) := by
  intro pins s τ G xs us Q J r h
  obtain ⟨a, kvs, rfl, hd, q⟩ := h
  obtain ⟨u, rfl, ru⟩ := vals1 r
  cases ru
  exact d_len J hd fun t s1 J1 => ⟨.int kvs.length, G, J1, ⟨t, rfl⟩, q⟩
theorem cd_lenD : CallD X (.builtin "len") .rep oLenD := ⟨_, call_lenR, fun c ps w vs H Q ek _ hd rp ho hq => by
  unfold oLenD at ho
  split at ho <;> cases ho
  obtain ⟨v, rfl, r⟩ := rp.one
  obtain ⟨a, xs, rfl, h1, hl, k⟩ := r.dct
  refine ⟨a, _, rfl, h1, ?_⟩
  rw [List.length_zip, ← hl, Nat.min_self]
  exact hq _ _ (Same.refl _) rfl⟩
def oLen (p : List PV) : Option PV := por (oLenL p) (por (oLenS p) (oLenD p))
theorem cd_len : CallD X (.builtin "len") .rep oLen := cd_lenL.or (cd_lenS.or cd_lenD)
def oList : List PV → Option PV
  | [.lst l] => some (.lst l)
  | [.tup l] => some (.lst l)
  | _ => none
theorem cd_list : CallD X (.type "list") .frs oList := ⟨_, call_list_of, fun c ps w vs H Q ek _ hd rp ho hq => by
  unfold oList at ho
  split at ho <;> cases ho
  · obtain ⟨v, rfl, r⟩ := rp.one
    obtain ⟨a, xs, rfl, h1, k⟩ := r.lst
    exact ⟨a, xs, rfl, .inl (.of h1), fun z hz => hq _ _ (same_new hz) (val_lst k hz)⟩
  · obtain ⟨v, rfl, r⟩ := rp.one
    obtain ⟨a, xs, rfl, h1, k⟩ := r.tup
    exact ⟨a, xs, rfl, .inr (ek ▸ h1.sq), fun z hz => hq _ _ (same_new hz) (val_lst k hz)⟩⟩
def oTuple : List PV → Option PV
  | [.lst l] => some (.tup l)
  | [.tup l] => some (.tup l)
  | _ => none
theorem cd_tuple : CallD X (.type "tuple") .rep oTuple := ⟨_, call_tuple_of, fun c ps w vs H Q ek _ hd rp ho hq => by
  unfold oTuple at ho
  split at ho <;> cases ho
  · obtain ⟨v, rfl, r⟩ := rp.one
    obtain ⟨a, xs, rfl, h1, k⟩ := r.lst
    exact ⟨a, xs, rfl, .inl ⟨.of h1, fun z hz => hq _ _ (same_new hz) (val_tup k hz hd)⟩⟩
  · obtain ⟨v, rfl, r⟩ := rp.one
    obtain ⟨a, xs, rfl, h1, k⟩ := r.tup
    exact ⟨a, xs, rfl, .inr ⟨ek ▸ h1.sq, hq _ _ (Same.refl _) ⟨a, xs, rfl, h1, k⟩⟩⟩⟩
def oInt : List PV → Option PV
  | [.int i] => some (.int i)
  | [.bl b] => some (.int (if b then 1 else 0))
  | _ => none
theorem cd_int : CallD X (.type "int") .rep oInt := ⟨_, call_int1, fun c ps w vs H Q ek _ hd rp ho hq => by
  unfold oInt at ho
  split at ho <;> cases ho
  · obtain ⟨v, rfl, r⟩ := rp.one
    exact .inl ⟨_, by rw [r.int], hq _ _ (Same.refl _) rfl⟩
  · obtain ⟨v, rfl, r⟩ := rp.one
    exact .inr ⟨_, by rw [r.bl], hq _ _ (Same.refl _) rfl⟩⟩
def oAbs : List PV → Option PV
  | [.int i] => some (.int (if i < 0 then -i else i))
  | _ => none
theorem cd_abs : CallD X (.builtin "abs") .rep oAbs := ⟨_, call_abs, fun c ps w vs H Q ek _ hd rp ho hq => by
  unfold oAbs at ho
  split at ho <;> cases ho
  obtain ⟨v, rfl, r⟩ := rp.one
  exact ⟨_, by rw [r.int], hq _ _ (Same.refl _) rfl⟩⟩
def oMax2 : List PV → Option PV
  | [.int i, .int j] => some (.int (max i j))
  | _ => none
def oMin2 : List PV → Option PV
  | [.int i, .int j] => some (.int (min i j))
  | _ => none
theorem cd_max2 (hc : X.calm = true) : CallD X (.builtin "max") .rep oMax2 := ⟨_, call_max2 hc, fun c ps w vs H Q ek _ hd rp ho hq => by
  unfold oMax2 at ho
  split at ho <;> cases ho
  rename_i i j
  obtain ⟨v, u, rfl, r, r'⟩ := rp.two
  refine ⟨_, _, by rw [r.int, r'.int], ?_⟩
  have e : (if j > i then j else i) = max i j := by split <;> omega
  rw [e]
  exact hq _ _ (Same.refl _) rfl⟩
theorem cd_min2 (hc : X.calm = true) : CallD X (.builtin "min") .rep oMin2 := ⟨_, call_min2 hc, fun c ps w vs H Q ek _ hd rp ho hq => by
  unfold oMin2 at ho
  split at ho <;> cases ho
  rename_i i j
  obtain ⟨v, u, rfl, r, r'⟩ := rp.two
  refine ⟨_, _, by rw [r.int, r'.int], ?_⟩
  have e : (if j < i then j else i) = min i j := by split <;> omega
  rw [e]
  exact hq _ _ (Same.refl _) rfl⟩
/-- a list of intsP, of bools -/
def intsP : List PV → Option (List Int)
  | [] => some []
  | .int i :: r => (intsP r).map (i :: ·)
  | _ => none
def blsP : List PV → Option (List Bool)
  | [] => some []
  | .bl i :: r => (blsP r).map (i :: ·)
  | _ => none
theorem ints_rep {c : Ct} {H : Hp} : ∀ {l : List PV} {xs : List V} {ns : List Int}, intsP l = some ns → RepL c H l xs → xs = ns.map V.int
  | [], xs, ns, e, h => by cases e; exact h
  | p :: r, _, ns, e, ⟨v, vs, rfl, h1, h2⟩ => by
    cases p with
    | int i =>
      have e : (intsP r).map (i :: ·) = some ns := e
      cases q : intsP r with
      | none => rw [q] at e; cases e
      | some ms =>
        rw [q] at e
        cases e
        have h1 : v = .int i := h1
        rw [ints_rep q h2, h1]
        rfl
    | _ => cases e
theorem bls_rep {c : Ct} {H : Hp} : ∀ {l : List PV} {xs : List V} {ns : List Bool}, blsP l = some ns → RepL c H l xs → xs = ns.map V.bl
  | [], xs, ns, e, h => by cases e; exact h
  | p :: r, _, ns, e, ⟨v, vs, rfl, h1, h2⟩ => by
    cases p with
    | bl i =>
      have e : (blsP r).map (i :: ·) = some ns := e
      cases q : blsP r with
      | none => rw [q] at e; cases e
      | some ms =>
        rw [q] at e
        cases e
        have h1 : v = .bl i := h1
        rw [bls_rep q h2, h1]
        rfl
    | _ => cases e
theorem repL_ints {c : Ct} {H : Hp} : ∀ ns : List Int, RepL c H (ns.map PV.int) (ns.map V.int)
  | [] => rfl
  | n :: ns => ⟨_, _, rfl, rfl, repL_ints ns⟩
theorem ints_map : ∀ ns : List Int, intsP (ns.map PV.int) = some ns
  | [] => rfl
  | n :: ns => by
    show (intsP (ns.map PV.int)).map (n :: ·) = some (n :: ns)
    rw [ints_map ns]
    rfl
theorem bls_map : ∀ ns : List Bool, blsP (ns.map PV.bl) = some ns
  | [] => rfl
  | n :: ns => by
    show (blsP (ns.map PV.bl)).map (n :: ·) = some (n :: ns)
    rw [bls_map ns]
    rfl
def oAll : List PV → Option PV
  | [.lst l] => (blsP l).map fun bs => .bl (bs.all id)
  | _ => none
def oAny : List PV → Option PV
  | [.lst l] => (blsP l).map fun bs => .bl (bs.any id)
  | _ => none
def oSum : List PV → Option PV
  | [.lst l] => (intsP l).map fun bs => .int bs.sum
  | _ => none
theorem cd_all (hc : X.calm = true) : CallD X (.builtin "all") .rep oAll := ⟨_, cr_all hc, fun c ps w vs H Q ek _ hd rp ho hq => by
  unfold oAll at ho
  split at ho
  · rename_i l
    cases e : blsP l with
    | none => rw [e] at ho; cases ho
    | some bs =>
      rw [e] at ho
      cases ho
      obtain ⟨v, rfl, r⟩ := rp.one
      obtain ⟨a, xs, rfl, h1, k⟩ := r.lst
      exact ⟨a, bs, rfl, by rw [← bls_rep e k]; exact .of h1, hq _ _ (Same.refl _) rfl⟩
  · cases ho⟩
theorem cd_any (hc : X.calm = true) : CallD X (.builtin "any") .rep oAny := ⟨_, cr_any hc, fun c ps w vs H Q ek _ hd rp ho hq => by
  unfold oAny at ho
  split at ho
  · rename_i l
    cases e : blsP l with
    | none => rw [e] at ho; cases ho
    | some bs =>
      rw [e] at ho
      cases ho
      obtain ⟨v, rfl, r⟩ := rp.one
      obtain ⟨a, xs, rfl, h1, k⟩ := r.lst
      exact ⟨a, bs, rfl, by rw [← bls_rep e k]; exact .of h1, hq _ _ (Same.refl _) rfl⟩
  · cases ho⟩
theorem cd_sum (hc : X.calm = true) : CallD X (.builtin "sum") .rep oSum := ⟨_, cr_sum hc, fun c ps w vs H Q ek _ hd rp ho hq => by
  unfold oSum at ho
  split at ho
  · rename_i l
    cases e : intsP l with
    | none => rw [e] at ho; cases ho
    | some bs =>
      rw [e] at ho
      cases ho
      obtain ⟨v, rfl, r⟩ := rp.one
      obtain ⟨a, xs, rfl, h1, k⟩ := r.lst
      exact ⟨a, bs, rfl, by rw [← ints_rep e k]; exact .of h1, hq _ _ (Same.refl _) rfl⟩
  · cases ho⟩
/-- the greatest, the least of a list -/
def maxL : List Int → Option Int
  | [] => none
  | x :: r => match maxL r with | none => some x | some y => some (max x y)
def minL : List Int → Option Int
  | [] => none
  | x :: r => match minL r with | none => some x | some y => some (min x y)
theorem maxL_is : ∀ {l : List Int} {m x : Int}, maxL l = some x → m ∈ l → (∀ y ∈ l, y ≤ m) → m = x
  | [], _, _, _, h, _ => by cases h
  | a :: r, m, x, e, hm, hl => by
    unfold maxL at e
    cases q : maxL r with
    | none =>
      rw [q] at e
      cases e
      cases r with
      | nil => simpa using hm
      | cons b r => unfold maxL at q; split at q <;> cases q
    | some y =>
      rw [q] at e
      have e : max a y = x := Option.some.inj e
      have ha : a ≤ m := hl a (by simp)
      have hy : ∀ {l : List Int} {y : Int}, maxL l = some y → y ∈ l ∧ ∀ z ∈ l, z ≤ y := by
        intro l
        induction l with
        | nil => intro y h; cases h
        | cons b r ih =>
          intro y h
          unfold maxL at h
          cases q : maxL r with
          | none =>
            rw [q] at h; cases h
            have : r = [] := by cases r with
              | nil => rfl
              | cons c r => unfold maxL at q; split at q <;> cases q
            subst this
            exact ⟨by simp, fun z hz => by simp at hz; omega⟩
          | some w =>
            rw [q] at h
            have h : max b w = y := Option.some.inj h
            obtain ⟨h1, h2⟩ := ih q
            refine ⟨?_, fun z hz => ?_⟩
            · by_cases hbw : b ≤ w
              · have : y = w := by omega
                subst this; simp [h1]
              · have : y = b := by omega
                subst this; simp
            · rcases List.mem_cons.mp hz with rfl | hz
              · omega
              · have := h2 z hz; omega
      obtain ⟨h1, h2⟩ := hy q
      have : y ≤ m := hl y (List.mem_cons_of_mem _ h1)
      rcases List.mem_cons.mp hm with rfl | hm
      · omega
      · have := h2 m hm; omega
theorem minL_is : ∀ {l : List Int} {m x : Int}, minL l = some x → m ∈ l → (∀ y ∈ l, m ≤ y) → m = x
  | [], _, _, _, h, _ => by cases h
  | a :: r, m, x, e, hm, hl => by
    unfold minL at e
    cases q : minL r with
    | none =>
      rw [q] at e
      cases e
      cases r with
      | nil => simpa using hm
      | cons b r => unfold minL at q; split at q <;> cases q
    | some y =>
      rw [q] at e
      have e : min a y = x := Option.some.inj e
      have ha : m ≤ a := hl a (by simp)
      have hy : ∀ {l : List Int} {y : Int}, minL l = some y → y ∈ l ∧ ∀ z ∈ l, y ≤ z := by
        intro l
        induction l with
        | nil => intro y h; cases h
        | cons b r ih =>
          intro y h
          unfold minL at h
          cases q : minL r with
          | none =>
            rw [q] at h; cases h
            have : r = [] := by cases r with
              | nil => rfl
              | cons c r => unfold minL at q; split at q <;> cases q
            subst this
            exact ⟨by simp, fun z hz => by simp at hz; omega⟩
          | some w =>
            rw [q] at h
            have h : min b w = y := Option.some.inj h
            obtain ⟨h1, h2⟩ := ih q
            refine ⟨?_, fun z hz => ?_⟩
            · by_cases hbw : w ≤ b
              · have : y = w := by omega
                subst this; simp [h1]
              · have : y = b := by omega
                subst this; simp
            · rcases List.mem_cons.mp hz with rfl | hz
              · omega
              · have := h2 z hz; omega
      obtain ⟨h1, h2⟩ := hy q
      have : m ≤ y := hl y (List.mem_cons_of_mem _ h1)
      rcases List.mem_cons.mp hm with rfl | hm
      · omega
      · have := h2 m hm; omega
def oMaxL : List PV → Option PV
  | [.lst l] => (intsP l).bind fun ns => (maxL ns).map .int
  | _ => none
def oMinL : List PV → Option PV
  | [.lst l] => (intsP l).bind fun ns => (minL ns).map .int
  | _ => none
theorem cd_maxL (hc : X.calm = true) : CallD X (.builtin "max") .rep oMaxL := ⟨_, cr_max hc, fun c ps w vs H Q ek _ hd rp ho hq => by
  unfold oMaxL at ho
  split at ho
  · rename_i l
    cases e : intsP l with
    | none => rw [e] at ho; cases ho
    | some bs =>
      rw [e] at ho
      have ho : (maxL bs).map PV.int = some w := ho
      cases e2 : maxL bs with
      | none => rw [e2] at ho; cases ho
      | some x =>
        rw [e2] at ho
        cases ho
        obtain ⟨v, rfl, r⟩ := rp.one
        obtain ⟨a, xs, rfl, h1, k⟩ := r.lst
        refine ⟨a, bs, rfl, by rw [← ints_rep e k]; exact .of h1, ?_, fun m hm hl => ?_⟩
        · cases bs with
          | nil => cases e2
          | cons _ _ => simp
        · rw [maxL_is e2 hm hl]
          exact hq _ _ (Same.refl _) rfl
  · cases ho⟩
theorem cd_minL (hc : X.calm = true) : CallD X (.builtin "min") .rep oMinL := ⟨_, cr_min hc, fun c ps w vs H Q ek _ hd rp ho hq => by
  unfold oMinL at ho
  split at ho
  · rename_i l
    cases e : intsP l with
    | none => rw [e] at ho; cases ho
    | some bs =>
      rw [e] at ho
      have ho : (minL bs).map PV.int = some w := ho
      cases e2 : minL bs with
      | none => rw [e2] at ho; cases ho
      | some x =>
        rw [e2] at ho
        cases ho
        obtain ⟨v, rfl, r⟩ := rp.one
        obtain ⟨a, xs, rfl, h1, k⟩ := r.lst
        refine ⟨a, bs, rfl, by rw [← ints_rep e k]; exact .of h1, ?_, fun m hm hl => ?_⟩
        · cases bs with
          | nil => cases e2
          | cons _ _ => simp
        · rw [minL_is e2 hm hl]
          exact hq _ _ (Same.refl _) rfl
  · cases ho⟩
def oMax (p : List PV) : Option PV := por (oMax2 p) (oMaxL p)
def oMin (p : List PV) : Option PV := por (oMin2 p) (oMinL p)
theorem cd_max (hc : X.calm = true) : CallD X (.builtin "max") .rep oMax := (cd_max2 hc).or (cd_maxL hc)
theorem cd_min (hc : X.calm = true) : CallD X (.builtin "min") .rep oMin := (cd_min2 hc).or (cd_minL hc)
/-- sorted, intsP: by insertion -/
def insI (x : Int) : List Int → List Int
  | [] => [x]
  | y :: r => if x ≤ y then x :: y :: r else y :: insI x r
def sortI : List Int → List Int
  | [] => []
  | x :: r => insI x (sortI r)
theorem insI_perm (x : Int) : ∀ l, (insI x l).Perm (x :: l)
  | [] => .refl _
  | y :: r => by
    unfold insI
    split
    · exact .refl _
    · exact ((insI_perm x r).cons y).trans (.swap x y r)
theorem sortI_perm : ∀ l, (sortI l).Perm l
  | [] => .refl _
  | x :: r => (insI_perm x _).trans ((sortI_perm r).cons x)
theorem insI_sorted (x : Int) : ∀ {l : List Int}, l.Pairwise (· ≤ ·) → (insI x l).Pairwise (· ≤ ·)
  | [], _ => List.pairwise_singleton _ _
  | y :: r, h => by
    unfold insI
    have h' := List.pairwise_cons.mp h
    split
    · rename_i hxy
      refine List.pairwise_cons.mpr ⟨fun z hz => ?_, h⟩
      rcases List.mem_cons.mp hz with rfl | hz
      · exact hxy
      · exact Int.le_trans hxy (h'.1 z hz)
    · rename_i hxy
      refine List.pairwise_cons.mpr ⟨fun z hz => ?_, insI_sorted x h'.2⟩
      rcases List.mem_cons.mp ((insI_perm x r).mem_iff.mp hz) with rfl | hz
      · omega
      · exact h'.1 z hz
theorem sortI_sorted : ∀ l, (sortI l).Pairwise (· ≤ ·)
  | [] => .nil
  | x :: r => insI_sorted x (sortI_sorted r)
theorem sorted_unique : ∀ {l m : List Int}, l.Perm m → l.Pairwise (· ≤ ·) → m.Pairwise (· ≤ ·) → l = m
  | [], m, h, _, _ => by rw [List.Perm.nil_eq h]
  | x :: l, [], h, _, _ => by exact absurd h.length_eq (by simp)
  | x :: l, y :: m, h, h1, h2 => by
    have a := List.pairwise_cons.mp h1
    have b := List.pairwise_cons.mp h2
    have hx : x ∈ y :: m := h.mem_iff.mp (by simp)
    have hy : y ∈ x :: l := h.mem_iff.mpr (by simp)
    have e : x = y := by
      rcases List.mem_cons.mp hx with e | hx
      · exact e
      · rcases List.mem_cons.mp hy with e | hy
        · exact e.symm
        · have := a.1 y hy; have := b.1 x hx; omega
    subst e
    rw [sorted_unique (List.Perm.cons_inv h) a.2 b.2]
def oSortI : List PV → Option PV
  | [.lst l] => (intsP l).map fun ns => .lst ((sortI ns).map .int)
  | _ => none
theorem cd_sortI : CallD X (.builtin "sorted") .frs oSortI := ⟨_, cr_sortedI, fun c ps w vs H Q ek _ hd rp ho hq => by
  unfold oSortI at ho
  split at ho
  · rename_i l
    cases e : intsP l with
    | none => rw [e] at ho; cases ho
    | some ns =>
      rw [e] at ho
      cases ho
      obtain ⟨v, rfl, r⟩ := rp.one
      obtain ⟨a, xs, rfl, h1, k⟩ := r.lst
      refine ⟨a, ns, rfl, by rw [← ints_rep e k]; exact .of h1, fun ns' z hp hs hz => ?_⟩
      have : ns' = sortI ns := sorted_unique (hp.trans (sortI_perm ns).symm) hs (sortI_sorted ns)
      subst this
      exact hq _ _ (same_new hz) (val_lst (repL_ints _) hz)
  · cases ho⟩
end
end Tr

namespace Tr
open PySem PySem.Spec PyProof.Rows L2

section
variable {X : Cx} {Wx : WX} {Wk : List Nat} {md : Md}
/-- the name of a value's built-in type -/
def tyP : PV → Option String
  | .non => some "NoneType"
  | .bl _ => some "bool"
  | .int _ => some "int"
  | .str _ => some "str"
  | .tup _ => some "tuple"
  | .lst _ => some "list"
  | .dct _ _ => some "dict"
  | _ => none
theorem tyP_x {c : Ct} {H : Hp} {p : PV} {v : V} {t : String} (h : RepB c H p v) (e : tyP p = some t) : TyX c.K H v (.type t) := by
  cases p with
  | non => cases e; rw [h.non]; exact .base .non
  | bl b => cases e; rw [h.bl]; exact .base (.bl b)
  | int b => cases e; rw [h.int]; exact .base (.int b)
  | str b => cases e; rw [h.str]; exact .base (.str b)
  | tup l =>
    cases e
    obtain ⟨a, xs, rfl, h1, _⟩ := h.tup
    rcases h1 with h1 | h1
    · exact .base (.tup h1.2)
    · exact h1.elim
  | lst l =>
    cases e
    obtain ⟨a, xs, rfl, h1, _⟩ := h.lst
    exact .base (.lst h1)
  | dct ks ps =>
    cases e
    obtain ⟨a, xs, rfl, h1, _⟩ := h.dct
    rcases h1 with h1 | ⟨o, h1⟩
    · exact .base (.dK h1)
    · exact .fDict h1
  | ins k ns ps => cases e
  | rng => cases e
/-- the built-in type names of the kit, each against each -/
def isaT (t n : String) : Bool := t == n || (t == "bool" && n == "int")
theorem kit_all : ∀ t ∈ ["NoneType", "bool", "int", "str", "tuple", "list", "dict"], ∀ n ∈ ["bool", "int", "str", "tuple", "list", "dict"], kitB t n = some (isaT t n) := by decide +kernel
theorem tyP_mem {p : PV} {t : String} (e : tyP p = some t) : t ∈ ["NoneType", "bool", "int", "str", "tuple", "list", "dict"] := by
  cases p <;> simp only [tyP] at e <;> cases e <;> simp
def dIsa (n : String) (d : Den) : Den := fun σ g => (d σ g).bind fun p g => match tyP p with | some t => .ok (.bl (isaT t n)) g | none => .stuck
theorem se_isa {n : String} {e : Expr} {x : Str} {p p2 pos : Pos} {d : Den} (h : SE X Wx Wk .brw e d) (hm : X.mg "isinstance" = none) (hx : X.mg x = none) (hv : bootBuiltins x = some (.type n)) (hmem : n ∈ ["bool", "int", "str", "tuple", "list", "dict"] := by decide)
    (hg : Gl X "isinstance" := by rfl) (hgx : Gl X x := by rfl) (hn : x ≠ "__name__" := by decide) (hd : (x == ("__debug__" : Str)) = false := by decide)
    (hs1 : starEach [e, .Name x p2] X.env = (false, eval e X.env) :: starEach [.Name x p2] X.env := by rfl) (hs2 : starEach [.Name x p2] X.env = (false, eval (.Name x p2) X.env) :: starEach [] X.env := by rfl)
    (hpl : (backTo pos (starEach [.Name x p2] X.env)).any (·.1) = false := by rfl) : SE X Wx Wk .rep (.Call (.Name "isinstance" p) [e, .Name x p2] [] pos) (dIsa n d) := by
  obtain ⟨t, ht, hs⟩ := h
  refine ⟨_, pe_callB call_isi hg hm PyProof.Rows.boot_isinstance (pa_cons ht (pa_cons (pe_bltn (v := .ty n) hgx hx hv rfl hn hd) pa_nil hs2) hs1) (by decide) (by decide) hs1 hpl, fun ρ B W σ σc H g Q hW R p => ?_⟩
  refine hs ρ B W σ σc H g _ hW R (p.bind fun x g1 v H1 _ e1 k1 q1 p => ?_)
  cases et : tyP x with
  | none => rw [et] at p; exact p.elim
  | some t =>
    rw [et] at p
    exact ⟨v, .ty n, .type t, .type n, isaT t n, rfl, .ty n, tyP_x q1 et, kit_ty (kit_all t (tyP_mem et) n hmem), p _ H1 (Ext.refl _ _) k1 rfl⟩
/-- isinstance(x, (T, U)) -/
def dIsa2 (n m : String) (d : Den) : Den := fun σ g => (d σ g).bind fun p g => match tyP p with | some t => .ok (.bl (isaT t n || isaT t m)) g | none => .stuck
theorem se_isa2 {n m : String} {e : Expr} {x y : Str} {p p2 p3 p4 pos : Pos} {kk} {d : Den} (h : SE X Wx Wk .brw e d) (hm : X.mg "isinstance" = none) (hx : X.mg x = none) (hv : bootBuiltins x = some (.type n)) (hy : X.mg y = none) (hvy : bootBuiltins y = some (.type m))
    (hmem : n ∈ ["bool", "int", "str", "tuple", "list", "dict"] := by decide) (hmem2 : m ∈ ["bool", "int", "str", "tuple", "list", "dict"] := by decide)
    (hg : Gl X "isinstance" := by rfl) (hgx : Gl X x := by rfl) (hgy : Gl X y := by rfl) (hn : x ≠ "__name__" := by decide) (hd : (x == ("__debug__" : Str)) = false := by decide) (hn' : y ≠ "__name__" := by decide) (hd' : (y == ("__debug__" : Str)) = false := by decide)
    (hs1 : starEach [e, .Tuple [.Name x p2, .Name y p3] kk p4] X.env = (false, eval e X.env) :: starEach [.Tuple [.Name x p2, .Name y p3] kk p4] X.env := by rfl) (hs2 : starEach [.Tuple [.Name x p2, .Name y p3] kk p4] X.env = (false, eval (.Tuple [.Name x p2, .Name y p3] kk p4) X.env) :: starEach [] X.env := by rfl)
    (hs3 : starEach [.Name x p2, .Name y p3] X.env = (false, eval (.Name x p2) X.env) :: starEach [.Name y p3] X.env := by rfl) (hs4 : starEach [.Name y p3] X.env = (false, eval (.Name y p3) X.env) :: starEach [] X.env := by rfl)
    (hpl : (backTo pos (starEach [.Tuple [.Name x p2, .Name y p3] kk p4] X.env)).any (·.1) = false := by rfl) : SE X Wx Wk .rep (.Call (.Name "isinstance" p) [e, .Tuple [.Name x p2, .Name y p3] kk p4] [] pos) (dIsa2 n m d) := by
  obtain ⟨t, ht, hs⟩ := h
  refine ⟨_, pe_callB call_isiT hg hm PyProof.Rows.boot_isinstance (pa_cons ht (pa_cons (pe_tup (pa_cons (pe_bltn (v := .ty n) hgx hx hv rfl hn hd) (pa_cons (pe_bltn (v := .ty m) hgy hy hvy rfl hn' hd') pa_nil hs4) hs3)) pa_nil hs2) hs1) (by decide) (by decide) hs1 hpl, fun ρ B W σ σc H g Q hW R p => ?_⟩
  refine hs ρ B W σ σc H g _ hW R (p.bind fun x g1 v H1 _ e1 k1 q1 p => ?_)
  refine ⟨show 2 ≤ sizeLine by decide, fun z hz => ?_⟩
  cases et : tyP x with
  | none => rw [et] at p; exact p.elim
  | some t =>
    rw [et] at p
    have k : PySem.W.kitAny X.K (.type t) [.type n, .type m] = some (isaT t n || isaT t m) := by
      have h1 := kit_ty (K := X.K) (kit_all t (tyP_mem et) n hmem)
      have h2 := kit_ty (K := X.K) (kit_all t (tyP_mem et) m hmem2)
      refine kitAny_cons h1 (fun e => ?_) fun e => by rw [e]; rfl
      rw [e]
      exact kitAny_cons h2 (fun e => by rw [e]; rfl) fun e => e
    have s := same_new (o := .tup [.ty n, .ty m]) hz
    refine ⟨v, z, [.ty n, .ty m], .type t, [.type n, .type m], isaT t n || isaT t m, rfl, upd_same, .cons (.ty n) (.cons (.ty m) .nil), ?_, k, p _ _ (Ext.of s) (k1.same s) rfl⟩
    exact tyP_x (c := (ct X ρ B).ban W) (RepB.ext (c := (ct X ρ B).ban W) (Ext.of s) (Ct.ban_R R.rb) q1) et
end
end Tr

namespace Tr
open PySem PySem.Spec PyProof.Rows L2

abbrev DDen := List PV → Rg → Res PV
/-- what a def promises -/
def PstD (c : Ct) (H : Hp) (md : Md) (r : Res PV) (Q : VK) (E : XK) : Prop :=
  match r with
  | .ok p g => ∀ v H', Ext c H H' → RgOk c H' g → Val c H H' p v md → Q v H'
  | .exc k ns ps g => ∀ cls d H', Ext c H H' → RgOk c H' g → RepX c H' k ns ps cls d → E cls d H'
  | .stuck => False
structure Start (c : Ct) (H : Hp) (g : Rg) : Prop where
  rg : RgOk c H g
  rb : ∀ b, c.R b → c.B b
  dom : ∀ b, c.B b → H b ≠ none
def spD (K : PySem.W.Frag) (mg : Str → Option Value) (n : Nat) (md : Md) (D : DDen) : Sp := fun vs H Q E =>
  vs.length = n ∧ ∃ (ρ : Rho) (B : Addr → Prop) (ps : List PV) (g : Rg), Start ⟨K, mg, ρ, B⟩ H g ∧ RepL ⟨K, mg, ρ, B⟩ H ps vs ∧ PstD ⟨K, mg, ρ, B⟩ H md (D ps g) Q E
/-- the def x of the module -/
structure FOk (P : Program) (w : World) (K : PySem.W.Frag) (mg : Str → Option Value) (base : Heap) (x : Str) (n k : Nat) (md : Md) (D : DDen) : Prop where
  ex : ∃ (f : Addr) (fd : FuncData) (ps : List Str), mg x = some (.ref f) ∧ PySem.W.keepIn K (.ref f) = true ∧ Binds K fd ps [] ∧ ps.length = n ∧ FnOk P w K mg base (L2.CX P w) k f fd ps (spD K mg n md D)
def dCall (D : DDen) (ds : DenL) : Den := fun σ g => (ds σ g).bind fun ps g => D ps g
section
variable {X : Cx} {Wx : WX} {Wk : List Nat} {md : Md}
theorem se_call {x : Str} {n j k : Nat} {D : DDen} {e : Expr} {es : List Expr} {p pos : Pos} {ds : DenL} (F : FOk X.prog X.w X.K X.mg X.base x n j md D) (hr : Room k X.A) (hj : j ≤ k) (tk : Takes X Wx) (ha : SA X Wx Wk .rep (e :: es) ds) (hn : (e :: es).length = n := by rfl)
    (hg : Gl X x := by rfl) (hdb : (x == ("__debug__" : Str)) = false := by decide) (he : starEach (e :: es) X.env = (false, eval e X.env) :: starEach es X.env := by rfl) (hpl : (backTo pos (starEach es X.env)).any (·.1) = false := by rfl) :
    SE X Wx Wk md (.Call (.Name x p) (e :: es) [] pos) (dCall D ds) := by
  obtain ⟨f, fd, ps, hm, hk, hb, hl, F⟩ := F.ex
  obtain ⟨t, ht, hs⟩ := ha
  refine ⟨_, pe_callS F (hr.mono hj) hg hm hk hb (fun σ => passAt tk σ) ht hdb he hpl, fun ρ B W σ σc H g Q hW R p => ?_⟩
  refine hs ρ B W σ σc H g _ hW R (p.bindL fun ps g1 vs H1 _ e1 k1 q1 l p => ?_)
  have R1 := R.ext e1 k1
  refine ⟨by rw [← RepL.length q1, l, hn], ρ, ((ct X ρ B).ban W).B, ps, g1, ⟨k1, Ct.ban_R R.rb, R1.wdom⟩, q1, ?_⟩
  exact p
/-- a call without arguments -/
theorem se_call0 {x : Str} {j k : Nat} {D : DDen} {p pos : Pos} (F : FOk X.prog X.w X.K X.mg X.base x 0 j md D) (hr : Room k X.A) (hj : j ≤ k) (hW0 : Wx = fun _ _ _ _ => False)
    (hg : Gl X x := by rfl) (hdb : (x == ("__debug__" : Str)) = false := by decide) :
    SE X Wx Wk md (.Call (.Name x p) [] [] pos) (dCall D dNil) := by
  obtain ⟨f, fd, ps, hm, hk, hb, hl, F⟩ := F.ex
  subst hW0
  refine ⟨_, pe_call0 F (hr.mono hj) hg hm hk hb .nil passL hdb, fun ρ B W σ σc H g Q hW R p => ?_⟩
  exact ⟨rfl, ρ, ((ct X ρ B).ban W).B, [], g, ⟨R.rg, Ct.ban_R R.rb, R.wdom⟩, rfl, p⟩

/-- no exception comes out -/
def noX {α : Type} : Res α → Res α
  | .ok a g => .ok a g
  | _ => .stuck
/-- the method m of the class k, the instance ahead of its arguments -/
structure MOk (P : Program) (w : World) (K : PySem.W.Frag) (mg : Str → Option Value) (base : Heap) (k m : Str) (n j : Nat) (md : Md) (D : DDen) : Prop where
  ex : ∃ (C f : Addr) (fd : FuncData) (ps : List Str), mg k = some (.ref C) ∧ Cls K C ∧ Meth K C m f ∧ Binds K fd ps [] ∧ ps.length = n ∧ FnOk P w K mg base (L2.CX P w) j f fd ps (spD K mg n md D)
def dMeth (k m : Str) (D : DDen) (d : Den) (ds : DenL) : Den := fun σ g => (d σ g).bind fun p g => match p with
  | .ins k' ns qs => if k' = k ∧ (ns.zip qs).lookup m = none then (ds σ g).bind fun ps g => noX (D (.ins k' ns qs :: ps) g) else .stuck
  | _ => .stuck
theorem look_none {c : Ct} {H : Hp} {f : Str} : ∀ {ns : List Str} {ps : List PV} {vs : List V}, RepL c H ps vs → (ns.zip ps).lookup f = none → (ns.zip vs).lookup f = none
  | [], _, _, _, _ => by simp
  | _ :: _, [], _, h, _ => by have h : _ = [] := h; subst h; simp
  | n :: ns, q :: ps, _, ⟨v, r, rfl, h1, h2⟩, e => by
    simp only [List.zip_cons_cons, List.lookup_cons] at e ⊢
    by_cases hn : (f == n) = true
    · simp only [hn] at e
      cases e
    · have hn : (f == n) = false := by simpa using hn
      simp only [hn] at e ⊢
      exact look_none (f := f) h2 e
theorem PstD.nox {c : Ct} {H : Hp} {md : Md} {r : Res PV} {Q : VK} {E : XK} (h : PstD c H md (noX r) Q E) : PstD c H md r Q E0 := by
  cases r with
  | ok p g => exact h
  | exc a b cc d => exact h.elim
  | stuck => exact h
theorem se_meth0 {k m : Str} {j kk : Nat} {D : DDen} {o : Expr} {apos pos : Pos} {d : Den} {pl : Sem Bool} (M : MOk X.prog X.w X.K X.mg X.base k m 1 j md D) (hr : Room kk X.A) (hj : j ≤ kk) (h : SE X Wx Wk .rep o d)
    (ht : eval (.Call (.Attribute o m apos) [] [] pos) X.env = (do
      let ov ← eval o X.env
      standAt apos.atName
      let (f, first) ← holding [ov] (getMethod ov m pl)
      callWith pos f first (backTo pos (starEach [] X.env)) (backToKw pos (keywordEach [] X.env))) := by rfl) :
    SE X Wx Wk md (.Call (.Attribute o m apos) [] [] pos) (dMeth k m D d dNil) := by
  obtain ⟨C, f, fd, ps, hm, hc, hM, hb, hl, F⟩ := M.ex
  obtain ⟨t, hto, hs⟩ := h
  refine ⟨_, pe_meth0 hto hc hM F (hr.mono hj) hb .nil passL ht, fun ρ B W σ σc H g Q hW R p => ?_⟩
  refine hs ρ B W σ σc H g _ hW R (p.bind fun x g1 v H1 _ e1 k1 q1 pp => ?_)
  cases x with
  | ins k' ns qs =>
    by_cases ek : k' = k ∧ (ns.zip qs).lookup m = none
    · simp only [if_pos ek] at pp
      obtain ⟨rfl, el⟩ := ek
      have q1 : Rep ((ct X ρ B).ban W) H1 (.ins k' ns qs) v := q1
      obtain ⟨a, C', dx, vs, rfl, nb, hm', h1, hl', rr⟩ := id q1
      have : C' = C := by
        have hm' : X.mg k' = some (.ref C') := hm'
        rw [hm] at hm'; cases hm'; rfl
      subst this
      have p : Pst (ct X ρ B) W H1 md (noX (D [.ins k' ns qs] g1)) Q (fun cls dd H' => Wx cls dd σc H') := pp
      refine ⟨a, dx, _, rfl, h1, look_none rr el, rfl, ρ, ((ct X ρ B).ban W).B, [.ins k' ns qs], g1, ⟨k1, Ct.ban_R R.rb, (R.ext e1 k1).wdom⟩, ⟨_, _, rfl, q1, rfl⟩, ?_⟩
      exact PstD.nox p
    · simp only [if_neg ek] at pp
      exact pp.elim
  | _ => exact pp.elim
theorem se_meth {k m : Str} {n j kk : Nat} {D : DDen} {o e : Expr} {es : List Expr} {apos pos : Pos} {d : Den} {ds : DenL} {pl : Sem Bool} (M : MOk X.prog X.w X.K X.mg X.base k m n j md D) (hr : Room kk X.A) (hj : j ≤ kk) (h : SE X Wx Wk .rep o d) (ha : SA X Wx Wk .rep (e :: es) ds) (hn : (e :: es).length + 1 = n := by rfl)
    (ht : eval (.Call (.Attribute o m apos) (e :: es) [] pos) X.env = (do
      let ov ← eval o X.env
      standAt apos.atName
      let (f, first) ← holding [ov] (getMethod ov m pl)
      callWith pos f first (backTo pos (starEach (e :: es) X.env)) (backToKw pos (keywordEach [] X.env))) := by rfl)
    (he : starEach (e :: es) X.env = (false, eval e X.env) :: starEach es X.env := by rfl) (hpl : (backTo pos (starEach es X.env)).any (·.1) = false := by rfl) :
    SE X Wx Wk md (.Call (.Attribute o m apos) (e :: es) [] pos) (dMeth k m D d ds) := by
  obtain ⟨C, f, fd, ps, hm, hc, hM, hb, hl, F⟩ := M.ex
  obtain ⟨t, hto, hs⟩ := h
  obtain ⟨ta, hta, hsa⟩ := ha
  refine ⟨_, pe_meth hto hc hM F (hr.mono hj) hb .nil passL hta he hpl ht, fun ρ B W σ σc H g Q hW R p => ?_⟩
  refine hs ρ B W σ σc H g _ hW R (p.bind fun x g1 v H1 _ e1 k1 q1 pp => ?_)
  cases x with
  | ins k' ns qs =>
    by_cases ek : k' = k ∧ (ns.zip qs).lookup m = none
    · simp only [if_pos ek] at pp
      obtain ⟨rfl, el⟩ := ek
      have q1 : Rep ((ct X ρ B).ban W) H1 (.ins k' ns qs) v := q1
      obtain ⟨a, C', dx, vs, rfl, nb, hm', h1, hl', rr⟩ := id q1
      have : C' = C := by
        have hm' : X.mg k' = some (.ref C') := hm'
        rw [hm] at hm'; cases hm'; rfl
      subst this
      have R1 := R.ext e1 k1
      refine ⟨a, dx, _, rfl, h1, look_none rr el, ?_⟩
      refine hsa ρ B W σ σc H1 g1 _ hW R1 (pp.bindL fun ps g2 us H2 _ e2 k2 q2 l pp => ?_)
      refine ⟨by simp [← RepL.length q2, l, ← hn], ρ, ((ct X ρ B).ban W).B, .ins k' ns qs :: ps, g2, ⟨k2, Ct.ban_R R.rb, (R1.ext e2 k2).wdom⟩, ⟨_, _, rfl, Rep.ext (c := (ct X ρ B).ban W) e2 (Ct.ban_R R.rb) q1, by rw [List.append_nil]; exact q2⟩, ?_⟩
      have p : Pst (ct X ρ B) W H2 md (noX (D (.ins k' ns qs :: ps) g2)) Q (fun cls dd H' => Wx cls dd σc H') := pp
      exact PstD.nox p
    · simp only [if_neg ek] at pp
      exact pp.elim
  | _ => exact pp.elim
/-- __init__: from the arguments the new instance -/
def spI (K : PySem.W.Frag) (mg : Str → Option Value) (n : Nat) (k : Str) (D : DDen) : Sp := fun vs H Q E =>
  vs.length = n ∧ ∃ (ρ : Rho) (B : Addr → Prop) (ps : List PV) (g : Rg) (a C dx : Addr) (us : List V), vs = .ref a :: us ∧ mg k = some (.ref C) ∧ H a = some (.ins C dx []) ∧ ¬ B a ∧
    Start ⟨K, mg, ρ, B⟩ H g ∧ RepL ⟨K, mg, ρ, fun b => B b ∨ b = a⟩ H ps us ∧
    (match D ps g with
    | .ok p g' => ∀ H', (∀ b o, H b = some o → b ≠ a → ¬ (⟨K, mg, ρ, B⟩ : Ct).R b → H' b = some o) → RgOk ⟨K, mg, ρ, B⟩ H' g' → Own ⟨K, mg, ρ, fun b => B b ∨ b = a⟩ H' a p → Q .non H'
    | _ => False)
structure IOk (P : Program) (w : World) (K : PySem.W.Frag) (mg : Str → Option Value) (base : Heap) (k : Str) (n j : Nat) (D : DDen) : Prop where
  ex : ∃ (C f : Addr) (fd : FuncData) (ps : List Str), mg k = some (.ref C) ∧ Mk K C f ∧ Binds K fd ps [] ∧ ps.length = n ∧ FnOk P w K mg base (L2.CX P w) j f fd ps (spI K mg n k D)
def dMake (D : DDen) (ds : DenL) : Den := fun σ g => (ds σ g).bind fun ps g => noX (D ps g)
theorem se_make {k : Str} {n j kk : Nat} {D : DDen} {e : Expr} {es : List Expr} {p pos : Pos} {ds : DenL} (M : IOk X.prog X.w X.K X.mg X.base k n j D) (hr : Room kk X.A) (hj : j + 1 ≤ kk) (ha : SA X Wx Wk .rep (e :: es) ds) (hn : (e :: es).length + 1 = n := by rfl)
    (hg : Gl X k := by rfl) (hdb : (k == ("__debug__" : Str)) = false := by decide) (he : starEach (e :: es) X.env = (false, eval e X.env) :: starEach es X.env := by rfl) (hpl : (backTo pos (starEach es X.env)).any (·.1) = false := by rfl) :
    SE X Wx Wk .frs (.Call (.Name k p) (e :: es) [] pos) (dMake D ds) := by
  obtain ⟨C, f, fd, ps, hm, hM, hb, hl, F⟩ := M.ex
  obtain ⟨t, ht, hs⟩ := ha
  refine ⟨_, pe_make hM F (hr.mono hj) hg hm hb .nil passL ht hdb he hpl, fun ρ B W σ σc H g Q hW R p => ?_⟩
  refine hs ρ B W σ σc H g _ hW R (p.bindL fun ps g1 vs H1 _ e1 k1 q1 l p => ?_)
  have R1 := R.ext e1 k1
  intro x dx hx hdx hne
  have s1 := same_new (o := .own x) hdx
  have hx1 : (upd H1 dx (.own x)) x = none := by rw [upd_ne hne.symm]; exact hx
  have s2 := s1.trans (same_new (o := .ins C dx []) hx1)
  have nb : ¬ ((ct X ρ B).ban W).B x := fun z => R1.wdom x z hx
  refine ⟨by simp [← RepL.length q1, l, ← hn], ρ, ((ct X ρ B).ban W).B, ps, g1, x, C, dx, vs, by rw [List.append_nil], hm, upd_same, nb, ⟨k1.same s2, Ct.ban_R R.rb, fun b hb => dom_ext (c := ct X ρ B) (Ext.of s2) (k1.same s2) (R1.wdom b hb)⟩, ?_, ?_⟩
  · exact replSame (c := ((ct X ρ B).ban W).ban1 x) s2 (RepL.ban (c := (ct X ρ B).ban W) (fun b h => h.elim .inl fun e => .inr (by rw [e]; exact hx)) q1)
  · cases hD : D ps g1 with
    | ok p' g' =>
      rw [hD] at p
      exact fun H' e k o => ⟨rfl, p (.ref x) H' (fun b u hb nr => e b u (s2 b u hb) (ne_of_none hb hx) nr) k ⟨x, rfl, hx, o⟩⟩
    | exc _ _ _ _ => rw [hD] at p; exact p.elim
    | stuck => rw [hD] at p; exact p.elim
end
end Tr

namespace Tr
open PySem PySem.Spec PyProof.Rows L2

inductive SRes where
  | next (σ : Sl) (g : Rg)
  | ret (p : PV) (g : Rg)
  | exc (k : Str) (ns : List Str) (ps : List PV) (g : Rg)
  | stuck
abbrev DenS := Sl → Rg → SRes
def Res.bindS {α : Type} : Res α → (α → Rg → SRes) → SRes
  | .ok a g, f => f a g
  | .exc k ns ps g, _ => .exc k ns ps g
  | .stuck, _ => .stuck
@[simp] theorem Res.bindS_ok {α : Type} (a : α) (g : Rg) (f : α → Rg → SRes) : (Res.ok a g).bindS f = f a g := rfl
@[simp] theorem Res.bindS_exc {α : Type} (k : Str) (ns : List Str) (ps : List PV) (g : Rg) (f : α → Rg → SRes) : (Res.exc k ns ps g : Res α).bindS f = .exc k ns ps g := rfl
@[simp] theorem Res.bindS_stuck {α : Type} (f : α → Rg → SRes) : (Res.stuck : Res α).bindS f = .stuck := rfl
def ExtW (c : Ct) (W : Wn) (H H' : Hp) : Prop := ∀ b o, H b = some o → ¬ c.R b → b ∉ W.map (·.2) → H' b = some o
def NewW (W : Wn) (H : Hp) (W' : Wn) : Prop := ∀ b ∈ W'.map (·.2), b ∈ W.map (·.2) ∨ H b = none
def ValR (c : Ct) (W : Wn) (H H' : Hp) (p : PV) (v : V) : Md → Prop
  | .frs => ∃ a, v = .ref a ∧ (H a = none ∨ a ∈ W.map (·.2)) ∧ Own (c.ban1 a) H' a p ∧ ¬ c.B a
  | _ => Rep c H' p v
def PstS (c : Ct) (W : Wn) (H : Hp) (Wk' : List Nat) (md : Md) (r : SRes) (D : Ends) (E : XK) : Prop :=
  match r with
  | .next σ' g' => ∀ W' σc' H', W'.map (·.1) = Wk' → ExtW c W H H' → NewW W H W' → Rel c W' σ' σc' H' g' → D.nx σc' H'
  | .ret p g' => ∀ v H', ExtW c W H H' → RgOk c H' g' → ValR c W H H' p v md → D.rt v H'
  | .exc k ns ps g' => ∀ cls d H', ExtW c W H H' → RgOk c H' g' → RepX c H' k ns ps cls d → E cls d H'
  | .stuck => False
/-- a fact of the slots that goes along -/
def JC (fz : List Nat) (J : L2.St → Prop) : Prop := ∀ σ σ' : L2.St, σ'.length = σ.length → (∀ i ∈ fz, σ'[i]? = σ[i]?) → J σ → J σ'
theorem JC.set {fz : List Nat} {J : L2.St → Prop} (jc : JC fz J) {i : Nat} {v : Option V} {σ : L2.St} (h : i ∉ fz) (j : J σ) : J (σ.set i v) := jc σ _ (by simp) (fun k hk => List.getElem?_set_ne fun e => h (by rw [show i = k from e]; exact hk)) j
abbrev jD (D : Ends) (J : L2.St → Prop) : Ends := { D with nx := fun σ H => J σ → D.nx σ H }
/-- the wish is the same at all slots -/
abbrev WE0 (E : XK) : WX := fun cls d _ H => E cls d H
def SS (X : Cx) (E : XK) (fz Wk Wk' : List Nat) (md : Md) (st : Stmt) (d : DenS) : Prop :=
  ∃ t, PS X st t ∧ ∀ (ρ : Rho) (B : Addr → Prop) (W : Wn) (σ : Sl) (σc : L2.St) (H : Hp) (g : Rg) (D : Ends) (J : L2.St → Prop), W.map (·.1) = Wk →
    Rel (ct X ρ B) W σ σc H g → JC fz J → J σc → PstS (ct X ρ B) W H Wk' md (d σ g) (jD D J) E → t D σc H
def SSs (X : Cx) (E : XK) (fz Wk Wk' : List Nat) (md : Md) (st : List Stmt) (d : DenS) : Prop :=
  ∃ t, PSs X st t ∧ ∀ (ρ : Rho) (B : Addr → Prop) (W : Wn) (σ : Sl) (σc : L2.St) (H : Hp) (g : Rg) (D : Ends) (J : L2.St → Prop), W.map (·.1) = Wk →
    Rel (ct X ρ B) W σ σc H g → JC fz J → J σc → PstS (ct X ρ B) W H Wk' md (d σ g) (jD D J) E → t D σc H

theorem Ext.w {c : Ct} {W : Wn} {H H' : Hp} (e : Ext c H H') : ExtW c W H H' := fun b o h n _ => e b o h n
theorem NewW.refl (W : Wn) (H : Hp) : NewW W H W := fun b h => .inl h
theorem NewW.back {c : Ct} {W W1 : Wn} {H H1 : Hp} {g : Rg} (e : ExtW c W H H1) (k : RgOk c H1 g) (n : NewW W H W1) {b : Addr} (h : H1 b = none ∨ b ∈ W1.map (·.2)) : H b = none ∨ b ∈ W.map (·.2) := by
  rcases h with h | h
  · by_cases hw : b ∈ W.map (·.2)
    · exact .inr hw
    · refine .inl ?_
      cases q : H b with
      | none => rfl
      | some o =>
        by_cases hr : c.R b
        · exact absurd h (RgO.none (c := c) k hr)
        · rw [e b o q hr hw] at h; cases h
  · exact (n b h).symm
theorem ExtW.trans {c : Ct} {W W1 : Wn} {H H1 H2 : Hp} (e : ExtW c W H H1) (n : NewW W H W1) (e2 : ExtW c W1 H1 H2) : ExtW c W H H2 := fun b o h nr nw =>
  e2 b o (e b o h nr nw) nr fun z => (n b z).elim nw fun q => by rw [h] at q; cases q
theorem NewW.trans {c : Ct} {W W1 W2 : Wn} {H H1 : Hp} {g : Rg} (e : ExtW c W H H1) (k : RgOk c H1 g) (n : NewW W H W1) (n2 : NewW W1 H1 W2) : NewW W H W2 := fun b h =>
  (NewW.back e k n ((n2 b h).symm)).symm
theorem ValR.back {c : Ct} {W W1 : Wn} {H H1 H2 : Hp} {g : Rg} {p : PV} {v : V} {md : Md} (e : ExtW c W H H1) (k : RgOk c H1 g) (n : NewW W H W1) (h : ValR c W1 H1 H2 p v md) : ValR c W H H2 p v md := by
  cases md with
  | frs =>
    obtain ⟨a, rfl, q, o⟩ := h
    exact ⟨a, rfl, NewW.back e k n q, o⟩
  | brw => exact h
  | rep => exact h
/-- the rest of a block -/
theorem PstS.from {c : Ct} {W W1 : Wn} {H H1 : Hp} {g : Rg} {Wk' : List Nat} {md : Md} {r : SRes} {D : Ends} {E : XK} (e : ExtW c W H H1) (k : RgOk c H1 g) (n : NewW W H W1) (h : PstS c W H Wk' md r D E) : PstS c W1 H1 Wk' md r D E := by
  cases r with
  | next σ' g' => exact fun W' σc' H' hk e2 n2 R => h W' σc' H' hk (e.trans n e2) (NewW.trans e k n n2) R
  | ret p g' => exact fun v H' e2 k2 q => h v H' (e.trans n e2) k2 (ValR.back e k n q)
  | exc a b cc d => exact fun cls d H' e2 k2 q => h cls d H' (e.trans n e2) k2 q
  | stuck => exact h
theorem PstS.bind {c : Ct} {W : Wn} {H : Hp} {m1 : Md} {Wk' : List Nat} {md : Md} {r : Res PV} {f : PV → Rg → SRes} {D : Ends} {Q1 : VK} {E : XK} (h : PstS c W H Wk' md (r.bindS f) D E)
    (k : ∀ p g1 v H1, r = .ok p g1 → Ext c H H1 → RgOk c H1 g1 → Val (c.ban W) H H1 p v m1 → PstS c W H1 Wk' md (f p g1) D E → Q1 v H1) : Pst c W H m1 r Q1 E := by
  cases r with
  | ok p g1 => exact fun v H1 e k1 q => k p g1 v H1 rfl e k1 q (PstS.from e.w k1 (fun b hb => .inl hb) h)
  | exc a b cc d =>
    refine fun cls dd H' e k1 q => h cls dd H' e.w k1 ?_
    obtain ⟨C, d', vs, h1, h2, h3, h4, h5, h6, h7⟩ := q
    exact ⟨C, d', vs, h1, h2, h3, fun z => h4 (.inl z), h5, h6, RepL.ban (c := c.ban W) (fun b z => .inl (.inl z)) h7⟩
  | stuck => exact h
theorem RepX.unban {c : Ct} {W : Wn} {H : Hp} {k : Str} {ns : List Str} {ps : List PV} {cls : Value} {d : Option Addr} (q : RepX (c.ban W) H k ns ps cls d) : RepX c H k ns ps cls d := by
  obtain ⟨C, d', vs, h1, h2, h3, h4, h5, h6, h7⟩ := q
  exact ⟨C, d', vs, h1, h2, h3, fun z => h4 (.inl z), h5, h6, RepL.ban (c := c.ban W) (fun b z => .inl (.inl z)) h7⟩
theorem PstS.bindT {c : Ct} {W : Wn} {H : Hp} {Wk' : List Nat} {md : Md} {r : Res Bool} {f : Bool → Rg → SRes} {D : Ends} {Q1 : Bool → Hp → Prop} {E : XK} (h : PstS c W H Wk' md (r.bindS f) D E)
    (k : ∀ p g1 H1, r = .ok p g1 → Ext c H H1 → RgOk c H1 g1 → PstS c W H1 Wk' md (f p g1) D E → Q1 p H1) : PstT c H W r Q1 E := by
  cases r with
  | ok p g1 => exact fun H1 e k1 => k p g1 H1 rfl e k1 (PstS.from e.w k1 (fun b hb => .inl hb) h)
  | exc a b cc d => exact fun cls dd H' e k1 q => h cls dd H' e.w k1 q.unban
  | stuck => exact h
/-- some owned ones are let go -/
theorem Rel.drop {c : Ct} {W : Wn} {σ : Sl} {σc : L2.St} {H : Hp} {g : Rg} (f : Nat → Bool) (r : Rel c W σ σc H g) : Rel c (W.filter fun w => f w.1) σ σc H g := by
  have sub : (W.filter fun w => f w.1).Sublist W := List.filter_sublist
  have banS : ∀ b, (c.ban (W.filter fun w => f w.1)).B b → (c.ban W).B b ∨ H b = none := fun b h => by
    rcases h with h | h
    · exact .inl (.inl h)
    · exact .inl (.inr ((sub.map _).mem h))
  refine ⟨r.len, r.rg, r.rb, r.dom, r.ndk.sublist (sub.map _), r.nda.sublist (sub.map _), fun p hp => r.wb p (sub.mem hp), fun i p h n => ?_, fun w hw => ?_⟩
  · by_cases hi : i ∈ W.map (·.1)
    · obtain ⟨w, hw, rfl⟩ := List.mem_map.mp hi
      obtain ⟨q, h1, h2, h3⟩ := r.own w hw
      rw [h] at h1; cases h1
      refine ⟨_, h2, (Own.ban (c := c.ban W) banS h3).rep ?_⟩
      rintro (z | z)
      · exact r.wb w hw z
      · obtain ⟨w', hw', e⟩ := List.mem_map.mp z
        have hw'W : w' ∈ W := sub.mem hw'
        have : w' = w := by
          have nd := r.nda
          have : ∀ {l : Wn}, (l.map (·.2)).Nodup → ∀ {x y}, x ∈ l → y ∈ l → x.2 = y.2 → x = y := by
            intro l
            induction l with
            | nil => intro _ x y hx; cases hx
            | cons a l ih =>
              intro hn x y hx hy he
              have hn' := List.nodup_cons.mp (show (a.2 :: l.map (·.2)).Nodup from hn)
              rcases List.mem_cons.mp hx with e1 | hx1
              · rcases List.mem_cons.mp hy with e2 | hy1
                · rw [e1, e2]
                · exact absurd (List.mem_map.mpr ⟨y, hy1, by rw [← he, e1]⟩) hn'.1
              · rcases List.mem_cons.mp hy with e2 | hy1
                · exact absurd (List.mem_map.mpr ⟨x, hx1, by rw [he, e2]⟩) hn'.1
                · exact ih hn'.2 hx1 hy1 he
          exact this nd hw'W hw e
        subst this
        exact n (List.mem_map.mpr ⟨w', hw', rfl⟩)
    · obtain ⟨v, h1, h2⟩ := r.val i p h hi
      exact ⟨v, h1, Rep.ban (c := c.ban W) banS h2⟩
  · obtain ⟨q, h1, h2, h3⟩ := r.own w (sub.mem hw)
    exact ⟨q, h1, h2, Own.ban (c := c.ban W) banS h3⟩
theorem filter_keys (f : Nat → Bool) : ∀ (W : Wn), (W.filter fun w => f w.1).map (·.1) = (W.map (·.1)).filter f
  | [] => rfl
  | w :: W => by
    simp only [List.filter_cons, List.map_cons]
    cases h : f w.1 with
    | true => simp [filter_keys f W]
    | false => simp [filter_keys f W]
theorem PstS.drop {c : Ct} {W : Wn} {H : Hp} {Wk' : List Nat} {md : Md} {r : SRes} {D : Ends} {E : XK} (f : Nat → Bool) (h : PstS c W H Wk' md r D E) : PstS c (W.filter fun w => f w.1) H Wk' md r D E := by
  have sub : ∀ b, b ∈ (W.filter fun w => f w.1).map (·.2) → b ∈ W.map (·.2) := fun b hb => ((List.filter_sublist).map _).mem hb
  have e1 : ∀ {H'}, ExtW c (W.filter fun w => f w.1) H H' → ExtW c W H H' := fun e b o h n nw => e b o h n fun z => nw (sub b z)
  cases r with
  | next σ' g' => exact fun W' σc' H' hk e2 n2 R => h W' σc' H' hk (e1 e2) (fun b hb => (n2 b hb).imp (sub b) id) R
  | ret p g' =>
    refine fun v H' e2 k2 q => h v H' (e1 e2) k2 ?_
    cases md with
    | frs => obtain ⟨a, rfl, q, o⟩ := q; exact ⟨a, rfl, q.imp id (sub a), o⟩
    | brw => exact q
    | rep => exact q
  | exc a b cc d => exact fun cls d H' e2 k2 q => h cls d H' (e1 e2) k2 q
  | stuck => exact h
section
variable {X : Cx} {E : XK} {fz Wk Wk' Wk1 : List Nat} {md : Md}
theorem ss_drop (f : Nat → Bool) {st : Stmt} {d : DenS} (h : SS X E fz Wk1 Wk' md st d) (e : Wk.filter f = Wk1 := by rfl) : SS X E fz Wk Wk' md st d := by
  obtain ⟨t, ht, hs⟩ := h
  refine ⟨t, ht, fun ρ B W σ σc H g D J hW R jc j p => ?_⟩
  exact hs ρ B (W.filter fun w => f w.1) σ σc H g D J (by rw [filter_keys, hW, e]) (R.drop f) jc j (p.drop f)
theorem sss_drop (f : Nat → Bool) {st : List Stmt} {d : DenS} (h : SSs X E fz Wk1 Wk' md st d) (e : Wk.filter f = Wk1 := by rfl) : SSs X E fz Wk Wk' md st d := by
  obtain ⟨t, ht, hs⟩ := h
  refine ⟨t, ht, fun ρ B W σ σc H g D J hW R jc j p => ?_⟩
  exact hs ρ B (W.filter fun w => f w.1) σ σc H g D J (by rw [filter_keys, hW, e]) (R.drop f) jc j (p.drop f)
def dSkip : DenS := fun σ g => .next σ g
def dSeq (a b : DenS) : DenS := fun σ g => match a σ g with
  | .next σ' g' => b σ' g'
  | r => r
theorem sss_nil : SSs X E fz Wk Wk md [] dSkip := ⟨_, pss_nil, fun ρ B W σ σc H g D J hW R jc j p => p W σc H hW (Ext.refl _ _).w (.refl W H) R j⟩
theorem sss_one {st : Stmt} {d : DenS} (h : SS X E fz Wk Wk' md st d) : SSs X E fz Wk Wk' md [st] d := by
  obtain ⟨t, ht, hs⟩ := h
  exact ⟨t, pss_one ht, hs⟩
theorem sss_cons {st : Stmt} {rest : List Stmt} {d ds : DenS} (h : SS X E fz Wk Wk1 md st d) (h' : SSs X E fz Wk1 Wk' md rest ds) : SSs X E fz Wk Wk' md (st :: rest) (dSeq d ds) := by
  obtain ⟨t, ht, hs⟩ := h
  obtain ⟨t', ht', hs'⟩ := h'
  refine ⟨_, pss_cons ht ht', fun ρ B W σ σc H g D J hW R jc j p => ?_⟩
  refine hs ρ B W σ σc H g _ J hW R jc j ?_
  have p : PstS (ct X ρ B) W H Wk' md (match d σ g with | .next σ' g' => ds σ' g' | r => r) (jD D J) E := p
  cases q : d σ g with
  | next σ' g' =>
    rw [q] at p
    exact fun W1 σc1 H1 hk e n R1 j1 => hs' ρ B W1 σ' σc1 H1 g' D J hk R1 jc j1 (p.from e R1.rg n)
  | ret _ _ => rw [q] at p; exact p
  | exc _ _ _ _ => rw [q] at p; exact p
  | stuck => rw [q] at p; exact p
/-- what the proof never comes to -/
def dNever : DenS := fun _ _ => .stuck
theorem ss_never {st : Stmt} : SS X E fz Wk Wk' md st dNever := ⟨_, ps_never, fun ρ B W σ σc H g D J hW R jc j p => p.elim⟩
theorem sss_never {st : List Stmt} : SSs X E fz Wk Wk' md st dNever := ⟨_, pss_never, fun ρ B W σ σc H g D J hW R jc j p => p.elim⟩
theorem ss_pass {pos : Pos} : SS X E fz Wk Wk md (.Pass pos) dSkip := ⟨_, ps_pass, fun ρ B W σ σc H g D J hW R jc j p => p W σc H hW (Ext.refl _ _).w (.refl W H) R j⟩
def dIf (c : DenT) (a b : DenS) : DenS := fun σ g => (c σ g).bindS fun t g => if t = true then a σ g else b σ g
theorem ss_if {c : Expr} {a b : List Stmt} {pos : Pos} {dc : DenT} {da db : DenS} (hc : ST X (WE0 E) Wk c dc) (ha : SSs X E fz Wk Wk' md a da) (hb : SSs X E fz Wk Wk' md b db) : SS X E fz Wk Wk' md (.If c a b pos) (dIf dc da db) := by
  obtain ⟨t, ht, hs⟩ := hc
  obtain ⟨ta, pa, sa⟩ := ha
  obtain ⟨tb, pb, sb⟩ := hb
  refine ⟨_, ps_if ht pa pb, fun ρ B W σ σc H g D J hW R jc j p => ?_⟩
  refine hs ρ B W σ σc H g _ hW R (PstS.bindT p fun c g1 H1 _ e1 k1 p => ?_)
  cases c with
  | true => exact sa ρ B W σ σc H1 g1 _ J hW (R.ext e1 k1) jc j p
  | false => exact sb ρ B W σ σc H1 g1 _ J hW (R.ext e1 k1) jc j p
def dRet (d : Den) : DenS := fun σ g => (d σ g).bindS fun p g => .ret p g
def dRetN : DenS := fun σ g => .ret .non g
theorem ss_ret {e : Expr} {pos : Pos} {d : Den} (h : SE X (WE0 E) Wk .rep e d) : SS X E fz Wk Wk' .rep (.Return (some e) pos) (dRet d) := by
  obtain ⟨t, ht, hs⟩ := h
  refine ⟨_, ps_ret ht, fun ρ B W σ σc H g D J hW R jc j p => ?_⟩
  refine hs ρ B W σ σc H g _ hW R (PstS.bind p fun x g1 v H1 _ e1 k1 q1 p => ?_)
  exact p v H1 (Ext.refl _ _).w k1 (Rep.ban (c := (ct X ρ B).ban W) (fun b z => .inl (.inl z)) q1)
theorem ss_retF {e : Expr} {pos : Pos} {d : Den} (h : SE X (WE0 E) Wk .frs e d) : SS X E fz Wk Wk' .frs (.Return (some e) pos) (dRet d) := by
  obtain ⟨t, ht, hs⟩ := h
  refine ⟨_, ps_ret ht, fun ρ B W σ σc H g D J hW R jc j p => ?_⟩
  have key : Pst (ct X ρ B) W H .frs (d σ g) D.rt (fun cls dd H' => E cls dd H') := by
    cases hd : d σ g with
    | ok x g1 =>
      have p : PstS (ct X ρ B) W H Wk' .frs ((d σ g).bindS fun p g => .ret p g) (jD D J) E := p
      rw [hd] at p
      rintro v H1 e1 k1 ⟨a, rfl, hn, o⟩
      exact p _ H1 e1.w k1 ⟨a, rfl, .inl hn, Own.ban (c := ((ct X ρ B).ban W).ban1 a) (fun b z => .inl (z.elim (fun z => .inl (.inl z)) .inr)) o, fun z => R.dom a z hn⟩
    | exc k ns ps g1 =>
      have p : PstS (ct X ρ B) W H Wk' .frs ((d σ g).bindS fun p g => .ret p g) (jD D J) E := p
      rw [hd] at p
      exact fun cls dd H' e k1 q => p cls dd H' e.w k1 q.unban
    | stuck =>
      have p : PstS (ct X ρ B) W H Wk' .frs ((d σ g).bindS fun p g => .ret p g) (jD D J) E := p
      rw [hd] at p
      exact p
  exact hs ρ B W σ σc H g _ hW R key
/-- return of an owned name -/
theorem ss_retW (i : Nat) {x : Str} {pos pos' : Pos} (hi : i ∈ Wk := by decide) (hN : X.N[i]? = some x := by rfl) (hv : Vis X.env.scope x := by first | exact Or.inl rfl | exact Or.inr (Or.inl rfl) | exact Or.inr (Or.inr rfl)) (hd : (x == ("__debug__" : Str)) = false := by decide)
    (hcd : (x == ("__classdict__" : Str)) = false := by decide) : SS X E fz Wk Wk' .frs (.Return (some (.Name x pos)) pos') (dRet (dV i)) := by
  refine ⟨_, ps_ret (pe_var hN hv hd hcd), fun ρ B W σ σc H g D J hW R jc j p => ?_⟩
  rw [← hW] at hi
  obtain ⟨w, hw, rfl⟩ := List.mem_map.mp hi
  obtain ⟨q, h1, h2, h3⟩ := R.own w hw
  refine ⟨_, h2, ?_⟩
  have p : PstS (ct X ρ B) W H Wk' .frs ((dV w.1 σ g).bindS fun p g => .ret p g) (jD D J) E := p
  unfold dV at p
  rw [h1] at p
  exact p _ H (Ext.refl _ _).w R.rg ⟨w.2, rfl, .inr (List.mem_map.mpr ⟨w, hw, rfl⟩), Own.ban (c := (ct X ρ B).ban W) (fun b z => .inl (z.elim .inl fun e => .inr (List.mem_map.mpr ⟨w, hw, e.symm⟩))) h3, R.wb w hw⟩
theorem ss_retN {pos : Pos} : SS X E fz Wk Wk' .rep (.Return none pos) dRetN := ⟨_, ps_retN, fun ρ B W σ σc H g D J hW R jc j p => p .non H (Ext.refl _ _).w R.rg rfl⟩
def dExpr (d : Den) : DenS := fun σ g => (d σ g).bindS fun _ g => .next σ g
theorem ss_expr {m : Md} {e : Expr} {pos : Pos} {d : Den} (h : SE X (WE0 E) Wk m e d) (hs : swapsWith e none pos.line X.env = pure false := by rfl) : SS X E fz Wk Wk md (.Expr e pos) (dExpr d) := by
  obtain ⟨t, ht, hh⟩ := h
  refine ⟨_, ps_expr ht hs, fun ρ B W σ σc H g D J hW R jc j p => ?_⟩
  refine hh ρ B W σ σc H g _ hW R (PstS.bind p fun x g1 v H1 _ e1 k1 q1 p => ?_)
  exact p W σc H1 hW (Ext.refl _ _).w (.refl _ _) (R.ext e1 k1) j
end
end Tr

namespace Tr
open PySem PySem.Spec PyProof.Rows L2

mutual
theorem Rep.away {c : Ct} {H H' : Hp} (s : ∀ b o, H b = some o → ¬ c.B b → H' b = some o) : ∀ {p : PV} {v : V}, Rep c H p v → Rep c H' p v
  | .non, _, h => h
  | .bl _, _, h => h
  | .int _, _, h => h
  | .str _, _, h => h
  | .tup l, _, ⟨a, xs, h1, h2, h3⟩ => ⟨a, xs, h1, h2.elim (fun h => .inl ⟨h.1, s _ _ h.2 h.1⟩) .inr, RepL.away s h3⟩
  | .lst l, _, ⟨a, xs, h1, h2, h3⟩ => ⟨a, xs, h1, ⟨h2.1, s _ _ h2.2 h2.1⟩, RepL.away s h3⟩
  | .dct ks ps, _, ⟨a, vs, h1, h2, h3, h4, h5⟩ => ⟨a, vs, h1, h2, h3.to fun o q => s _ _ q h2, h4, RepL.away s h5⟩
  | .ins k ns ps, _, ⟨a, C, dx, vs, h1, h2, h3, h4, h5, h6⟩ => ⟨a, C, dx, vs, h1, h2, h3, s _ _ h4 h2, h5, RepL.away s h6⟩
  | .rng, _, h => h
theorem RepL.away {c : Ct} {H H' : Hp} (s : ∀ b o, H b = some o → ¬ c.B b → H' b = some o) : ∀ {ps : List PV} {vs : List V}, RepL c H ps vs → RepL c H' ps vs
  | [], _, h => h
  | p :: ps, _, ⟨v, r, h1, h2, h3⟩ => ⟨v, r, h1, Rep.away s h2, RepL.away s h3⟩
end
theorem Own.away {c : Ct} {H H' : Hp} {a : Addr} {p : PV} (s : ∀ b o, H b = some o → ¬ c.B b → H' b = some o) (e : H' a = H a) (h : Own c H a p) : Own c H' a p := by
  cases p with
  | lst l => obtain ⟨xs, h, k⟩ := h; exact ⟨xs, e.trans h, k.away s⟩
  | dct ks ps => obtain ⟨xs, h, l, k⟩ := h; exact ⟨xs, e.trans h, l, k.away s⟩
  | ins k ns ps => obtain ⟨C, dx, vs, m, h, l, k⟩ := h; exact ⟨C, dx, vs, m, e.trans h, l, k.away s⟩
  | _ => exact h.elim
/-- a slot that is not owned is set -/
theorem Rel.set {c : Ct} {W : Wn} {σ : Sl} {σc : L2.St} {H : Hp} {g : Rg} {i : Nat} {p : PV} {v : V} (r : Rel c W σ σc H g) (hi : i ∉ W.map (·.1)) (h : Rep (c.ban W) H p v) : Rel c W (σ.set i (some p)) (σc.set i (some v)) H g where
  len := by simp [r.len]
  rg := r.rg
  rb := r.rb
  dom := r.dom
  ndk := r.ndk
  nda := r.nda
  wb := r.wb
  val := fun j q hq n => by
    by_cases hj : j = i
    · subst hj
      by_cases hl : j < σ.length
      · rw [List.getElem?_set_self hl] at hq
        cases hq
        exact ⟨v, by rw [List.getElem?_set_self (by rw [← r.len]; exact hl)], h⟩
      · rw [List.getElem?_eq_none (by simpa using hl)] at hq
        cases hq
    · rw [List.getElem?_set_ne (Ne.symm hj)] at hq
      obtain ⟨u, h1, h2⟩ := r.val j q hq n
      exact ⟨u, by rw [List.getElem?_set_ne (Ne.symm hj)]; exact h1, h2⟩
  own := fun w hw => by
    have hne : i ≠ w.1 := fun e => hi (List.mem_map.mpr ⟨w, hw, e.symm⟩)
    obtain ⟨q, h1, h2, h3⟩ := r.own w hw
    exact ⟨q, by rw [List.getElem?_set_ne hne]; exact h1, by rw [List.getElem?_set_ne hne]; exact h2, h3⟩
/-- a slot gets a new object, owned from now on -/
theorem Rel.setW {c : Ct} {W : Wn} {σ : Sl} {σc : L2.St} {H H' : Hp} {g g' : Rg} {i : Nat} {p : PV} {a : Addr} (r : Rel c W σ σc H g) (e : Ext c H H') (k : RgOk c H' g') (hi : i ∉ W.map (·.1)) (hl : i < σ.length) (ha : H a = none) (h : Own ((c.ban W).ban1 a) H' a p) :
    Rel c ((i, a) :: W) (σ.set i (some p)) (σc.set i (some (.ref a))) H' g' := by
  have r' := r.ext e k
  have bn : ∀ b, (c.ban ((i, a) :: W)).B b → (c.ban W).B b ∨ H b = none := fun b hb => by
    rcases hb with hb | hb
    · exact .inl (.inl hb)
    · rcases List.mem_cons.mp hb with rfl | hb
      · exact .inr ha
      · exact .inl (.inr hb)
  refine ⟨by simp [r.len], k, r.rb, r'.dom, List.nodup_cons.mpr ⟨hi, r.ndk⟩, List.nodup_cons.mpr ⟨fun z => r.wdom a (.inr z) ha, r.nda⟩, fun w hw => ?_, fun j q hq n => ?_, fun w hw => ?_⟩
  · rcases List.mem_cons.mp hw with rfl | hw
    · exact fun z => r.dom a z ha
    · exact r.wb w hw
  · have hj : i ≠ j := fun z => n (by simp [z])
    have n' : j ∉ W.map (·.1) := fun z => n (List.mem_cons_of_mem _ z)
    rw [List.getElem?_set_ne hj] at hq
    obtain ⟨u, h1, h2⟩ := r.val j q hq n'
    refine ⟨u, by rw [List.getElem?_set_ne hj]; exact h1, ?_⟩
    exact Rep.ext (c := c.ban ((i, a) :: W)) e (fun b hb => .inl (r.rb b hb)) (Rep.ban (c := c.ban W) bn h2)
  · rcases List.mem_cons.mp hw with rfl | hw
    · refine ⟨p, List.getElem?_set_self hl, List.getElem?_set_self (by rw [← r.len]; exact hl), Own.ban (c := (c.ban W).ban1 a) (fun b hb => .inl ?_) h⟩
      rcases hb with hb | hb
      · exact .inl (.inl hb)
      · rcases List.mem_cons.mp hb with rfl | hb
        · exact .inr rfl
        · exact .inl (.inr hb)
    · have hne : i ≠ w.1 := fun e => hi (List.mem_map.mpr ⟨w, hw, e.symm⟩)
      obtain ⟨q, h1, h2, h3⟩ := r.own w hw
      refine ⟨q, by rw [List.getElem?_set_ne hne]; exact h1, by rw [List.getElem?_set_ne hne]; exact h2, ?_⟩
      exact Own.ext (c := c.ban ((i, a) :: W)) e (fun b hb => .inl (r.rb b hb)) (fun z => r.wb w hw (r.rb _ z)) (Own.ban (c := c.ban W) bn h3)
/-- what an owned slot holds is changed -/
theorem Rel.upd {c : Ct} {W : Wn} {σ : Sl} {σc : L2.St} {H : Hp} {g : Rg} {w : Nat × Addr} {p : PV} {o : HO} (r : Rel c W σ σc H g) (hw : w ∈ W) (h : Own (c.ban W) (L2.upd H w.2 o) w.2 p) : Rel c W (σ.set w.1 (some p)) σc (L2.upd H w.2 o) g := by
  have ban_w : (c.ban W).B w.2 := .inr (List.mem_map.mpr ⟨w, hw, rfl⟩)
  have aw : ∀ b u, H b = some u → ¬ (c.ban W).B b → L2.upd H w.2 o b = some u := fun b u hb n => by
    have : b ≠ w.2 := fun e => n (by rw [e]; exact ban_w)
    rw [upd_ne this]; exact hb
  have nr : ¬ c.R w.2 := fun z => r.wb w hw (r.rb _ z)
  have keyi : ∀ {w'}, w' ∈ W → w'.1 = w.1 → w' = w := fun {w'} hw' e => by
    have : ∀ {l : Wn}, (l.map (·.1)).Nodup → ∀ {x y}, x ∈ l → y ∈ l → x.1 = y.1 → x = y := by
      intro l
      induction l with
      | nil => intro _ x y hx; cases hx
      | cons a l ih =>
        intro hn x y hx hy he
        have hn' := List.nodup_cons.mp (show (a.1 :: l.map (·.1)).Nodup from hn)
        rcases List.mem_cons.mp hx with e1 | hx1
        · rcases List.mem_cons.mp hy with e2 | hy1
          · rw [e1, e2]
          · exact absurd (List.mem_map.mpr ⟨y, hy1, by rw [← he, e1]⟩) hn'.1
        · rcases List.mem_cons.mp hy with e2 | hy1
          · exact absurd (List.mem_map.mpr ⟨x, hx1, by rw [he, e2]⟩) hn'.1
          · exact ih hn'.2 hx1 hy1 he
    exact this r.ndk hw' hw e
  have addr : ∀ {w'}, w' ∈ W → w' ≠ w → w'.2 ≠ w.2 := fun {w'} hw' ne e => by
    have : ∀ {l : Wn}, (l.map (·.2)).Nodup → ∀ {x y}, x ∈ l → y ∈ l → x.2 = y.2 → x = y := by
      intro l
      induction l with
      | nil => intro _ x y hx; cases hx
      | cons a l ih =>
        intro hn x y hx hy he
        have hn' := List.nodup_cons.mp (show (a.2 :: l.map (·.2)).Nodup from hn)
        rcases List.mem_cons.mp hx with e1 | hx1
        · rcases List.mem_cons.mp hy with e2 | hy1
          · rw [e1, e2]
          · exact absurd (List.mem_map.mpr ⟨y, hy1, by rw [← he, e1]⟩) hn'.1
        · rcases List.mem_cons.mp hy with e2 | hy1
          · exact absurd (List.mem_map.mpr ⟨x, hx1, by rw [he, e2]⟩) hn'.1
          · exact ih hn'.2 hx1 hy1 he
    exact ne (this r.nda hw' hw e)
  refine ⟨by simp [r.len], r.rg.upd nr (let ⟨_, _, _, ow⟩ := r.own w hw; ow.noTab), r.rb, fun b hb => ?_, r.ndk, r.nda, r.wb, fun j q hq n => ?_, fun w' hw' => ?_⟩
  · by_cases e : b = w.2
    · rw [e, upd_same]; exact fun z => nomatch z
    · rw [upd_ne e]; exact r.dom b hb
  · have hj : w.1 ≠ j := fun z => n (by rw [← z]; exact List.mem_map.mpr ⟨w, hw, rfl⟩)
    rw [List.getElem?_set_ne hj] at hq
    obtain ⟨u, h1, h2⟩ := r.val j q hq n
    exact ⟨u, h1, Rep.away (c := c.ban W) aw h2⟩
  · obtain ⟨q, h1, h2, h3⟩ := r.own w' hw'
    by_cases e : w' = w
    · subst e
      have hl : w'.1 < σ.length := (List.getElem?_eq_some_iff.mp h1).1
      exact ⟨p, List.getElem?_set_self hl, h2, h⟩
    · have hj : w.1 ≠ w'.1 := fun z => e (keyi hw' z.symm)
      refine ⟨q, by rw [List.getElem?_set_ne hj]; exact h1, h2, Own.away (c := c.ban W) aw (upd_ne (addr hw' e)) h3⟩

section
variable {X : Cx} {E : XK} {fz Wk Wk' Wk1 : List Nat} {md : Md}
abbrev DenG := PV → Sl → Option Sl
/-- the same slots but for some -/
def Agree (gs : List Nat) (σ σ' : L2.St) : Prop := σ'.length = σ.length ∧ ∀ j, j ∉ gs → σ'[j]? = σ[j]?
def SG (X : Cx) (Wk gs : List Nat) (tg : Expr) (gd : DenG) : Prop :=
  ∃ t, PG X tg t ∧ ∀ (ρ : Rho) (B : Addr → Prop) (W : Wn) (σ σ' : Sl) (σc : L2.St) (H : Hp) (g : Rg) (p : PV) (v : V) (Q : L2.St → Hp → Prop), W.map (·.1) = Wk →
    Rel (ct X ρ B) W σ σc H g → Rep ((ct X ρ B).ban W) H p v → gd p σ = some σ' → (∀ σc', Rel (ct X ρ B) W σ' σc' H g → Agree gs σc σc' → Q σc' H) → t v σc H Q
abbrev DenGs := List PV → Sl → Option Sl
def SGs (X : Cx) (Wk gs : List Nat) (tg : List Expr) (gd : DenGs) : Prop :=
  ∃ t, PGs X tg t ∧ ∀ (ρ : Rho) (B : Addr → Prop) (W : Wn) (σ σ' : Sl) (σc : L2.St) (H : Hp) (g : Rg) (p : List PV) (v : List V) (Q : L2.St → Hp → Prop), W.map (·.1) = Wk →
    Rel (ct X ρ B) W σ σc H g → RepL ((ct X ρ B).ban W) H p v → gd p σ = some σ' → (∀ σc', Rel (ct X ρ B) W σ' σc' H g → Agree gs σc σc' → Q σc' H) → t v σc H Q
def gdName (i : Nat) : DenG := fun p σ => some (σ.set i (some p))
theorem sg_name (i : Nat) {x : Str} {pos : Pos} (hN : X.N.Nodup) (hw : i ∉ Wk := by decide) (hi : X.N[i]? = some x := by rfl) (hx : Loc X.env.scope x := by first | exact Or.inl rfl | exact Or.inr rfl) (hf : X.fn x = true ∨ X.env.scope.names.lookup x = some .local := by first | exact .inl rfl | exact .inr rfl) : SG X Wk [i] (.Name x pos) (gdName i) := by
  refine ⟨_, pg_name hN hi hx hf, fun ρ B W σ σ' σc H g p v Q hW R h e k => ?_⟩
  cases e
  exact k _ (R.set (by rw [hW]; exact hw) h) ⟨by simp, fun j hj => List.getElem?_set_ne fun z => hj (by simp [z])⟩
def gdNil : DenGs := fun l σ => match l with | [] => some σ | _ => none
def gdCons (a : DenG) (b : DenGs) : DenGs := fun l σ => match l with | p :: r => (a p σ).bind (b r) | [] => none
theorem sgs_nil : SGs X Wk [] [] gdNil := by
  refine ⟨_, pgs_nil, fun ρ B W σ σ' σc H g p v Q hW R h e k => ?_⟩
  cases p with
  | nil => cases e; exact ⟨h, k _ R ⟨rfl, fun _ _ => rfl⟩⟩
  | cons _ _ => cases e
theorem sgs_cons {e : Expr} {es : List Expr} {a : DenG} {b : DenGs} {g1 g2 : List Nat} (h : SG X Wk g1 e a) (h' : SGs X Wk g2 es b) (hs : (assignEach (e :: es) X.env).map (·.2) = assign e X.env :: (assignEach es X.env).map (·.2) := by rfl) : SGs X Wk (g1 ++ g2) (e :: es) (gdCons a b) := by
  obtain ⟨t, ht, hh⟩ := h
  obtain ⟨t', ht', hh'⟩ := h'
  refine ⟨_, pgs_cons ht ht' hs, fun ρ B W σ σ' σc H g p v Q hW R h e k => ?_⟩
  cases p with
  | nil => cases e
  | cons p ps =>
    obtain ⟨v, r, rfl, h1, h2⟩ := h
    have e : (a p σ).bind (b ps) = some σ' := e
    cases ea : a p σ with
    | none => rw [ea] at e; cases e
    | some σ1 =>
      rw [ea] at e
      exact ⟨v, r, rfl, hh ρ B W σ σ1 σc H g p v _ hW R h1 ea fun σc1 R1 s1 => hh' ρ B W σ1 σ' σc1 H g ps r Q hW R1 h2 e fun σc' R' s' => k σc' R' ⟨s'.1.trans s1.1, fun j hj => (s'.2 j fun z => hj (List.mem_append_right _ z)).trans (s1.2 j fun z => hj (List.mem_append_left _ z))⟩⟩
def gdTup (n : Nat) (b : DenGs) : DenG := fun p σ => match p with | .tup l => if l.length = n then b l σ else none | _ => none
theorem sg_tup {es : List Expr} {k : Nat} {pos : Pos} {b : DenGs} {n : Nat} {gs : List Nat} (hc : X.calm = true) (h : SGs X Wk gs es b) (hn : (assignEach es X.env).length = n := by rfl) (hst : (assignEach es X.env).findIdx? (·.1) = none := by rfl) : SG X Wk gs (.Tuple es k pos) (gdTup n b) := by
  obtain ⟨t, ht, hh⟩ := h
  refine ⟨_, pg_tup hc ht hn hst, fun ρ B W σ σ' σc H g p v Q hW R h e k => ?_⟩
  cases p with
  | tup l =>
    obtain ⟨a, xs, rfl, h1, h2⟩ := h
    have e : (if l.length = n then b l σ else none) = some σ' := e
    by_cases hl : l.length = n
    · rw [if_pos hl] at e
      exact ⟨a, xs, rfl, h1.sq, by rw [← h2.length]; exact hl, hh ρ B W σ σ' σc H g l xs Q hW R h2 e k⟩
    · rw [if_neg hl] at e; cases e
  | _ => cases e
theorem JC.agree {fz gs : List Nat} {J : L2.St → Prop} {σ σ' : L2.St} (jc : JC fz J) (ag : Agree gs σ σ') (hz : ∀ i ∈ fz, i ∉ gs) (j : J σ) : J σ' := jc σ σ' ag.1 (fun i hi => ag.2 i (hz i hi)) j
def dSet (i : Nat) (d : Den) : DenS := fun σ g => (d σ g).bindS fun p g => .next (σ.set i (some p)) g
theorem ss_set (i : Nat) {x : Str} {e : Expr} {pos pos' : Pos} {d : Den} (hN : X.N.Nodup) (h : SE X (WE0 E) Wk .rep e d) (hw : i ∉ Wk := by decide) (hz : i ∉ fz := by decide) (hi : X.N[i]? = some x := by rfl) (hx : Loc X.env.scope x := by first | exact Or.inl rfl | exact Or.inr rfl) (hs : swapsWith e (some (.Name x pos')) pos.line X.env = pure false := by rfl) (hf : X.fn x = true ∨ X.env.scope.names.lookup x = some .local := by first | exact .inl rfl | exact .inr rfl) :
    SS X E fz Wk Wk md (.Assign [.Name x pos'] e pos) (dSet i d) := by
  obtain ⟨t, ht, hh⟩ := h
  refine ⟨_, ps_set hN hi hx ht hs hf, fun ρ B W σ σc H g D J hW R jc j p => ?_⟩
  refine hh ρ B W σ σc H g _ hW R (PstS.bind p fun x g1 v H1 _ e1 k1 q1 p => ?_)
  exact p W _ H1 hW (Ext.refl _ _).w (.refl _ _) ((R.ext e1 k1).set (by rw [hW]; exact hw) q1) (jc.set hz j)
def dSetW (i : Nat) (d : Den) : DenS := fun σ g => (d σ g).bindS fun p g => if i < σ.length then .next (σ.set i (some p)) g else .stuck
theorem setW_post {c : Ct} {W : Wn} {σ : Sl} {σc : L2.St} {H : Hp} {g : Rg} {i : Nat} {D : Ends} {r : Res PV} {J : L2.St → Prop} (jc : JC fz J) (hz : i ∉ fz) (j : J σc) (hW : W.map (·.1) = Wk) (hw : i ∉ Wk) (R : Rel c W σ σc H g) (p : PstS c W H (i :: Wk) md (r.bindS fun p g => if i < σ.length then .next (σ.set i (some p)) g else .stuck) (jD D J) E) :
    Pst c W H .frs r (fun x H1 => gName i x σc H1 D.nx) (fun cls dd H' => E cls dd H') := by
  cases r with
  | ok x g1 =>
    have p : PstS c W H (i :: Wk) md (if i < σ.length then .next (σ.set i (some x)) g1 else .stuck) (jD D J) E := p
    by_cases hl : i < σ.length
    · rw [if_pos hl] at p
      rintro v H1 e1 k1 ⟨a, rfl, hn, o⟩
      exact p ((i, a) :: W) _ H1 (by simp [hW]) e1.w (fun b hb => (List.mem_cons.mp hb).elim (fun e => .inr (by rw [e]; exact hn)) .inl) (R.setW e1 k1 (by rw [hW]; exact hw) hl hn o) (jc.set hz j)
    · rw [if_neg hl] at p; exact p.elim
  | exc k ns ps g1 => exact fun cls dd H' e k1 q => p cls dd H' e.w k1 q.unban
  | stuck => exact p
theorem ss_setW (i : Nat) {x : Str} {e : Expr} {pos pos' : Pos} {d : Den} (hN : X.N.Nodup) (h : SE X (WE0 E) Wk .frs e d) (hw : i ∉ Wk := by decide) (hz : i ∉ fz := by decide) (hi : X.N[i]? = some x := by rfl) (hx : Loc X.env.scope x := by first | exact Or.inl rfl | exact Or.inr rfl) (hs : swapsWith e (some (.Name x pos')) pos.line X.env = pure false := by rfl) (hf : X.fn x = true ∨ X.env.scope.names.lookup x = some .local := by first | exact .inl rfl | exact .inr rfl) :
    SS X E fz Wk (i :: Wk) md (.Assign [.Name x pos'] e pos) (dSetW i d) := by
  obtain ⟨t, ht, hh⟩ := h
  refine ⟨_, ps_set hN hi hx ht hs hf, fun ρ B W σ σc H g D J hW R jc j p => ?_⟩
  exact hh ρ B W σ σc H g _ hW R (setW_post jc hz j hW hw R p)
/-- a, b = e -/
def dAsg (gd : DenG) (d : Den) : DenS := fun σ g => (d σ g).bindS fun p g => match gd p σ with | some σ' => .next σ' g | none => .stuck
theorem ss_asg {tg e : Expr} {pos : Pos} {gd : DenG} {d : Den} {gs : List Nat} (h : SE X (WE0 E) Wk .rep e d) (hg : SG X Wk gs tg gd) (hz : ∀ i ∈ fz, i ∉ gs := by decide) (hs : swapsWithSole [tg] e pos.line X.env = pure false := by rfl) (hw : swappedStores [tg] e X.env = pure none := by rfl)
    (h1 : (assignEach [tg] X.env).map (·.2) = [assign tg X.env] := by rfl) : SS X E fz Wk Wk md (.Assign [tg] e pos) (dAsg gd d) := by
  obtain ⟨t, ht, hh⟩ := h
  obtain ⟨t', ht', hh'⟩ := hg
  refine ⟨_, ps_asg ht ht' hs hw h1, fun ρ B W σ σc H g D J hW R jc j p => ?_⟩
  refine hh ρ B W σ σc H g _ hW R (PstS.bind p fun x g1 v H1 _ e1 k1 q1 p => ?_)
  cases eg : gd x σ with
  | none => rw [eg] at p; exact p.elim
  | some σ' =>
    rw [eg] at p
    exact hh' ρ B W σ σ' σc H1 g1 x v _ hW (R.ext e1 k1) q1 eg fun σc' R' ag => p W σc' H1 hW (Ext.refl _ _).w (.refl _ _) R' (jc.agree ag hz j)
/-- a, b = x, y of local names -/
def dPar (i j : Nat) (da db : Den) : DenS := fun σ g => (da σ g).bindS fun p g => (db σ g).bindS fun q g => .next ((σ.set i (some p)).set j (some q)) g
theorem ss_par (i j : Nat) {x y : Str} {a b : Expr} {da db : Den} {px py pt pos : Pos} {kt k2 pt2} (hc : X.calm = true) (hN : X.N.Nodup) (ha : SE X (WE0 E) Wk .rep a da) (hb : SE X (WE0 E) Wk .rep b db) (hwi : i ∉ Wk := by decide) (hwj : j ∉ Wk := by decide) (hzi : i ∉ fz := by decide) (hzj : j ∉ fz := by decide) (hi : X.N[i]? = some x := by rfl) (hj : X.N[j]? = some y := by rfl) (hij : i ≠ j := by decide)
    (hx : X.env.scope.names.lookup x = some .local := by rfl) (hy : X.env.scope.names.lookup y = some .local := by rfl) (hw : swappedStores [.Tuple [.Name x px, .Name y py] kt pt] (.Tuple [a, b] k2 pt2) X.env = pure (some [x, y]) := by rfl)
    (hs : swapsWithSole [.Tuple [.Name x px, .Name y py] kt pt] (.Tuple [a, b] k2 pt2) pos.line X.env = pure false := by rfl)
    (hs1 : starEach [a, b] X.env = (false, eval a X.env) :: starEach [b] X.env := by rfl) (hs2 : starEach [b] X.env = (false, eval b X.env) :: starEach [] X.env := by rfl) :
    SS X E fz Wk Wk md (.Assign [.Tuple [.Name x px, .Name y py] kt pt] (.Tuple [a, b] k2 pt2) pos) (dPar i j da db) := by
  obtain ⟨ta, hta, hha⟩ := ha
  obtain ⟨tb, htb, hhb⟩ := hb
  refine ⟨_, ps_par hc hN hi hj hij hx hy (pa_cons hta (pa_cons htb pa_nil hs2) hs1) hw hs, fun ρ B W σ σc H g D J hW R jc jj p => ?_⟩
  refine hha ρ B W σ σc H g _ hW R (PstS.bind p fun x g1 v H1 _ e1 k1 q1 p => ?_)
  have R1 := R.ext e1 k1
  refine hhb ρ B W σ σc H1 g1 _ hW R1 (PstS.bind p fun y g2 u H2 _ e2 k2 q2 p => ?_)
  have R2 := R1.ext e2 k2
  refine ⟨v, u, rfl, ?_⟩
  exact p W _ H2 hW (Ext.refl _ _).w (.refl _ _) ((R2.set (by rw [hW]; exact hwi) (Rep.ext (c := (ct X ρ B).ban W) e2 (Ct.ban_R R.rb) q1)).set (by rw [hW]; exact hwj) q2) (jc.set hzj (jc.set hzi jj))
theorem own_lst {c : Ct} {W : Wn} {σ : Sl} {σc : L2.St} {H : Hp} {g : Rg} {w : Nat × Addr} {l : List PV} (R : Rel c W σ σc H g) (hw : w ∈ W) (e : σ[w.1]? = some (some (.lst l))) : ∃ xs, σc[w.1]? = some (some (.ref w.2)) ∧ H w.2 = some (.lst xs) ∧ RepL (c.ban W) H l xs := by
  obtain ⟨q, h1, h2, h3⟩ := R.own w hw
  rw [e] at h1; cases h1
  obtain ⟨xs, h4, h5⟩ := h3
  exact ⟨xs, h2, h4, h5⟩
/-- the new content -/
theorem new_lst {c : Ct} {W : Wn} {σ : Sl} {σc : L2.St} {H : Hp} {g : Rg} {w : Nat × Addr} {l : List PV} {xs : List V} (R : Rel c W σ σc H g) (hw : w ∈ W) (k : RepL (c.ban W) H l xs) : Rel c W (σ.set w.1 (some (.lst l))) σc (L2.upd H w.2 (.lst xs)) g := by
  refine R.upd hw ⟨xs, upd_same, RepL.away (c := c.ban W) (fun b u hb n => ?_) k⟩
  have : b ≠ w.2 := fun e => n (by rw [e]; exact .inr (List.mem_map.mpr ⟨w, hw, rfl⟩))
  rw [upd_ne this]; exact hb
theorem upd_w {c : Ct} {W : Wn} {H : Hp} {w : Nat × Addr} {o : HO} (hw : w ∈ W) : ExtW c W H (L2.upd H w.2 o) := fun b u hb _ n => by
  have : b ≠ w.2 := fun e => n (by rw [e]; exact List.mem_map.mpr ⟨w, hw, rfl⟩)
  rw [upd_ne this]; exact hb
def onLst (i : Nat) (σ : Sl) (f : List PV → SRes) : SRes := match σ[i]? with
  | some (some (.lst l)) => f l
  | _ => .stuck
theorem onLst_lst {i : Nat} {σ : Sl} {f : List PV → SRes} {l : List PV} (h : σ[i]? = some (some (.lst l))) : onLst i σ f = f l := by unfold onLst; rw [h]
theorem onLst_not {i : Nat} {σ : Sl} {f : List PV → SRes} (h : ∀ l, σ[i]? ≠ some (some (.lst l))) : onLst i σ f = .stuck := by
  unfold onLst
  split
  · rename_i l e; exact absurd e (h l)
  · rfl
theorem onLst_cases {c : Ct} {W : Wn} {H : Hp} {Wk' : List Nat} {md : Md} {D : Ends} {E : XK} {i : Nat} {σ : Sl} {f : List PV → SRes} (p : PstS c W H Wk' md (onLst i σ f) D E) : ∃ l, σ[i]? = some (some (.lst l)) ∧ PstS c W H Wk' md (f l) D E := by
  by_cases h : ∃ l, σ[i]? = some (some (.lst l))
  · obtain ⟨l, h⟩ := h
    rw [onLst_lst h] at p
    exact ⟨l, h, p⟩
  · rw [onLst_not fun l e => h ⟨l, e⟩] at p
    exact p.elim
def dApp (i : Nat) (d : Den) : DenS := fun σ g => onLst i σ fun l => (d σ g).bindS fun p g => if l.length < sizeLine then .next (σ.set i (some (.lst (l ++ [p])))) g else .stuck
theorem ss_append (i : Nat) {x : Str} {e : Expr} {px apos cpos pos : Pos} {d : Den} (h : SE X (WE0 E) Wk .rep e d) (hi : i ∈ Wk := by decide) (hN : X.N[i]? = some x := by rfl) (hv : Vis X.env.scope x := by first | exact Or.inl rfl | exact Or.inr (Or.inl rfl) | exact Or.inr (Or.inr rfl)) (hd : (x == ("__debug__" : Str)) = false := by decide)
    (hcd : (x == ("__classdict__" : Str)) = false := by decide) (hbase : attributeBase (.Name x px) "append" X.env (eval (.Name x px) X.env) = eval (.Name x px) X.env := by rfl)
    (hfew : ((backTo cpos (starEach [e] X.env)).all (fun x => !x.1) && (backToKw cpos (keywordEach [] X.env)).all (fun x => x.1.isSome) && decide ([e].length + ([] : List Keyword).length + (if ([] : List Keyword).isEmpty then 0 else 1) < 30)) = true := by rfl)
    (hline : (apos.endLine == cpos.line) = true := by rfl) (hs : starEach [e] X.env = (false, eval e X.env) :: starEach [] X.env := by rfl) (hplain : (backTo cpos (starEach [] X.env)).any (·.1) = false := by rfl)
    (hsw : swapsWith (.Call (.Attribute (.Name x px) "append" apos) [e] [] cpos) none pos.line X.env = pure false := by rfl) :
    SS X E fz Wk Wk md (.Expr (.Call (.Attribute (.Name x px) "append" apos) [e] [] cpos) pos) (dApp i d) := by
  obtain ⟨t, ht, hh⟩ := h
  refine ⟨_, ps_expr (pe_bm PySem.F.plainAttrs_list PySem.F.slot_list_append PySem.F.type_list_append mt_append (pe_var hN hv hd hcd) (pa_cons ht pa_nil hs) hbase hfew hline hs hplain) hsw, fun ρ B W σ σc H g D J hW R jc j p => ?_⟩
  rw [← hW] at hi
  obtain ⟨w, hw, rfl⟩ := List.mem_map.mp hi
  obtain ⟨l, h1, p⟩ := onLst_cases p
  obtain ⟨xs, h2, h4, h5⟩ := own_lst R hw h1
  refine ⟨_, h2, .inl ⟨rfl, xs, .of h4⟩, ?_⟩
  refine hh ρ B W σ σc H g _ hW R (PstS.bind p fun x g1 v H1 _ e1 k1 q1 p => ?_)
  have R1 := R.ext e1 k1
  have h6 := e1 _ _ h4 (fun z => R.wb w hw (R.rb _ z))
  by_cases hl : l.length < sizeLine
  · rw [if_pos hl] at p
    refine ⟨w.2, xs, v, rfl, rfl, h6, by rw [← h5.length]; exact hl, ?_⟩
    exact p W σc _ hW (upd_w hw) (.refl _ _) (new_lst R1 hw (RepL.append (RepL.ext (c := (ct X ρ B).ban W) e1 (Ct.ban_R R.rb) h5) ⟨v, [], rfl, q1, rfl⟩)) j
  · rw [if_neg hl] at p; exact p.elim
def dExt (i : Nat) (d : Den) : DenS := fun σ g => onLst i σ fun l => (d σ g).bindS fun p g => match p with
  | .lst m => if l.length + m.length ≤ sizeLine then .next (σ.set i (some (.lst (l ++ m)))) g else .stuck
  | _ => .stuck
theorem ss_extend (i : Nat) {x : Str} {e : Expr} {px apos cpos pos : Pos} {d : Den} (h : SE X (WE0 E) Wk .rep e d) (hi : i ∈ Wk := by decide) (hN : X.N[i]? = some x := by rfl) (hv : Vis X.env.scope x := by first | exact Or.inl rfl | exact Or.inr (Or.inl rfl) | exact Or.inr (Or.inr rfl)) (hd : (x == ("__debug__" : Str)) = false := by decide)
    (hcd : (x == ("__classdict__" : Str)) = false := by decide) (hbase : attributeBase (.Name x px) "extend" X.env (eval (.Name x px) X.env) = eval (.Name x px) X.env := by rfl)
    (hfew : ((backTo cpos (starEach [e] X.env)).all (fun x => !x.1) && (backToKw cpos (keywordEach [] X.env)).all (fun x => x.1.isSome) && decide ([e].length + ([] : List Keyword).length + (if ([] : List Keyword).isEmpty then 0 else 1) < 30)) = true := by rfl)
    (hline : (apos.endLine == cpos.line) = true := by rfl) (hs : starEach [e] X.env = (false, eval e X.env) :: starEach [] X.env := by rfl) (hplain : (backTo cpos (starEach [] X.env)).any (·.1) = false := by rfl)
    (hsw : swapsWith (.Call (.Attribute (.Name x px) "extend" apos) [e] [] cpos) none pos.line X.env = pure false := by rfl) :
    SS X E fz Wk Wk md (.Expr (.Call (.Attribute (.Name x px) "extend" apos) [e] [] cpos) pos) (dExt i d) := by
  obtain ⟨t, ht, hh⟩ := h
  refine ⟨_, ps_expr (pe_bm PySem.F.plainAttrs_list PySem.F.slot_list_extend PySem.F.type_list_extend mt_extend (pe_var hN hv hd hcd) (pa_cons ht pa_nil hs) hbase hfew hline hs hplain) hsw, fun ρ B W σ σc H g D J hW R jc j p => ?_⟩
  rw [← hW] at hi
  obtain ⟨w, hw, rfl⟩ := List.mem_map.mp hi
  obtain ⟨l, h1, p⟩ := onLst_cases p
  obtain ⟨xs, h2, h4, h5⟩ := own_lst R hw h1
  refine ⟨_, h2, .inl ⟨rfl, xs, .of h4⟩, ?_⟩
  refine hh ρ B W σ σc H g _ hW R (PstS.bind p fun x g1 v H1 _ e1 k1 q1 p => ?_)
  have R1 := R.ext e1 k1
  have h6 := e1 _ _ h4 (fun z => R.wb w hw (R.rb _ z))
  cases x with
  | lst m =>
    obtain ⟨b, ys, rfl, hb, hk⟩ := q1
    have p : PstS (ct X ρ B) W H1 Wk md (if l.length + m.length ≤ sizeLine then .next (σ.set w.1 (some (.lst (l ++ m)))) g1 else .stuck) (jD D J) E := p
    by_cases hl : l.length + m.length ≤ sizeLine
    · rw [if_pos hl] at p
      refine ⟨w.2, b, xs, ys, rfl, rfl, h6, hb.2, by rw [← h5.length, ← hk.length]; exact hl, ?_⟩
      exact p W σc _ hW (upd_w hw) (.refl _ _) (new_lst R1 hw (RepL.append (RepL.ext (c := (ct X ρ B).ban W) e1 (Ct.ban_R R.rb) h5) hk)) j
    · rw [if_neg hl] at p; exact p.elim
  | _ => exact p.elim
/-- x[k] = e -/
def dPut (i : Nat) (dk d : Den) : DenS := fun σ g => onLst i σ fun l => (d σ g).bindS fun p g => (dk σ g).bindS fun q g => match q with
  | .int k => (match ixN l.length k with | some j => .next (σ.set i (some (.lst (l.set j p)))) g | none => .stuck)
  | _ => .stuck
theorem ss_put (i : Nat) {x : Str} {e ek : Expr} {px spos pos : Pos} {d dk : Den} (h : SE X (WE0 E) Wk .rep e d) (hk : SE X (WE0 E) Wk .brw ek dk) (hi : i ∈ Wk := by decide) (hN : X.N[i]? = some x := by rfl) (hv : Vis X.env.scope x := by first | exact Or.inl rfl | exact Or.inr (Or.inl rfl) | exact Or.inr (Or.inr rfl)) (hd : (x == ("__debug__" : Str)) = false := by decide)
    (hcd : (x == ("__classdict__" : Str)) = false := by decide)
    (ha : ∀ v, assign (.Subscript (.Name x px) ek spos) X.env v = (do
      let ov ← holding [v] (eval (.Name x px) X.env)
      let iv ← holding [v, ov] (eval ek X.env)
      standAt spos
      holding [v, ov, iv] (setItem ov iv v)
      release [v, ov, iv] []) := by intro _; rfl)
    (hs : swapsWithSole [.Subscript (.Name x px) ek spos] e pos.line X.env = pure false := by rfl) (hw' : swappedStores [.Subscript (.Name x px) ek spos] e X.env = pure none := by rfl)
    (h1 : (assignEach [.Subscript (.Name x px) ek spos] X.env).map (·.2) = [assign (.Subscript (.Name x px) ek spos) X.env] := by rfl) :
    SS X E fz Wk Wk md (.Assign [.Subscript (.Name x px) ek spos] e pos) (dPut i dk d) := by
  obtain ⟨t, ht, hh⟩ := h
  obtain ⟨tk, htk, hhk⟩ := hk
  refine ⟨_, ps_asg ht (pg_sub (pe_var hN hv hd hcd) htk set_list ha) hs hw' h1, fun ρ B W σ σc H g D J hW R jc j p => ?_⟩
  rw [← hW] at hi
  obtain ⟨w, hw, rfl⟩ := List.mem_map.mp hi
  obtain ⟨l, h1, p⟩ := onLst_cases p
  obtain ⟨xs, h2, h4, h5⟩ := own_lst R hw h1
  refine hh ρ B W σ σc H g _ hW R (PstS.bind p fun x g1 v H1 _ e1 k1 q1 p => ?_)
  have R1 := R.ext e1 k1
  have h6 := e1 _ _ h4 (fun z => R.wb w hw (R.rb _ z))
  refine ⟨_, h2, ?_⟩
  refine hhk ρ B W σ σc H1 g1 _ hW R1 (PstS.bind p fun y g2 u H2 _ e2 k2 q2 p => ?_)
  have R2 := R1.ext e2 k2
  have h7 := e2 _ _ h6 (fun z => R.wb w hw (R.rb _ z))
  cases y with
  | int k =>
    have p : PstS (ct X ρ B) W H2 Wk md (match ixN l.length k with | some j => .next (σ.set w.1 (some (.lst (l.set j x)))) g2 | none => .stuck) (jD D J) E := p
    cases ej : ixN l.length k with
    | none => rw [ej] at p; exact p.elim
    | some jx =>
      rw [ej] at p
      refine ⟨w.2, xs, k, jx, rfl, q2.int, h7, by rw [← h5.length]; exact ej, ?_⟩
      exact p W σc _ hW (upd_w hw) (.refl _ _) (new_lst R2 hw (RepL.set (Rep.ext (c := (ct X ρ B).ban W) e2 (Ct.ban_R R.rb) q1) jx (RepL.ext (c := (ct X ρ B).ban W) e2 (Ct.ban_R R.rb) (RepL.ext (c := (ct X ρ B).ban W) e1 (Ct.ban_R R.rb) h5)))) j
  | _ => exact p.elim
end
end Tr

namespace Tr
open PySem PySem.Spec PyProof.Rows L2

def Stay (c : Ct) (H0 H : Hp) : Prop := ∀ b o, H0 b = some o → ¬ c.B b → H b = some o
mutual
theorem Rep.later {c : Ct} {B' : Addr → Prop} {H0 H : Hp} (s : Stay c H0 H) (k : ∀ b, B' b → c.B b ∨ H0 b = none) : ∀ {p : PV} {v : V}, Rep c H0 p v → Rep { c with B := B' } H p v
  | .non, _, h => h
  | .bl _, _, h => h
  | .int _, _, h => h
  | .str _, _, h => h
  | .tup l, _, ⟨a, xs, h1, h2, h3⟩ => ⟨a, xs, h1, h2.elim (fun h => .inl ⟨fun z => (k _ z).elim h.1 (some_ne h.2), s _ _ h.2 h.1⟩) .inr, RepL.later s k h3⟩
  | .lst l, _, ⟨a, xs, h1, h2, h3⟩ => ⟨a, xs, h1, ⟨fun z => (k _ z).elim h2.1 (some_ne h2.2), s _ _ h2.2 h2.1⟩, RepL.later s k h3⟩
  | .dct ks ps, _, ⟨a, vs, h1, h2, h3, h4, h5⟩ => ⟨a, vs, h1, fun z => (k _ z).elim h2 h3.some_ne, h3.to fun o q => s _ _ q h2, h4, RepL.later s k h5⟩
  | .ins x ns ps, _, ⟨a, C, dx, vs, h1, h2, h3, h4, h5, h6⟩ => ⟨a, C, dx, vs, h1, fun z => (k _ z).elim h2 (some_ne h4), h3, s _ _ h4 h2, h5, RepL.later s k h6⟩
  | .rng, _, h => h
theorem RepL.later {c : Ct} {B' : Addr → Prop} {H0 H : Hp} (s : Stay c H0 H) (k : ∀ b, B' b → c.B b ∨ H0 b = none) : ∀ {ps : List PV} {vs : List V}, RepL c H0 ps vs → RepL { c with B := B' } H ps vs
  | [], _, h => h
  | p :: ps, _, ⟨v, r, h1, h2, h3⟩ => ⟨v, r, h1, Rep.later s k h2, RepL.later s k h3⟩
end
structure Walks (c : Ct) (H0 : Hp) (J : It) (items : List PV) : Prop where
  go : ∀ H i, Stay c H0 H → i < items.length → J.go i H
  yld : ∀ H i x H' (B' : Addr → Prop), Stay c H0 H → i < items.length → J.yld i H x H' → (∀ b, B' b → H b ≠ none) → (∀ b, B' b → c.B b ∨ H0 b = none) → Same H H' ∧ ∃ p, items[i]? = some p ∧ Rep { c with B := B' } H' p x
  stop : ∀ H i, Stay c H0 H → items.length ≤ i → J.stop i H
def PstI (c : Ct) (W : Wn) (H : Hp) (r : Res (List PV)) (R : It → Hp → Prop) (E : XK) : Prop :=
  match r with
  | .ok items g => ∀ J H', Ext c H H' → RgOk c H' g → Walks (c.ban W) H' J items → R J H'
  | .exc k ns ps g => ∀ cls d H', Ext c H H' → RgOk c H' g → RepX (c.ban W) H' k ns ps cls d → E cls d H'
  | .stuck => False
def SI (X : Cx) (Wx : WX) (Wk : List Nat) (tg iter : Expr) (d : DenL) : Prop :=
  ∃ wi, PI X tg iter wi ∧ ∀ (ρ : Rho) (B : Addr → Prop) (W : Wn) (σ : Sl) (σc : L2.St) (H : Hp) (g : Rg) (R : It → Hp → Prop), W.map (·.1) = Wk →
    Rel (ct X ρ B) W σ σc H g → PstI (ct X ρ B) W H (d σ g) R (fun cls dd H' => Wx cls dd σc H') → wi σc H R
theorem PstI.from {c : Ct} {W : Wn} {H H1 : Hp} {r : Res (List PV)} {R : It → Hp → Prop} {E : XK} (e : Ext c H H1) (h : PstI c W H r R E) : PstI c W H1 r R E := by
  cases r with
  | ok p g' => exact fun J H' e' k' q => h J H' (e.trans e') k' q
  | exc a b cc d => exact fun cls d H' e' k' q => h cls d H' (e.trans e') k' q
  | stuck => exact h
theorem PstI.bind {c : Ct} {W : Wn} {H : Hp} {m1 : Md} {r : Res PV} {f : PV → Rg → Res (List PV)} {R : It → Hp → Prop} {Q1 : VK} {E : XK} (h : PstI c W H (r.bind f) R E)
    (k : ∀ p g1 v H1, r = .ok p g1 → Ext c H H1 → RgOk c H1 g1 → Val (c.ban W) H H1 p v m1 → PstI c W H1 (f p g1) R E → Q1 v H1) : Pst c W H m1 r Q1 E := by
  cases r with
  | ok p g1 => exact fun v H1 e k1 q => k p g1 v H1 rfl e k1 q (PstI.from e h)
  | exc a b cc d => exact h
  | stuck => exact h
theorem PstI.bindL {c : Ct} {W : Wn} {H : Hp} {m1 : Md} {n1 : Nat} {r : Res (List PV)} {f : List PV → Rg → Res (List PV)} {R : It → Hp → Prop} {Q1 : List V → Hp → Prop} {E : XK} (h : PstI c W H (r.bind f) R E)
    (k : ∀ p g1 v H1, r = .ok p g1 → Ext c H H1 → RgOk c H1 g1 → ValL (c.ban W) H1 p v m1 → p.length = n1 → PstI c W H1 (f p g1) R E → Q1 v H1) : PstL c W H m1 n1 r Q1 E := by
  cases r with
  | ok p g1 => exact fun v H1 e k1 q l => k p g1 v H1 rfl e k1 q l (PstI.from e h)
  | exc a b cc d => exact h
  | stuck => exact h
/-- the items of a list -/
theorem RepL.at {c : Ct} {H : Hp} {l : List PV} {xs : List V} (k : RepL c H l xs) {i : Nat} (hi : i < l.length) : ∃ p v, l[i]? = some p ∧ xs[i]? = some v ∧ Rep c H p v := by
  obtain ⟨v, e, r⟩ := k.get (List.getElem?_eq_getElem hi)
  exact ⟨_, v, List.getElem?_eq_getElem hi, e, r⟩
theorem walks_list {c : Ct} {H : Hp} {K : PySem.W.Frag} {a : Addr} {l : List PV} {xs : List V} (h : LAt c H a xs) (k : RepL c H l xs) : Walks c H (Itl K a) l where
  go := fun H' i s hi => by
    obtain ⟨p, v, e1, e2, r⟩ := k.at hi
    exact ⟨xs, v, .of (s _ _ h.2 h.1), e2⟩
  yld := fun H' i x H2 B' s hi y hd hb => by
    obtain ⟨rfl, y⟩ := y
    obtain ⟨p, v, e1, e2, r⟩ := k.at hi
    have := y xs (.of (s _ _ h.2 h.1))
    rw [e2] at this; cases this
    exact ⟨.refl _, p, e1, r.later s hb⟩
  stop := fun H' i s hi => ⟨xs, .of (s _ _ h.2 h.1), by rw [← k.length]; exact hi⟩
theorem tat_stay {c : Ct} {H H' : Hp} {a : Addr} {xs : List V} (h : TAt c H a xs) (s : Stay c H H') : SqT c.K H' a xs := h.elim (fun h => .of (s _ _ h.2 h.1)) False.elim
theorem walks_tup {c : Ct} {H : Hp} {a : Addr} {l : List PV} {xs : List V} (h : TAt c H a xs) (k : RepL c H l xs) : Walks c H (Itt c.K a) l where
  go := fun H' i s hi => by
    obtain ⟨p, v, e1, e2, r⟩ := k.at hi
    exact ⟨xs, v, tat_stay h s, e2⟩
  yld := fun H' i x H2 B' s hi y hd hb => by
    obtain ⟨rfl, y⟩ := y
    obtain ⟨p, v, e1, e2, r⟩ := k.at hi
    have := y xs (tat_stay h s)
    rw [e2] at this; cases this
    exact ⟨.refl _, p, e1, r.later s hb⟩
  stop := fun H' i s hi => ⟨xs, tat_stay h s, by rw [← k.length]; exact hi⟩
def rngP (lo : Int) (n : Nat) : List PV := (List.range n).map fun i => .int (lo + (i : Nat))
theorem walks_range {c : Ct} {H : Hp} {lo : Int} {n : Nat} : Walks c H (Itr lo n) (rngP lo n) where
  go := fun H' i s hi => show i < n by simpa [rngP] using hi
  yld := fun H' i x H2 B' s hi y hd hb => by
    obtain ⟨rfl, rfl⟩ := y
    have hi : i < n := by simpa [rngP] using hi
    exact ⟨.refl _, .int (lo + i), by simp [rngP, hi], rfl⟩
  stop := fun H' i s hi => show n ≤ i by simpa [rngP] using hi
def enumP (l : List PV) : List PV := l.mapIdx fun i p => .tup [.int (i : Nat), p]
theorem walks_enum {c : Ct} {H : Hp} {K : PySem.W.Frag} {a : Addr} {l : List PV} {xs : List V} (h : LAt c H a xs) (k : RepL c H l xs) : Walks c H (Ite K a) (enumP l) where
  go := fun H' i s hi => by
    obtain ⟨p, v, e1, e2, r⟩ := k.at (by simpa [enumP] using hi)
    exact ⟨xs, v, .of (s _ _ h.2 h.1), e2⟩
  yld := fun H' i x H2 B' s hi y hd hb => by
    obtain ⟨T, z, rfl, hT, rfl, y⟩ := y
    obtain ⟨p, v, e1, e2, r⟩ := k.at (show i < l.length by simpa [enumP] using hi)
    have := y xs (.of (s _ _ h.2 h.1))
    rw [e2] at this; cases this
    refine ⟨same_new hT, .tup [.int (i : Nat), p], by simp [enumP, e1], T, _, rfl, .inl ⟨fun z => hd _ z hT, upd_same⟩, _, _, rfl, rfl, _, _, rfl, ?_, rfl⟩
    exact repSame (same_new hT) (r.later s hb)
  stop := fun H' i s hi => ⟨xs, .of (s _ _ h.2 h.1), by rw [← k.length]; simpa [enumP] using hi⟩
def zipP (l m : List PV) : List PV := (l.zip m).map fun q => .tup [q.1, q.2]
theorem walks_zip {c : Ct} {H : Hp} {K : PySem.W.Frag} {a b : Addr} {l m : List PV} {xs ys : List V} (h : LAt c H a xs) (k : RepL c H l xs) (h' : LAt c H b ys) (k' : RepL c H m ys) : Walks c H (Itz K a b) (zipP l m) where
  go := fun H' i s hi => by
    have hi : i < l.length ∧ i < m.length := by simp [zipP, List.length_zip] at hi; omega
    obtain ⟨p, v, e1, e2, r⟩ := k.at hi.1
    obtain ⟨p', v', e1', e2', r'⟩ := k'.at hi.2
    exact ⟨xs, ys, v, v', .of (s _ _ h.2 h.1), .of (s _ _ h'.2 h'.1), e2, e2'⟩
  yld := fun H' i x H2 B' s hi y hd hb => by
    obtain ⟨T, z, z', rfl, hT, rfl, y, y'⟩ := y
    have hi : i < l.length ∧ i < m.length := by simp [zipP, List.length_zip] at hi; omega
    obtain ⟨p, v, e1, e2, r⟩ := k.at hi.1
    obtain ⟨p', v', e1', e2', r'⟩ := k'.at hi.2
    have := y xs (.of (s _ _ h.2 h.1))
    rw [e2] at this; cases this
    have := y' ys (.of (s _ _ h'.2 h'.1))
    rw [e2'] at this; cases this
    refine ⟨same_new hT, .tup [p, p'], ?_, T, _, rfl, .inl ⟨fun z => hd _ z hT, upd_same⟩, _, _, rfl, repSame (same_new hT) (r.later s hb), _, _, rfl, repSame (same_new hT) (r'.later s hb), rfl⟩
    simp only [zipP, List.getElem?_map]
    rw [List.getElem?_zip_eq_some (z := (p, p')) |>.mpr ⟨e1, e1'⟩]
    rfl
  stop := fun H' i s hi => ⟨xs, ys, .of (s _ _ h.2 h.1), .of (s _ _ h'.2 h'.1), by
    rw [← k.length, ← k'.length]
    simp [zipP, List.length_zip] at hi
    omega⟩
section
variable {X : Cx} {Wx : WX} {Wk : List Nat} {tg : Expr}
def dItL (d : Den) : DenL := fun σ g => (d σ g).bind fun p g => match p with | .lst l => .ok l g | _ => .stuck
def dItT (d : Den) : DenL := fun σ g => (d σ g).bind fun p g => match p with | .tup l => .ok l g | _ => .stuck
theorem si_list {e : Expr} {d : Den} (h : SE X Wx Wk .rep e d) : SI X Wx Wk tg e (dItL d) := by
  obtain ⟨t, ht, hs⟩ := h
  refine ⟨_, pi_list ht, fun ρ B W σ σc H g R hW Rl p => ?_⟩
  refine hs ρ B W σ σc H g _ hW Rl (PstI.bind p fun x g1 v H1 _ e1 k1 q1 p => ?_)
  cases x with
  | lst l =>
    obtain ⟨a, xs, rfl, h1, k⟩ := q1
    exact ⟨a, rfl, ⟨xs, h1.sq⟩, p _ H1 (Ext.refl _ _) k1 (walks_list (c := (ct X ρ B).ban W) h1 k)⟩
  | _ => exact p.elim
theorem si_tup {e : Expr} {d : Den} (h : SE X Wx Wk .rep e d) : SI X Wx Wk tg e (dItT d) := by
  obtain ⟨t, ht, hs⟩ := h
  refine ⟨_, pi_tup ht, fun ρ B W σ σc H g R hW Rl p => ?_⟩
  refine hs ρ B W σ σc H g _ hW Rl (PstI.bind p fun x g1 v H1 _ e1 k1 q1 p => ?_)
  cases x with
  | tup l =>
    obtain ⟨a, xs, rfl, h1, k⟩ := q1
    exact ⟨a, rfl, ⟨xs, h1.sq⟩, p _ H1 (Ext.refl _ _) k1 (walks_tup (c := (ct X ρ B).ban W) h1 k)⟩
  | _ => exact p.elim
theorem or_pi {e : Expr} {t u : TI} (h : PI X tg e t) (h' : PI X tg e u) : PI X tg e (fun σ H Q => t σ H Q ∨ u σ H Q) := ⟨fun pins s σ H Q I q => q.elim (h.run pins s σ H Q I) (h'.run pins s σ H Q I)⟩
/-- a list or a tuple -/
def dIt (d : Den) : DenL := fun σ g => (d σ g).bind fun p g => match p with | .lst l => .ok l g | .tup l => .ok l g | _ => .stuck
theorem si_seq {e : Expr} {d : Den} (h : SE X Wx Wk .rep e d) : SI X Wx Wk tg e (dIt d) := by
  obtain ⟨t1, h1, s1⟩ := si_list (tg := tg) h
  obtain ⟨t2, h2, s2⟩ := si_tup (tg := tg) h
  refine ⟨_, or_pi h1 h2, fun ρ B W σ σc H g R hW Rl p => ?_⟩
  by_cases ht : ∃ l g1, d σ g = .ok (.tup l) g1
  · obtain ⟨l, g1, ht⟩ := ht
    refine .inr (s2 ρ B W σ σc H g R hW Rl ?_)
    have e : dItT d σ g = dIt d σ g := by unfold dItT dIt; rw [ht]; rfl
    rw [e]; exact p
  · refine .inl (s1 ρ B W σ σc H g R hW Rl ?_)
    have e : dItL d σ g = dIt d σ g := by
      unfold dItL dIt
      cases hd : d σ g with
      | ok x g1 =>
        cases x with
        | tup l => exact absurd ⟨l, g1, hd⟩ ht
        | _ => rfl
      | exc _ _ _ _ => rfl
      | stuck => rfl
    rw [e]; exact p
def dRng1 (d : DenL) : DenL := fun σ g => (d σ g).bind fun ps g => match ps with
  | [.int j] => if j ≤ 1000 ∧ -1000 ≤ j then .ok (rngP 0 j.toNat) g else .stuck
  | _ => .stuck
theorem si_range1 {a : Expr} {d : DenL} {p pos : Pos} (hm : X.mg "range" = none) (ha : SA X Wx Wk .brw [a] d) (hg : Gl X "range" := by rfl) (hs : starEach [a] X.env = [(false, eval a X.env)] := by rfl) : SI X Wx Wk tg (.Call (.Name "range" p) [a] [] pos) (dRng1 d) := by
  obtain ⟨t, ht, hh⟩ := ha
  refine ⟨_, pi_range1 hg hm ht hs, fun ρ B W σ σc H g R hW Rl p => ?_⟩
  refine hh ρ B W σ σc H g _ hW Rl (PstI.bindL p fun ps g1 vs H1 _ e1 k1 q1 l p => ?_)
  cases ps with
  | nil => exact p.elim
  | cons x r =>
    cases r with
    | cons _ _ => cases x <;> exact p.elim
    | nil =>
      cases x with
      | int j =>
        have p : PstI (ct X ρ B) W H1 (if j ≤ 1000 ∧ -1000 ≤ j then .ok (rngP 0 j.toNat) g1 else .stuck) R _ := p
        by_cases hj : j ≤ 1000 ∧ -1000 ≤ j
        · rw [if_pos hj] at p
          obtain ⟨v, rfl, q⟩ := RepLB.one q1
          exact ⟨j, by rw [q.int], by omega, by omega, p _ H1 (Ext.refl _ _) k1 walks_range⟩
        · rw [if_neg hj] at p; exact p.elim
      | _ => exact p.elim
def dRng2 (d : DenL) : DenL := fun σ g => (d σ g).bind fun ps g => match ps with
  | [.int i, .int j] => if i ≤ 1000 ∧ -1000 ≤ i ∧ j ≤ 1000 ∧ -1000 ≤ j then .ok (rngP i (j - i).toNat) g else .stuck
  | _ => .stuck
theorem si_range2 {a b : Expr} {d : DenL} {p pos : Pos} (hm : X.mg "range" = none) (ha : SA X Wx Wk .brw [a, b] d) (hg : Gl X "range" := by rfl) (hs : starEach [a, b] X.env = [(false, eval a X.env), (false, eval b X.env)] := by rfl) (hs2 : starEach [b] X.env = [(false, eval b X.env)] := by rfl) : SI X Wx Wk tg (.Call (.Name "range" p) [a, b] [] pos) (dRng2 d) := by
  obtain ⟨t, ht, hh⟩ := ha
  refine ⟨_, pi_range2 hg hm ht hs hs2, fun ρ B W σ σc H g R hW Rl p => ?_⟩
  refine hh ρ B W σ σc H g _ hW Rl (PstI.bindL p fun ps g1 vs H1 _ e1 k1 q1 l p => ?_)
  by_cases hp : ∃ i j, ps = [.int i, .int j]
  · obtain ⟨i, j, rfl⟩ := hp
    have p : PstI (ct X ρ B) W H1 (if i ≤ 1000 ∧ -1000 ≤ i ∧ j ≤ 1000 ∧ -1000 ≤ j then .ok (rngP i (j - i).toNat) g1 else .stuck) R _ := p
    by_cases hj : i ≤ 1000 ∧ -1000 ≤ i ∧ j ≤ 1000 ∧ -1000 ≤ j
    · rw [if_pos hj] at p
      obtain ⟨v, u, rfl, q, q'⟩ := RepLB.two q1
      exact ⟨i, j, by rw [q.int, q'.int], ⟨by omega, by omega, by omega, by omega⟩, p _ H1 (Ext.refl _ _) k1 walks_range⟩
    · rw [if_neg hj] at p; exact p.elim
  · exfalso
    split at p
    · exact hp ⟨_, _, rfl⟩
    · exact p.elim
def dEnum (d : DenL) : DenL := fun σ g => (d σ g).bind fun ps g => match ps with
  | [.lst l] => .ok (enumP l) g
  | _ => .stuck
theorem si_enum {e : Expr} {elts : List Expr} {kk} {tpos p pos : Pos} {d : DenL} (hm : X.mg "enumerate" = none) (ha : SA X Wx Wk .rep [e] d) (hg : Gl X "enumerate" := by rfl) (hs : starEach [e] X.env = [(false, eval e X.env)] := by rfl) :
    SI X Wx Wk (.Tuple elts kk tpos) (.Call (.Name "enumerate" p) [e] [] pos) (dEnum d) := by
  obtain ⟨t, ht, hh⟩ := ha
  refine ⟨_, pi_enum hg hm ht hs, fun ρ B W σ σc H g R hW Rl p => ?_⟩
  refine hh ρ B W σ σc H g _ hW Rl (PstI.bindL p fun ps g1 vs H1 _ e1 k1 q1 l p => ?_)
  by_cases hp : ∃ l, ps = [.lst l]
  · obtain ⟨l, rfl⟩ := hp
    obtain ⟨v, r, rfl, ⟨a, xs, rfl, h1, k⟩, h2⟩ := q1
    have h2 : r = [] := h2
    subst h2
    exact ⟨a, xs, rfl, h1.sq, p _ H1 (Ext.refl _ _) k1 (walks_enum (c := (ct X ρ B).ban W) h1 k)⟩
  · exfalso
    split at p
    · exact hp ⟨_, rfl⟩
    · exact p.elim
def dZip (d : DenL) : DenL := fun σ g => (d σ g).bind fun ps g => match ps with
  | [.lst l, .lst m] => .ok (zipP l m) g
  | _ => .stuck
theorem si_zip {e e2 : Expr} {elts : List Expr} {kk} {tpos p pos : Pos} {d : DenL} (hm : X.mg "zip" = none) (ha : SA X Wx Wk .rep [e, e2] d) (hg : Gl X "zip" := by rfl) (hs : starEach [e, e2] X.env = (false, eval e X.env) :: starEach [e2] X.env := by rfl) (hpl : (backTo pos (starEach [e2] X.env)).any (·.1) = false := by rfl) :
    SI X Wx Wk (.Tuple elts kk tpos) (.Call (.Name "zip" p) [e, e2] [] pos) (dZip d) := by
  obtain ⟨t, ht, hh⟩ := ha
  refine ⟨_, pi_zip hg hm ht hs hpl, fun ρ B W σ σc H g R hW Rl p => ?_⟩
  refine hh ρ B W σ σc H g _ hW Rl (PstI.bindL p fun ps g1 vs H1 _ e1 k1 q1 l p => ?_)
  by_cases hp : ∃ l m, ps = [.lst l, .lst m]
  · obtain ⟨l, m, rfl⟩ := hp
    obtain ⟨v, r, rfl, ⟨a, xs, rfl, h1, k⟩, v', r', rfl, ⟨b, ys, rfl, h1', k'⟩, h2⟩ := q1
    have h2 : r' = [] := h2
    subst h2
    exact ⟨a, b, xs, ys, rfl, h1.sq, h1'.sq, p _ H1 (Ext.refl _ _) k1 (walks_zip (c := (ct X ρ B).ban W) h1 k h1' k')⟩
  · exfalso
    split at p
    · exact hp ⟨_, _, rfl⟩
    · exact p.elim
end
end Tr

namespace Tr
open PySem PySem.Spec PyProof.Rows L2

section
variable {X : Cx} {E : XK} {fz Wk Wk' Wk1 : List Nat} {md : Md}
def loopS (gd : DenG) (body : DenS) : List PV → Sl → Rg → SRes
  | [], σ, g => .next σ g
  | p :: r, σ, g => match gd p σ with
    | some σ1 => (match body σ1 g with
      | .next σ2 g2 => loopS gd body r σ2 g2
      | x => x)
    | none => .stuck
def dFor (di : DenL) (gd : DenG) (body : DenS) : DenS := fun σ g => (di σ g).bindS fun items g => loopS gd body items σ g
theorem PstS.bindI {c : Ct} {W : Wn} {H : Hp} {Wk' : List Nat} {md : Md} {r : Res (List PV)} {f : List PV → Rg → SRes} {D : Ends} {R : It → Hp → Prop} {E : XK} (h : PstS c W H Wk' md (r.bindS f) D E)
    (k : ∀ p g1 J H1, r = .ok p g1 → Ext c H H1 → RgOk c H1 g1 → Walks (c.ban W) H1 J p → PstS c W H1 Wk' md (f p g1) D E → R J H1) : PstI c W H r R E := by
  cases r with
  | ok p g1 => exact fun J H1 e k1 q => k p g1 J H1 rfl e k1 q (PstS.from e.w k1 (fun b hb => .inl hb) h)
  | exc a b cc d => exact fun cls dd H' e k1 q => h cls dd H' e.w k1 q.unban
  | stuck => exact h
theorem for_read {wi : TI} {t : TG} {tb : TS} {di : DenL} {gd : DenG} {db : DenS} {gs : List Nat} {ρ : Rho} {B : Addr → Prop} {W0 : Wn} {σ0 : Sl} {σc0 : L2.St} {H0 : Hp} {g0 : Rg} {D : Ends} {J' : L2.St → Prop}
    (hdi : ∀ (R : It → Hp → Prop), PstI (ct X ρ B) W0 H0 (di σ0 g0) R (fun cls dd H' => WE0 E cls dd σc0 H') → wi σc0 H0 R)
    (hh : ∀ (ρ : Rho) (B : Addr → Prop) (W : Wn) (σ σ' : Sl) (σc : L2.St) (H : Hp) (g : Rg) (p : PV) (v : V) (Q : L2.St → Hp → Prop), W.map (·.1) = Wk → Rel (ct X ρ B) W σ σc H g → Rep ((ct X ρ B).ban W) H p v → gd p σ = some σ' → (∀ σc', Rel (ct X ρ B) W σ' σc' H g → Agree gs σc σc' → Q σc' H) → t v σc H Q)
    (hhb : ∀ (ρ : Rho) (B : Addr → Prop) (W : Wn) (σ : Sl) (σc : L2.St) (H : Hp) (g : Rg) (D : Ends) (J : L2.St → Prop), W.map (·.1) = Wk → Rel (ct X ρ B) W σ σc H g → JC fz J → J σc → PstS (ct X ρ B) W H Wk md (db σ g) (jD D J) E → tb D σc H)
    (hz : ∀ i ∈ fz, i ∉ gs) (hW0 : W0.map (·.1) = Wk) (R0 : Rel (ct X ρ B) W0 σ0 σc0 H0 g0) (jc : JC fz J') (j0 : J' σc0) (p : PstS (ct X ρ B) W0 H0 Wk md (dFor di gd db σ0 g0) (jD D J') E) : tFor wi t tb D σc0 H0 := by
  refine hdi _ (PstS.bindI p fun items g1 J H1 _ e1 k1 wk p => ?_)
  have R1 := R0.ext e1 k1
  refine ⟨fun i m σc H => m = items.length - i ∧ i ≤ items.length ∧ J' σc ∧ ∃ W σ g, W.map (·.1) = Wk ∧ Rel (ct X ρ B) W σ σc H g ∧ ExtW (ct X ρ B) W0 H1 H ∧ NewW W0 H1 W ∧ PstS (ct X ρ B) W H Wk md (loopS gd db (items.drop i) σ g) (jD D J') E,
    ⟨items.length, by simp, Nat.zero_le _, j0, W0, σ0, g1, hW0, R1, (Ext.refl _ _).w, .refl _ _, by simpa using p⟩, ?_⟩
  rintro i m σc H ⟨rfl, hi, j, W, σ, g, hW, R, ex, nw, p⟩
  have stay : Stay ((ct X ρ B).ban W0) H1 H := fun b o h n => ex b o h (fun z => n (.inl (R0.rb _ z))) fun z => n (.inr z)
  by_cases hlt : i < items.length
  · refine .inr ⟨wk.go H i stay hlt, fun σ' H' => ∃ m', m' < items.length - i ∧ (m' = items.length - (i + 1) ∧ i + 1 ≤ items.length ∧ J' σ' ∧ ∃ W σ g, W.map (·.1) = Wk ∧ Rel (ct X ρ B) W σ σ' H' g ∧ ExtW (ct X ρ B) W0 H1 H' ∧ NewW W0 H1 W ∧ PstS (ct X ρ B) W H' Wk md (loopS gd db (items.drop (i + 1)) σ g) (jD D J') E), fun σ' H' h => h, fun x H' y => ?_⟩
    obtain ⟨sm, q, eq, rq⟩ := wk.yld H i x H' ((ct X ρ B).ban W).B stay hlt y R.wdom (fun b hb => hb.elim (fun z => .inl (.inl z)) fun z => (nw b z).elim (fun z => .inl (.inr z)) .inr)
    have R' := R.ext (Ext.of sm) (R.rg.same sm)
    have ed : items.drop i = q :: items.drop (i + 1) := by
      rw [List.drop_eq_getElem_cons hlt]
      rw [List.getElem?_eq_getElem hlt] at eq
      cases eq
      rfl
    rw [ed] at p
    have p : PstS (ct X ρ B) W H Wk md (match gd q σ with | some σ1 => (match db σ1 g with | .next σ2 g2 => loopS gd db (items.drop (i + 1)) σ2 g2 | x => x) | none => .stuck) (jD D J') E := p
    cases eg : gd q σ with
    | none => rw [eg] at p; exact p.elim
    | some σ1 =>
      rw [eg] at p
      have p : PstS (ct X ρ B) W H Wk md (match db σ1 g with | .next σ2 g2 => loopS gd db (items.drop (i + 1)) σ2 g2 | x => x) (jD D J') E := p
      have p := PstS.from (W1 := W) (Ext.of sm).w R'.rg (.refl _ _) p
      refine hh ρ B W σ σ1 σc H' g q x _ hW R' rq eg fun σc1 R1' ag => ?_
      refine hhb ρ B W σ1 σc1 H' g _ J' hW R1' jc (jc.agree ag hz j) ?_
      cases eb : db σ1 g with
      | next σ2 g2 =>
        rw [eb] at p
        intro W2 σc2 H2 hW2 e2 n2 R2 j2
        have ex' : ExtW (ct X ρ B) W0 H1 H' := fun b o h n1 n2 => sm _ _ (ex b o h n1 n2)
        have nw' : NewW W0 H1 W := nw
        refine ⟨items.length - (i + 1), by omega, rfl, hlt, j2, W2, σ2, g2, hW2, R2, ex'.trans nw' e2, NewW.trans ex' R'.rg nw' n2, ?_⟩
        exact PstS.from e2 R2.rg n2 p
      | ret _ _ => rw [eb] at p; exact p
      | exc _ _ _ _ => rw [eb] at p; exact p
      | stuck => rw [eb] at p; exact p
  · have e : i = items.length := by omega
    subst e
    refine .inl ⟨wk.stop H _ stay (Nat.le_refl _), ?_⟩
    rw [List.drop_length] at p
    exact p W σc H hW (Ext.refl _ _).w (.refl _ _) R j
theorem ss_for {tg iter : Expr} {body : List Stmt} {pos : Pos} {di : DenL} {gd : DenG} {db : DenS} {gs : List Nat} (hp : PassesOwn (model X.prog X.w) X.A X.env X.xe) (hc : X.calm = true) (hi : SI X (WE0 E) Wk tg iter di) (hg : SG X Wk gs tg gd) (hb : SSs X E fz Wk Wk md body db)
    (hz : ∀ i ∈ fz, i ∉ gs := by decide) (hs : ∀ x, foldedSetIterable iter X.env x = pure x := by intro _; rfl) : SS X E fz Wk Wk md (.For tg iter body [] pos) (dFor di gd db) := by
  obtain ⟨wi, hwi, hdi⟩ := hi
  obtain ⟨t, ht, hh⟩ := hg
  obtain ⟨tb, htb, hhb⟩ := hb
  refine ⟨_, ps_for hp hc hwi ht htb hs, fun ρ B W0 σ0 σc0 H0 g0 D J' hW0 R0 jc j0 p => ?_⟩
  exact for_read (fun R1 => hdi ρ B W0 σ0 σc0 H0 g0 R1 hW0 R0) hh hhb hz hW0 R0 jc j0 p
def whileS (c : DenT) (body : DenS) : Nat → Sl → Rg → SRes
  | 0, _, _ => .stuck
  | n + 1, σ, g => (c σ g).bindS fun t g => if t = true then (match body σ g with
    | .next σ2 g2 => whileS c body n σ2 g2
    | x => x) else .next σ g
def dWhile (n : Nat) (c : DenT) (body : DenS) : DenS := fun σ g => whileS c body n σ g
theorem ss_while {n : Nat} {c : Expr} {body : List Stmt} {pos : Pos} {dc : DenT} {db : DenS} (hp : PassesOwn (model X.prog X.w) X.A X.env X.xe) (hc : ST X (WE0 E) Wk c dc) (hb : SSs X E fz Wk Wk md body db) : SS X E fz Wk Wk md (.While c body [] pos) (dWhile n dc db) := by
  obtain ⟨t, ht, hh⟩ := hc
  obtain ⟨tb, htb, hhb⟩ := hb
  refine ⟨_, ps_while hp ht htb, fun ρ B W0 σ0 σc0 H0 g0 D J hW0 R0 jc j0 p => ?_⟩
  refine ⟨fun m σc H => J σc ∧ ∃ W σ g, W.map (·.1) = Wk ∧ Rel (ct X ρ B) W σ σc H g ∧ PstS (ct X ρ B) W H Wk md (whileS dc db m σ g) (jD D J) E, ⟨n, j0, W0, σ0, g0, hW0, R0, p⟩, ?_⟩
  rintro m σc H ⟨j, W, σ, g, hW, R, p⟩
  cases m with
  | zero => exact p.elim
  | succ m =>
    refine hh ρ B W σ σc H g _ hW R (PstS.bindT p fun b g1 H1 _ e1 k1 p => ?_)
    have R1 := R.ext e1 k1
    cases b with
    | false => exact p W σc H1 hW (Ext.refl _ _).w (.refl _ _) R1 j
    | true =>
      refine ⟨fun σ' H' => ∃ m', m' < m + 1 ∧ J σ' ∧ ∃ W σ g, W.map (·.1) = Wk ∧ Rel (ct X ρ B) W σ σ' H' g ∧ PstS (ct X ρ B) W H' Wk md (whileS dc db m' σ g) (jD D J) E, fun σ' H' h => h, ?_⟩
      refine hhb ρ B W σ σc H1 g1 _ J hW R1 jc j ?_
      have p : PstS (ct X ρ B) W H1 Wk md (match db σ g1 with | .next σ2 g2 => whileS dc db m σ2 g2 | x => x) (jD D J) E := p
      cases eb : db σ g1 with
      | next σ2 g2 =>
        rw [eb] at p
        intro W2 σc2 H2 hW2 e2 n2 R2 j2
        exact ⟨m, Nat.lt_succ_self m, j2, W2, σ2, g2, hW2, R2, PstS.from e2 R2.rg n2 p⟩
      | ret _ _ => rw [eb] at p; exact p
      | exc _ _ _ _ => rw [eb] at p; exact p
      | stuck => rw [eb] at p; exact p
end
def wipeP (σ : Sl) : List Nat → Sl
  | [] => σ
  | v :: vs => (wipeP σ vs).set v none
theorem wipeP_len (σ : Sl) : ∀ vs, (wipeP σ vs).length = σ.length
  | [] => rfl
  | v :: vs => by unfold wipeP; rw [List.length_set, wipeP_len σ vs]
theorem wipeP_some {σ : Sl} {i : Nat} {p : PV} : ∀ {vs : List Nat}, (wipeP σ vs)[i]? = some (some p) → σ[i]? = some (some p) ∧ i ∉ vs
  | [], h => ⟨h, by simp⟩
  | v :: vs, h => by
    unfold wipeP at h
    by_cases hi : v = i
    · subst hi
      by_cases hv : v < (wipeP σ vs).length
      · rw [List.getElem?_set_self hv] at h; cases h
      · rw [List.getElem?_eq_none (by simpa using hv)] at h; cases h
    · rw [List.getElem?_set_ne hi] at h
      obtain ⟨h1, h2⟩ := wipeP_some h
      exact ⟨h1, by simp only [List.mem_cons, not_or]; exact ⟨fun e => hi e.symm, h2⟩⟩
theorem wipe_keep {σ : L2.St} {i : Nat} : ∀ {vs : List Nat}, i ∉ vs → (wipe σ vs)[i]? = σ[i]?
  | [], _ => rfl
  | v :: vs, h => by
    simp only [List.mem_cons, not_or] at h
    unfold wipe
    rw [List.getElem?_set_ne (fun e => h.1 e.symm)]
    exact wipe_keep h.2
theorem wipeP_keep {σ : Sl} {i : Nat} : ∀ {vs : List Nat}, i ∉ vs → (wipeP σ vs)[i]? = σ[i]?
  | [], _ => rfl
  | v :: vs, h => by
    simp only [List.mem_cons, not_or] at h
    unfold wipeP
    rw [List.getElem?_set_ne (fun e => h.1 e.symm)]
    exact wipeP_keep h.2
theorem wipe_none {σ : L2.St} {i : Nat} (hi : i < σ.length) : ∀ {vs : List Nat}, i ∈ vs → (wipe σ vs)[i]? = some none
  | [], h => by cases h
  | v :: vs, h => by
    unfold wipe
    by_cases hv : v = i
    · subst hv; rw [List.getElem?_set_self (by rw [wipe_length]; exact hi)]
    · rw [List.getElem?_set_ne hv]
      exact wipe_none hi ((List.mem_cons.mp h).resolve_left fun e => hv e.symm)
theorem wipe_eq {σ σ' : L2.St} {vs : List Nat} (hl : σ'.length = σ.length) (h : ∀ j, j ∉ vs → σ'[j]? = σ[j]?) : wipe σ' vs = wipe σ vs := by
  refine List.ext_getElem? fun j => ?_
  by_cases hj : j ∈ vs
  · by_cases hs : j < σ.length
    · rw [wipe_none hs hj, wipe_none (by rw [hl]; exact hs) hj]
    · rw [List.getElem?_eq_none (by rw [wipe_length]; omega), List.getElem?_eq_none (by rw [wipe_length]; omega)]
  · rw [wipe_keep hj, wipe_keep hj]; exact h j hj
theorem Rel.wipe {c : Ct} {W : Wn} {σ : Sl} {σc : L2.St} {H : Hp} {g : Rg} {vs : List Nat} (r : Rel c W σ σc H g) (hv : ∀ i ∈ vs, i ∉ W.map (·.1)) : Rel c W (wipeP σ vs) (wipe σc vs) H g where
  len := by rw [wipeP_len, wipe_length]; exact r.len
  rg := r.rg
  rb := r.rb
  dom := r.dom
  ndk := r.ndk
  nda := r.nda
  wb := r.wb
  val := fun i p h n => by
    obtain ⟨h1, h2⟩ := wipeP_some h
    obtain ⟨v, h3, h4⟩ := r.val i p h1 n
    exact ⟨v, by rw [wipe_keep h2]; exact h3, h4⟩
  own := fun w hw => by
    have hn : w.1 ∉ vs := fun z => hv _ z (List.mem_map.mpr ⟨w, hw, rfl⟩)
    obtain ⟨q, h1, h2, h3⟩ := r.own w hw
    exact ⟨q, by rw [wipeP_keep hn]; exact h1, by rw [wipe_keep hn]; exact h2, h3⟩
/-- one more address is banned, a new one -/
theorem Rel.ban1 {c : Ct} {W : Wn} {σ : Sl} {σc : L2.St} {H : Hp} {g : Rg} {D : Addr} {o : HO} (r : Rel c W σ σc H g) (hD : H D = none) : Rel (c.ban1 D) W σ σc (L2.upd H D o) g := by
  have s := same_new (o := o) hD
  have r' := r.ext (Ext.of s) (r.rg.same s)
  have bn : ∀ b, ((c.ban1 D).ban W).B b → (c.ban W).B b ∨ H b = none := fun b hb => by
    rcases hb with (hb | hb) | hb
    · exact .inl (.inl hb)
    · exact .inr (by rw [hb]; exact hD)
    · exact .inl (.inr hb)
  refine ⟨r.len, r'.rg, fun b hb => .inl (r.rb b hb), fun b hb => ?_, r.ndk, r.nda, fun w hw z => ?_, fun i p h n => ?_, fun w hw => ?_⟩
  · rcases hb with hb | hb
    · exact r'.dom b hb
    · rw [hb, upd_same]; exact fun z => nomatch z
  · rcases z with z | z
    · exact r.wb w hw z
    · exact r.wdom w.2 (.inr (List.mem_map.mpr ⟨w, hw, rfl⟩)) (by rw [z]; exact hD)
  · obtain ⟨v, h1, h2⟩ := r.val i p h n
    exact ⟨v, h1, repSame (c := (c.ban1 D).ban W) s (Rep.ban (c := c.ban W) bn h2)⟩
  · obtain ⟨q, h1, h2, h3⟩ := r.own w hw
    exact ⟨q, h1, h2, ownSame (c := (c.ban1 D).ban W) s (Own.ban (c := c.ban W) bn h3)⟩
/-- a banned object, not owned here, is changed -/
theorem Rel.updB {c : Ct} {W : Wn} {σ : Sl} {σc : L2.St} {H : Hp} {g : Rg} {D : Addr} {o : HO} (r : Rel c W σ σc H g) (hD : c.B D) (hR : ¬ c.R D) (hn : ∀ u, H D = some u → NoTab u) : Rel c W σ σc (L2.upd H D o) g := by
  have aw : ∀ b u, H b = some u → ¬ (c.ban W).B b → L2.upd H D o b = some u := fun b u hb n => by
    rw [upd_ne (fun e => n (by rw [e]; exact .inl hD))]; exact hb
  refine ⟨r.len, r.rg.upd hR hn, r.rb, fun b hb => ?_, r.ndk, r.nda, r.wb, fun i p h n => ?_, fun w hw => ?_⟩
  · by_cases e : b = D
    · rw [e, upd_same]; exact fun z => nomatch z
    · rw [upd_ne e]; exact r.dom b hb
  · obtain ⟨v, h1, h2⟩ := r.val i p h n
    exact ⟨v, h1, Rep.away (c := c.ban W) aw h2⟩
  · obtain ⟨q, h1, h2, h3⟩ := r.own w hw
    refine ⟨q, h1, h2, Own.away (c := c.ban W) aw (upd_ne fun e => r.wb w hw (by rw [e]; exact hD)) h3⟩
/-- the tests of a comprehension -/
def STs (X : Cx) (Wx : WX) (Wk : List Nat) (es : List Expr) (d : DenT) : Prop :=
  ∃ t, PTs X es t ∧ ∀ (ρ : Rho) (B : Addr → Prop) (W : Wn) (σ : Sl) (σc : L2.St) (H : Hp) (g : Rg) (Q : Bool → Hp → Prop), W.map (·.1) = Wk →
    Rel (ct X ρ B) W σ σc H g → PstT (ct X ρ B) H W (d σ g) Q (fun cls dd H' => Wx cls dd σc H') → t σc H Q
def dYes : DenT := fun _ g => .ok true g
theorem sts_nil {X : Cx} {Wx : WX} {Wk : List Nat} : STs X Wx Wk [] dYes := ⟨_, pts_nil, fun ρ B W σ σc H g Q hW R p => p H (Ext.refl _ _) R.rg⟩
theorem sts_one {X : Cx} {Wx : WX} {Wk : List Nat} {e : Expr} {d : DenT} (h : ST X Wx Wk e d) : STs X Wx Wk [e] d := by
  obtain ⟨t, ht, hs⟩ := h
  exact ⟨t, pts_one ht, hs⟩
def compL (gd : DenG) (dt : DenT) (de : Den) (σ : Sl) : List PV → Rg → Res (List PV)
  | [], g => .ok [] g
  | p :: r, g => match gd p σ with
    | some σ1 => (noX (dt σ1 g)).bind fun b g1 => if b = true then (noX (de σ1 g1)).bind fun q g2 => (compL gd dt de σ r g2).bind fun qs g3 => .ok (q :: qs) g3
      else compL gd dt de σ r g1
    | none => .stuck
def dComp (di : DenL) (vs : List Nat) (gd : DenG) (dt : DenT) (de : Den) : Den := fun σ g => (di σ g).bind fun items g => if items.length ≤ sizeLine then (compL gd dt de (wipeP σ vs) items g).bind fun qs g => .ok (.lst qs) g else .stuck
/-- the wish that nothing is raised -/
abbrev Wx0 : WX := fun _ _ _ _ => False
theorem Pst.noX {c : Ct} {W : Wn} {H : Hp} {md : Md} {r : Res PV} {Q : VK} {E : XK} (h : Pst c W H md (noX r) Q E) : Pst c W H md r Q E0 := by
  cases r with
  | ok p g => exact h
  | exc a b cc d => exact h.elim
  | stuck => exact h
theorem PstT.noX {c : Ct} {W : Wn} {H : Hp} {r : Res Bool} {Q : Bool → Hp → Prop} {E : XK} (h : PstT c H W (noX r) Q E) : PstT c H W r Q E0 := by
  cases r with
  | ok p g => exact h
  | exc a b cc d => exact h.elim
  | stuck => exact h
section
variable {X : Cx} {E : XK} {Wx : WX} {fz Wk Wk' Wk1 : List Nat} {md : Md}
/-- the reading of a comprehension -/
theorem lc_read {vs gs : List Nat} {wi : TI} {tt : TT} {te : TE} {tg' : TG} {di : DenL} {gd : DenG} {dt : DenT} {de : Den} {ρ : Rho} {B : Addr → Prop} {W : Wn} {σ : Sl} {σc : L2.St} {H : Hp} {g : Rg} {Q : VK}
    (hdi : ∀ (R : It → Hp → Prop), PstI (ct X ρ B) W H (di σ g) R (fun cls dd H' => Wx cls dd σc H') → wi σc H R)
    (hg : ∀ (ρ : Rho) (B : Addr → Prop) (W : Wn) (σ σ' : Sl) (σc : L2.St) (H : Hp) (g : Rg) (p : PV) (v : V) (Q : L2.St → Hp → Prop), W.map (·.1) = Wk → Rel (ct X ρ B) W σ σc H g → Rep ((ct X ρ B).ban W) H p v → gd p σ = some σ' → (∀ σc', Rel (ct X ρ B) W σ' σc' H g → Agree gs σc σc' → Q σc' H) → tg' v σc H Q)
    (ht : ∀ (ρ : Rho) (B : Addr → Prop) (W : Wn) (σ : Sl) (σc : L2.St) (H : Hp) (g : Rg) (Q : Bool → Hp → Prop), W.map (·.1) = Wk → Rel (ct X ρ B) W σ σc H g → PstT (ct X ρ B) H W (dt σ g) Q E0 → tt σc H Q)
    (he : ∀ (ρ : Rho) (B : Addr → Prop) (W : Wn) (σ : Sl) (σc : L2.St) (H : Hp) (g : Rg) (Q : VK), W.map (·.1) = Wk → Rel (ct X ρ B) W σ σc H g → Pst (ct X ρ B) W H .rep (de σ g) Q E0 → te σc H Q)
    (hgs : ∀ j ∈ gs, j ∈ vs) (hvs : ∀ j ∈ vs, j ∉ Wk) (hW : W.map (·.1) = Wk) (R : Rel (ct X ρ B) W σ σc H g)
    (p : Pst (ct X ρ B) W H .frs (dComp di vs gd dt de σ g) Q (fun cls dd H' => Wx cls dd σc H')) : tLc wi tg' tt te vs σc H Q := by
  have p : Pst (ct X ρ B) W H .frs ((di σ g).bind fun items g => if items.length ≤ sizeLine then (compL gd dt de (wipeP σ vs) items g).bind fun qs g => .ok (.lst qs) g else .stuck) Q (fun cls dd H' => Wx cls dd σc H') := p
  have key : PstI (ct X ρ B) W H (di σ g) (fun J H1 => ∀ D, H1 D = none → ∃ W : Nat → Nat → Hp → Prop, (∃ m, W 0 m (upd H1 D (.lst []))) ∧ ∀ i m H, W i m H →
      (J.stop i H ∧ Q (.ref D) H) ∨ (J.go i H ∧ ∃ Nx : Hp → Prop, (∀ H', Nx H' → ∃ m', m' < m ∧ W (i + 1) m' H') ∧ ∀ x H', J.yld i H x H' → tg' x (wipe σc vs) H' fun σ2 H2 => wipe σ2 vs = wipe σc vs ∧ tt σ2 H2 fun b H3 =>
        if b = true then te σ2 H3 fun y H4 => ∃ acc, H4 D = some (.lst acc) ∧ acc.length < sizeLine ∧ Nx (upd H4 D (.lst (acc ++ [y]))) else Nx H3)) (fun cls dd H' => Wx cls dd σc H') := by
    cases hdd : di σ g with
    | stuck => rw [hdd] at p; exact p
    | exc k ns ps g' => rw [hdd] at p; exact p
    | ok items g1 =>
      rw [hdd] at p
      intro J H1 e1 k1 wk D hD
      have p : Pst (ct X ρ B) W H .frs (if items.length ≤ sizeLine then (compL gd dt de (wipeP σ vs) items g1).bind fun qs g => .ok (.lst qs) g else .stuck) Q (fun cls dd H' => Wx cls dd σc H') := p
      by_cases hsz : items.length ≤ sizeLine
      · rw [if_pos hsz] at p
        have R1 := (R.ext e1 k1).ban1 (o := .lst []) hD
        have RD : ¬ (ct X ρ B).R D := fun z => R1.dom D (.inl (R.rb _ z)) (by
          have := (R.ext e1 k1).dom D (R.rb _ z)
          exact absurd hD this)
        have bD : ((ct X ρ B).ban1 D).B D := .inr rfl
        have hDH : H D = none := by
          cases q : H D with
          | none => rfl
          | some o => exact absurd hD (dom_ext e1 k1 (by rw [q]; exact fun z => nomatch z))
        refine ⟨fun i m H' => m = items.length - i ∧ i ≤ items.length ∧ ∃ g' ps acc, Rel ((ct X ρ B).ban1 D) W σ σc H' g' ∧ (∀ b o, H1 b = some o → ¬ (ct X ρ B).R b → H' b = some o) ∧ H' D = some (.lst acc) ∧ ps.length ≤ i ∧ RepL (((ct X ρ B).ban1 D).ban W) H' ps acc ∧
          Pst (ct X ρ B) W H .frs ((compL gd dt de (wipeP σ vs) (items.drop i) g').bind fun qs g => .ok (.lst (ps ++ qs)) g) Q (fun cls dd H' => Wx cls dd σc H'),
          ⟨items.length, by simp, Nat.zero_le _, g1, [], [], R1, fun b o h n => same_new hD _ _ h, upd_same, Nat.le_refl _, rfl, by simpa using p⟩, ?_⟩
        rintro i m H' ⟨rfl, hi, g', ps, acc, R', ex, hDa, hps, ra, p⟩
        have stay : Stay ((ct X ρ B).ban W) H1 H' := fun b o h n => ex b o h fun z => n (.inl (R.rb _ z))
        by_cases hlt : i < items.length
        · refine .inr ⟨wk.go H' i stay hlt, fun H'' => ∃ m', m' < items.length - i ∧ m' = items.length - (i + 1) ∧ i + 1 ≤ items.length ∧ ∃ g' ps acc, Rel ((ct X ρ B).ban1 D) W σ σc H'' g' ∧ (∀ b o, H1 b = some o → ¬ (ct X ρ B).R b → H'' b = some o) ∧ H'' D = some (.lst acc) ∧ ps.length ≤ i + 1 ∧ RepL (((ct X ρ B).ban1 D).ban W) H'' ps acc ∧
            Pst (ct X ρ B) W H .frs ((compL gd dt de (wipeP σ vs) (items.drop (i + 1)) g').bind fun qs g => .ok (.lst (ps ++ qs)) g) Q (fun cls dd H' => Wx cls dd σc H'), fun H'' h => h, fun x H2 y => ?_⟩
          obtain ⟨sm, q, eq, rq⟩ := wk.yld H' i x H2 (((ct X ρ B).ban1 D).ban W).B stay hlt y R'.wdom (fun b hb => by
            rcases hb with (hb | hb) | hb
            · exact .inl (.inl hb)
            · exact .inr (by rw [hb]; exact hD)
            · exact .inl (.inr hb))
          have R2 := (R'.ext (Ext.of sm) (R'.rg.same sm)).wipe (vs := vs) (by rw [hW]; exact hvs)
          have ed : items.drop i = q :: items.drop (i + 1) := by
            rw [List.drop_eq_getElem_cons hlt]
            rw [List.getElem?_eq_getElem hlt] at eq
            cases eq
            rfl
          rw [ed] at p
          simp only [compL] at p
          cases eg : gd q (wipeP σ vs) with
          | none => simp only [eg] at p; exact p.elim
          | some σ1 =>
            simp only [eg] at p
            refine hg ρ ((ct X ρ B).ban1 D).B W (wipeP σ vs) σ1 (wipe σc vs) H2 g' q x _ hW R2 rq eg fun σc1 R3 ag => ?_
            refine ⟨?_, ?_⟩
            · have e2 : wipe (wipe σc vs) vs = wipe σc vs := wipe_eq (wipe_length _ _) fun j hj => wipe_keep hj
              rw [← e2]
              exact wipe_eq ag.1 fun j hj => ag.2 j fun z => hj (hgs j z)
            · refine ht ρ ((ct X ρ B).ban1 D).B W σ1 σc1 H2 g' _ hW R3 ?_
              cases et : dt σ1 g' with
              | stuck => simp only [et, noX] at p; exact p.elim
              | exc _ _ _ _ => simp only [et, noX] at p; exact p.elim
              | ok b g2 =>
                simp only [et, noX, Res.bind_ok] at p
                intro H3 e3 k3
                have ex3 : ∀ b o, H' b = some o → ¬ (ct X ρ B).R b → H3 b = some o := fun b o h n => e3 b o (sm b o h) n
                have R4 := R'.ext (c := (ct X ρ B).ban1 D) ex3 k3
                cases b with
                | false =>
                  have p : Pst (ct X ρ B) W H .frs ((compL gd dt de (wipeP σ vs) (items.drop (i + 1)) g2).bind fun qs g => .ok (.lst (ps ++ qs)) g) Q (fun cls dd H' => Wx cls dd σc H') := by simpa using p
                  exact ⟨items.length - (i + 1), by omega, rfl, hlt, g2, ps, acc, R4, fun b o h n => ex3 b o (ex b o h n) n, ex3 _ _ hDa RD, by omega, RepL.ext (c := ((ct X ρ B).ban1 D).ban W) ex3 (fun b hb => .inl (.inl (R.rb b hb))) ra, p⟩
                | true =>
                  have R5 := R3.ext e3 k3
                  refine he ρ ((ct X ρ B).ban1 D).B W σ1 σc1 H3 g2 _ hW R5 ?_
                  cases ev : de σ1 g2 with
                  | stuck => simp [ev, noX] at p; exact p.elim
                  | exc _ _ _ _ => simp [ev, noX] at p; exact p.elim
                  | ok y g3 =>
                    intro v H4 e4 k4 rv
                    have ex4 : ∀ b o, H' b = some o → ¬ (ct X ρ B).R b → H4 b = some o := fun b o h n => e4 b o (ex3 b o h n) n
                    have hD4 := ex4 _ _ hDa RD
                    have p : Pst (ct X ρ B) W H .frs ((compL gd dt de (wipeP σ vs) (items.drop (i + 1)) g3).bind fun qs g => .ok (.lst ((ps ++ [y]) ++ qs)) g) Q (fun cls dd H' => Wx cls dd σc H') := by
                      simp only [ev, noX, Res.bind_ok, if_pos] at p
                      cases ec : compL gd dt de (wipeP σ vs) (items.drop (i + 1)) g3 with
                      | ok qs g4 => simp only [ec, Res.bind_ok] at p ⊢; simpa using p
                      | exc _ _ _ _ => simp only [ec, Res.bind_exc] at p ⊢; exact p
                      | stuck => simp only [ec, Res.bind_stuck] at p ⊢; exact p
                    have hal : acc.length = ps.length := ra.length.symm
                    refine ⟨acc, hD4, by omega, items.length - (i + 1), by omega, rfl, hlt, g3, ps ++ [y], acc ++ [v], ?_, ?_, upd_same, by simp; omega, ?_, p⟩
                    · exact (R'.ext (c := (ct X ρ B).ban1 D) ex4 k4).updB bD RD (fun u hu => by rw [hD4] at hu; cases hu; trivial)
                    · intro b o h n
                      rw [upd_ne (ne_of_none h hD)]
                      exact ex4 b o (ex b o h n) n
                    · have aw : ∀ b u, H4 b = some u → ¬ (((ct X ρ B).ban1 D).ban W).B b → upd H4 D (.lst (acc ++ [v])) b = some u := fun b u hb n => by
                        rw [upd_ne (fun e => n (by rw [e]; exact .inl (.inr rfl)))]; exact hb
                      exact RepL.append (RepL.away (c := ((ct X ρ B).ban1 D).ban W) aw (RepL.ext (c := ((ct X ρ B).ban1 D).ban W) ex4 (fun b hb => .inl (.inl (R.rb b hb))) ra)) ⟨v, [], rfl, Rep.away (c := ((ct X ρ B).ban1 D).ban W) aw rv, rfl⟩
        · have e : i = items.length := by omega
          subst e
          refine .inl ⟨wk.stop H' _ stay (Nat.le_refl _), ?_⟩
          rw [List.drop_length] at p
          have p : Pst (ct X ρ B) W H .frs (.ok (.lst ps) g') Q (fun cls dd H' => Wx cls dd σc H') := by simpa [compL] using p
          refine p (.ref D) H' (fun b o h n => ex b o (e1 b o h n) n) R'.rg ⟨D, rfl, hDH, acc, hDa, ?_⟩
          exact RepL.ban (c := ((ct X ρ B).ban1 D).ban W) (fun b hb => .inl (by
            rcases hb with (hb | hb) | hb
            · exact .inl (.inl hb)
            · exact .inr hb
            · exact .inl (.inr hb))) ra
      · rw [if_neg hsz] at p; exact p.elim
  exact hdi _ key
/-- the widest readings -/
def tE (K : PySem.W.Frag) (mg : Str → Option Value) (Wx : WX) (Wk : List Nat) (md : Md) (d : Den) : TE := fun σc H Q => ∃ (ρ : Rho) (B : Addr → Prop) (W : Wn) (σ : Sl) (g : Rg), W.map (·.1) = Wk ∧ Rel ⟨K, mg, ρ, B⟩ W σ σc H g ∧ Pst ⟨K, mg, ρ, B⟩ W H md (d σ g) Q (fun cls dd H' => Wx cls dd σc H')
def tTs (K : PySem.W.Frag) (mg : Str → Option Value) (Wx : WX) (Wk : List Nat) (d : DenT) : TT := fun σc H Q => ∃ (ρ : Rho) (B : Addr → Prop) (W : Wn) (σ : Sl) (g : Rg), W.map (·.1) = Wk ∧ Rel ⟨K, mg, ρ, B⟩ W σ σc H g ∧ PstT ⟨K, mg, ρ, B⟩ H W (d σ g) Q (fun cls dd H' => Wx cls dd σc H')
def tGt (K : PySem.W.Frag) (mg : Str → Option Value) (Wk gs : List Nat) (gd : DenG) : TG := fun v σc H Q => ∃ (ρ : Rho) (B : Addr → Prop) (W : Wn) (σ σ' : Sl) (g : Rg) (p : PV), W.map (·.1) = Wk ∧ Rel ⟨K, mg, ρ, B⟩ W σ σc H g ∧ Rep (Ct.ban ⟨K, mg, ρ, B⟩ W) H p v ∧ gd p σ = some σ' ∧
  (∀ σc', Rel ⟨K, mg, ρ, B⟩ W σ' σc' H g → Agree gs σc σc' → Q σc' H)
theorem SE.pe {e : Expr} {d : Den} (h : SE X Wx Wk md e d) : PE X e (tE X.K X.mg Wx Wk md d) := by
  obtain ⟨t, ht, hs⟩ := h
  refine ⟨fun pins s σ H Q I q => ht.run pins s σ H Q I ?_⟩
  obtain ⟨ρ, B, W, σ', g, hW, R, p⟩ := q
  exact hs ρ B W σ' σ H g Q hW R p
theorem STs.pe {es : List Expr} {d : DenT} (h : STs X Wx Wk es d) : PTs X es (tTs X.K X.mg Wx Wk d) := by
  obtain ⟨t, ht, hs⟩ := h
  refine ⟨fun pins s σ H Q I q => ht.run pins s σ H Q I ?_⟩
  obtain ⟨ρ, B, W, σ', g, hW, R, p⟩ := q
  exact hs ρ B W σ' σ H g Q hW R p
theorem SG.pe {tg : Expr} {gs : List Nat} {gd : DenG} (h : SG X Wk gs tg gd) : PG X tg (tGt X.K X.mg Wk gs gd) := by
  obtain ⟨t, ht, hs⟩ := h
  refine ⟨fun pins s σ H v u Q I r q => ht.run pins s σ H v u Q I r ?_⟩
  obtain ⟨ρ, B, W, σ1, σ2, g, p, hW, R, rp, eg, k⟩ := q
  exact hs ρ B W σ1 σ2 σ H g p v Q hW R rp eg k
/-- a comprehension's block -/
abbrev Blk (X : Cx) (scope : Scope) (s : Shared) (H : Hp) (C : Addr) (cl : List (Str × Addr)) (fp : List Addr) : Cx := X.blk s H scope (compEnvC scope cl C X.env) fp
theorem se_lc {tg iter elt : Expr} {ifs : List Expr} {scope : Scope} {own : List (Str × Nat)} {pos : Pos} {gs : List Nat} {di : DenL} {gd : DenG} {dt : DenT} {de : Den} (hc : X.calm = true) (hN : X.N.Nodup) (ok : BlkOk X.N X.env.scope scope own) (hi : SI X Wx Wk tg iter di)
    (hg : ∀ s H C cl fp, SG (Blk X scope s H C cl fp) Wk gs tg gd) (ht : ∀ s H C cl fp, STs (Blk X scope s H C cl fp) Wx0 Wk ifs dt) (he : ∀ s H C cl fp, SE (Blk X scope s H C cl fp) Wx0 Wk .rep elt de)
    (hgs : ∀ j ∈ gs, j ∈ own.map (·.2) := by decide) (hvs : ∀ j ∈ own.map (·.2), j ∉ Wk := by decide) (hs : ∀ x, foldedSetIterable iter X.env x = pure x := by intro _; rfl) :
    SE X Wx Wk .frs (.ListComp elt [⟨tg, iter, ifs, 0⟩] scope pos) (dComp di (own.map (·.2)) gd dt de) := by
  obtain ⟨wi, hwi, hdi⟩ := hi
  refine ⟨_, pe_lc (g := tGt X.K X.mg Wk gs gd) (tt := tTs X.K X.mg Wx0 Wk dt) (te := tE X.K X.mg Wx0 Wk .rep de) hc hN hwi ok (fun s H C cl fp => (hg s H C cl fp).pe) (fun s H C cl fp => (ht s H C cl fp).pe) (fun s H C cl fp => (he s H C cl fp).pe) hs, fun ρ B W σ σc H g Q hW R p => ?_⟩
  exact lc_read (fun R1 => hdi ρ B W σ σc H g R1 hW R) (fun ρ B W σ σ' σc H g p v Q hW R rp eg k => ⟨ρ, B, W, σ, σ', g, p, hW, R, rp, eg, k⟩) (fun ρ B W σ σc H g Q hW R p => ⟨ρ, B, W, σ, g, hW, R, p⟩) (fun ρ B W σ σc H g Q hW R p => ⟨ρ, B, W, σ, g, hW, R, p⟩) hgs hvs hW R p
/-- name = [..] -/
theorem ss_setLc (i : Nat) {y : Str} {py : Pos} {tg iter elt : Expr} {ifs : List Expr} {scope : Scope} {own : List (Str × Nat)} {pos spos : Pos} {gs : List Nat} {di : DenL} {gd : DenG} {dt : DenT} {de : Den} (hc : X.calm = true) (hN : X.N.Nodup) (ok : BlkOk X.N X.env.scope scope own) (hi : SI X (WE0 E) Wk tg iter di)
    (hg : ∀ s H C cl fp, SG (Blk X scope s H C cl fp) Wk gs tg gd) (ht : ∀ s H C cl fp, STs (Blk X scope s H C cl fp) Wx0 Wk ifs dt) (he : ∀ s H C cl fp, SE (Blk X scope s H C cl fp) Wx0 Wk .rep elt de)
    (hsw : swapsWith (.ListComp elt [⟨tg, iter, ifs, 0⟩] scope pos) (some (.Name y py)) spos.line X.env = pure true)
    (hgs : ∀ j ∈ gs, j ∈ own.map (·.2) := by decide) (hvs : ∀ j ∈ own.map (·.2), j ∉ Wk := by decide) (hw : i ∉ Wk := by decide) (hz : i ∉ fz := by decide) (hy : X.N[i]? = some y := by rfl) (hyl : X.env.scope.names.lookup y = some .local := by rfl) (hs : ∀ x, foldedSetIterable iter X.env x = pure x := by intro _; rfl) :
    SS X E fz Wk Wk md (.Assign [.Name y py] (.ListComp elt [⟨tg, iter, ifs, 0⟩] scope pos) spos) (dSet i (dComp di (own.map (·.2)) gd dt de)) := by
  obtain ⟨wi, hwi, hdi⟩ := hi
  refine ⟨_, ps_setLc (g := tGt X.K X.mg Wk gs gd) (tt := tTs X.K X.mg Wx0 Wk dt) (te := tE X.K X.mg Wx0 Wk .rep de) hc hN hy hyl hsw hwi ok (fun s H C cl fp => (hg s H C cl fp).pe) (fun s H C cl fp => (ht s H C cl fp).pe) (fun s H C cl fp => (he s H C cl fp).pe) hs, fun ρ B W σ σc H g D J hW R jc j p => ?_⟩
  refine lc_read (Wx := WE0 E) (fun R1 => hdi ρ B W σ σc H g R1 hW R) (fun ρ B W σ σ' σc H g p v Q hW R rp eg k => ⟨ρ, B, W, σ, σ', g, p, hW, R, rp, eg, k⟩) (fun ρ B W σ σc H g Q hW R p => ⟨ρ, B, W, σ, g, hW, R, p⟩) (fun ρ B W σ σc H g Q hW R p => ⟨ρ, B, W, σ, g, hW, R, p⟩) hgs hvs hW R ?_
  refine PstS.bind p fun x g1 v H1 _ e1 k1 q1 p => ?_
  exact p W _ H1 hW (Ext.refl _ _).w (.refl _ _) ((R.ext e1 k1).set (by rw [hW]; exact hw) (q1.rep_of_frs R.wdom)) (jc.set hz j)
theorem ss_setLcW (i : Nat) {y : Str} {py : Pos} {tg iter elt : Expr} {ifs : List Expr} {scope : Scope} {own : List (Str × Nat)} {pos spos : Pos} {gs : List Nat} {di : DenL} {gd : DenG} {dt : DenT} {de : Den} (hc : X.calm = true) (hN : X.N.Nodup) (ok : BlkOk X.N X.env.scope scope own) (hi : SI X (WE0 E) Wk tg iter di)
    (hg : ∀ s H C cl fp, SG (Blk X scope s H C cl fp) Wk gs tg gd) (ht : ∀ s H C cl fp, STs (Blk X scope s H C cl fp) Wx0 Wk ifs dt) (he : ∀ s H C cl fp, SE (Blk X scope s H C cl fp) Wx0 Wk .rep elt de)
    (hsw : swapsWith (.ListComp elt [⟨tg, iter, ifs, 0⟩] scope pos) (some (.Name y py)) spos.line X.env = pure true)
    (hgs : ∀ j ∈ gs, j ∈ own.map (·.2) := by decide) (hvs : ∀ j ∈ own.map (·.2), j ∉ Wk := by decide) (hw : i ∉ Wk := by decide) (hz : i ∉ fz := by decide) (hy : X.N[i]? = some y := by rfl) (hyl : X.env.scope.names.lookup y = some .local := by rfl) (hs : ∀ x, foldedSetIterable iter X.env x = pure x := by intro _; rfl) :
    SS X E fz Wk (i :: Wk) md (.Assign [.Name y py] (.ListComp elt [⟨tg, iter, ifs, 0⟩] scope pos) spos) (dSetW i (dComp di (own.map (·.2)) gd dt de)) := by
  obtain ⟨wi, hwi, hdi⟩ := hi
  refine ⟨_, ps_setLc (g := tGt X.K X.mg Wk gs gd) (tt := tTs X.K X.mg Wx0 Wk dt) (te := tE X.K X.mg Wx0 Wk .rep de) hc hN hy hyl hsw hwi ok (fun s H C cl fp => (hg s H C cl fp).pe) (fun s H C cl fp => (ht s H C cl fp).pe) (fun s H C cl fp => (he s H C cl fp).pe) hs, fun ρ B W σ σc H g D J hW R jc j p => ?_⟩
  exact lc_read (Wx := WE0 E) (fun R1 => hdi ρ B W σ σc H g R1 hW R) (fun ρ B W σ σ' σc H g p v Q hW R rp eg k => ⟨ρ, B, W, σ, σ', g, p, hW, R, rp, eg, k⟩) (fun ρ B W σ σc H g Q hW R p => ⟨ρ, B, W, σ, g, hW, R, p⟩) (fun ρ B W σ σc H g Q hW R p => ⟨ρ, B, W, σ, g, hW, R, p⟩) hgs hvs hW R (setW_post jc hz j hW hw R p)
end
end Tr

namespace Tr
open PySem PySem.Spec PyProof.Rows L2

def startP (n : Nat) (ps : List PV) : Sl := ps.map some ++ List.replicate (n - ps.length) none
def toRes : Md → SRes → Res PV
  | .frs, .next _ _ => .stuck
  | _, .next _ g => .ok .non g
  | _, .ret p g => .ok p g
  | _, .exc k ns ps g => .exc k ns ps g
  | _, .stuck => .stuck
/-- the def: n names, its body -/
def dDef (n : Nat) (md : Md) (d : DenS) : DDen := fun ps g => toRes md (d (startP n ps) g)
theorem start_at {N : List Str} {vs : List V} {i : Nat} {v : V} (h : vs[i]? = some v) : (L2.start N vs)[i]? = some (some v) := by
  unfold L2.start
  have hi : i < vs.length := (List.getElem?_eq_some_iff.mp h).1
  rw [List.getElem?_append_left (by simpa using hi)]
  simp [h]
theorem startP_some {n : Nat} {ps : List PV} {i : Nat} {p : PV} (h : (startP n ps)[i]? = some (some p)) : ps[i]? = some p := by
  unfold startP at h
  by_cases hi : i < ps.length
  · rw [List.getElem?_append_left (by simpa using hi)] at h
    simpa using h
  · rw [List.getElem?_append_right (by simp; omega)] at h
    rw [List.getElem?_replicate] at h
    split at h <;> simp at h
theorem start_len {N : List Str} {vs : List V} {n : Nat} {ps : List PV} (hn : N.length = n) (h : ps.length = vs.length) : (startP n ps).length = (L2.start N vs).length := by
  unfold startP L2.start
  simp [h, hn]
theorem ban_nil {c : Ct} : ∀ b, (c.ban []).B b → c.B b := fun b h => h.elim id fun z => by cases z
theorem rel_start {c : Ct} {N : List Str} {vs : List V} {n : Nat} {ps : List PV} {H : Hp} {g : Rg} (S : Start c H g) (r : RepL c H ps vs) (hn : N.length = n) : Rel c [] (startP n ps) (L2.start N vs) H g where
  len := start_len hn r.length
  rg := S.rg
  rb := S.rb
  dom := S.dom
  ndk := .nil
  nda := .nil
  wb := fun _ h => by cases h
  val := fun i p h _ => by
    obtain ⟨v, h1, h2⟩ := r.get (startP_some h)
    exact ⟨v, start_at h1, Rep.ban (fun b h => .inl (ban_nil b h)) h2⟩
  own := fun _ h => by cases h
section
variable {P : Program} {w : World} {K : PySem.W.Frag} {mg : Str → Option Value} {base : Heap}
theorem fnOk_of {x qual : Str} {st : Stmt} {f : Addr} {fd : FuncData} {N ps : List Str} {k n : Nat} {md : Md} {d : DenS} (F : Fun K x qual st f fd) (S : FnScope N ps (defScope st)) (hn : N.length = n)
    (hbody : ∀ (cdv : Value) (A : Around) (outer : List Env) (s : Shared) (H : Hp) (E : XK), Room k (A.deeper (envOfC qual (defScope st) s.heap.objs.size f cdv)) →
      ∃ Wk', SSs (cxOf (L2.CX P w) P w K mg base N qual (defScope st) f cdv A outer s H E) E [] [] Wk' md (defBody st) d) :
    FnOk P w K mg base (L2.CX P w) (k + 1) f fd ps (spD K mg ps.length md (dDef n md d)) := by
  refine F.okX S (fun vs H Q E h => h.1) fun cdv A outer s H vs Q E hr h => ?_
  obtain ⟨hl, ρ, B, qs, g, St, rp, p⟩ := h
  obtain ⟨Wk', t, ht, hs⟩ := hbody cdv A outer s H E hr
  refine ⟨t, ht, ?_⟩
  have R := rel_start (N := N) St rp hn
  refine hs ρ B [] (startP n qs) (L2.start N vs) H g _ (fun _ => True) rfl R (fun _ _ _ _ _ => trivial) trivial ?_
  have p : PstD ⟨K, mg, ρ, B⟩ H md (toRes md (d (startP n qs) g)) Q E := p
  have ew : ∀ {H'}, ExtW ⟨K, mg, ρ, B⟩ [] H H' → Ext ⟨K, mg, ρ, B⟩ H H' := fun e b o h n => e b o h n (by simp)
  cases hd : d (startP n qs) g with
  | next σ' g' =>
    rw [hd] at p
    intro W' σc' H' hW e nw R' _
    cases md with
    | frs => exact p.elim
    | rep => exact p .non H' (ew e) R'.rg rfl
    | brw => exact p .non H' (ew e) R'.rg (.inl rfl)
  | ret q g' =>
    rw [hd] at p
    intro v H' e k hv
    cases md with
    | frs =>
      obtain ⟨a, rfl, hn', ho, nb⟩ := hv
      exact p _ H' (ew e) k ⟨a, rfl, hn'.resolve_right (by simp), ho⟩
    | rep => exact p v H' (ew e) k hv
    | brw => exact p v H' (ew e) k (.inl hv)
  | exc kk ns ps' g' =>
    rw [hd] at p
    intro cls dd H' e k q
    cases md <;> exact p cls dd H' (ew e) k q
  | stuck =>
    rw [hd] at p
    cases md <;> exact p.elim
theorem fok_of {x qual : Str} {st : Stmt} {f : Addr} {fd : FuncData} {N ps : List Str} {k n m : Nat} {md : Md} {d : DenS} (F : Fun K x qual st f fd) (hm : mg x = some (.ref f)) (hb : Binds K fd ps []) (S : FnScope N ps (defScope st)) (hn : N.length = n) (hp : ps.length = m)
    (hbody : ∀ (cdv : Value) (A : Around) (outer : List Env) (s : Shared) (H : Hp) (E : XK), Room k (A.deeper (envOfC qual (defScope st) s.heap.objs.size f cdv)) →
      ∃ Wk', SSs (cxOf (L2.CX P w) P w K mg base N qual (defScope st) f cdv A outer s H E) E [] [] Wk' md (defBody st) d) :
    FOk P w K mg base x m (k + 1) md (dDef n md d) := by
  subst hp
  exact ⟨f, fd, ps, hm, F.kp, hb, rfl, fnOk_of F S hn hbody⟩
theorem mok_of {c x qual : Str} {st : Stmt} {f C : Addr} {fd : FuncData} {N ps : List Str} {k n m : Nat} {md : Md} {d : DenS} (F : Fun K x qual st f fd) (hm : mg c = some (.ref C)) (hc : Cls K C) (hM : Meth K C x f) (hb : Binds K fd ps []) (S : FnScope N ps (defScope st)) (hn : N.length = n) (hp : ps.length = m)
    (hbody : ∀ (cdv : Value) (A : Around) (outer : List Env) (s : Shared) (H : Hp) (E : XK), Room k (A.deeper (envOfC qual (defScope st) s.heap.objs.size f cdv)) →
      ∃ Wk', SSs (cxOf (L2.CX P w) P w K mg base N qual (defScope st) f cdv A outer s H E) E [] [] Wk' md (defBody st) d) :
    MOk P w K mg base c x m (k + 1) md (dDef n md d) := by
  subst hp
  exact ⟨C, f, fd, ps, hm, hc, hM, hb, rfl, fnOk_of F S hn hbody⟩
/-- __init__: the instance in slot 0 is its own -/
def dInit (n : Nat) (k : Str) (d : DenS) : DDen := fun ps g => match d (startP n (.ins k [] [] :: ps)) g with
  | .next σ g => (match σ[0]? with | some (some p) => .ok p g | _ => .stuck)
  | _ => .stuck
theorem rel_init {c : Ct} {N : List Str} {us : List V} {n : Nat} {ps : List PV} {H : Hp} {g : Rg} {k : Str} {a C dx : Addr} (S : Start c H g) (hm : c.mg k = some (.ref C)) (ha : H a = some (.ins C dx [])) (nb : ¬ c.B a) (r : RepL (c.ban1 a) H ps us) (hn : N.length = n) :
    Rel c [(0, a)] (startP n (.ins k [] [] :: ps)) (L2.start N (.ref a :: us)) H g where
  len := start_len hn (by simp [r.length])
  rg := S.rg
  rb := S.rb
  dom := S.dom
  ndk := by simp
  nda := by simp
  wb := fun w h => by
    have : w = (0, a) := by simpa using h
    subst this; exact nb
  val := fun i p h n => by
    cases i with
    | zero => exact absurd (by simp) n
    | succ i =>
      have h := startP_some h
      obtain ⟨v, h1, h2⟩ := r.get (by simpa using h)
      refine ⟨v, start_at (by simpa using h1), Rep.ban (c := c.ban1 a) (fun b h => .inl ?_) h2⟩
      rcases h with h | h
      · exact .inl h
      · exact .inr (by simpa using h)
  own := fun w h => by
    have : w = (0, a) := by simpa using h
    subst this
    exact ⟨_, rfl, rfl, C, dx, [], hm, ha, rfl, rfl⟩
theorem iok_of {c x qual : Str} {st : Stmt} {f C : Addr} {fd : FuncData} {N ps : List Str} {k n m : Nat} {d : DenS} (F : Fun K x qual st f fd) (hm : mg c = some (.ref C)) (hM : Mk K C f) (hb : Binds K fd ps []) (S : FnScope N ps (defScope st)) (hn : N.length = n) (hp : ps.length = m)
    (hbody : ∀ (cdv : Value) (A : Around) (outer : List Env) (s : Shared) (H : Hp) (E : XK), Room k (A.deeper (envOfC qual (defScope st) s.heap.objs.size f cdv)) →
      SSs (cxOf (L2.CX P w) P w K mg base N qual (defScope st) f cdv A outer s H E) E [0] [0] [0] .rep (defBody st) d) :
    IOk P w K mg base c m (k + 1) (dInit n c d) := by
  subst hp
  refine ⟨C, f, fd, ps, hm, hM, hb, rfl, ?_⟩
  refine F.okX S (fun vs H Q E h => h.1) fun cdv A outer s H vs Q E hr h => ?_
  obtain ⟨hl, ρ, B, qs, g, a, C', dx, us, rfl, hm', ha, nb, St, rp, p⟩ := h
  obtain ⟨t, ht, hs⟩ := hbody cdv A outer s H E hr
  refine ⟨t, ht, ?_⟩
  have R := rel_init (c := ⟨K, mg, ρ, B⟩) (N := N) (k := c) (n := n) St hm' ha nb rp hn
  refine hs ρ B [(0, a)] _ _ H g _ (fun σ => σ[0]? = some (some (.ref a))) rfl R (fun σ σ' _ ag j => (ag 0 (by simp)).trans (show σ[0]? = some (some (.ref a)) from j)) rfl ?_
  unfold dInit at p
  cases hd : d (startP n (.ins c [] [] :: qs)) g with
  | next σ' g' =>
    rw [hd] at p
    intro W' σc' H' hW e nw R' j
    cases W' with
    | nil => cases hW
    | cons w W'' =>
      cases W'' with
      | cons _ _ => simp at hW
      | nil =>
        obtain ⟨i, b⟩ := w
        have hi : i = 0 := by simpa using hW
        subst hi
        obtain ⟨q, h1, h2, h3⟩ := R'.own (0, b) (by simp)
        have hba : b = a := by
          have h2 : σc'[0]? = some (some (.ref b)) := h2
          rw [show σc'[0]? = some (some (V.ref a)) from j] at h2
          cases h2; rfl
        subst hba
        simp only [h1] at p
        refine p H' (fun b' o h hne hr => e b' o h hr (by simpa using hne)) R'.rg (Own.ban (c := Ct.ban ⟨K, mg, ρ, B⟩ [(0, b)]) (fun b' hb => .inl (hb.elim .inl fun z => .inr (by simpa using z))) h3)
  | ret q g' => rw [hd] at p; exact p.elim
  | exc kk ns ps' g' => rw [hd] at p; exact p.elim
  | stuck => rw [hd] at p; exact p.elim
end
end Tr

namespace Tr
open PySem PySem.Spec PyProof.Rows L2

def hasK (ks : List Key) (k : Key) : Bool := ks.any fun x => decide (x = k)
def putKs (ks : List Key) (k : Key) : List Key := if hasK ks k = true then ks else ks ++ [k]
def putVs {α : Type} : List Key → List α → Key → α → List α
  | [], vs, k, p => vs ++ [p]
  | x :: ks, [], k, p => [p]
  | x :: ks, v :: vs, k, p => if x = k then p :: (if hasK ks k = true then putVs ks vs k p else vs) else v :: putVs ks vs k p
theorem map_no {ks : List Key} {k : Key} (h : hasK ks k = false) : ∀ (vs : List V) (p : V), (ks.zip vs).map (fun kv => if kv.1 = k then (kv.1, p) else kv) = ks.zip vs := by
  induction ks with
  | nil => intro vs p; simp
  | cons x ks ih =>
    intro vs p
    cases vs with
    | nil => simp
    | cons v vs =>
      have h' : decide (x = k) = false ∧ hasK ks k = false := by
        simp only [hasK, List.any_cons, Bool.or_eq_false_iff] at h
        exact h
      have hx : ¬ x = k := by simpa using h'.1
      simp [List.zip_cons_cons, hx, ih h'.2]
theorem putK_zip : ∀ {ks : List Key} {vs : List V} (k : Key) (p : V), ks.length = vs.length → putK (ks.zip vs) k p = (putKs ks k).zip (putVs ks vs k p) ∧ (putKs ks k).length = (putVs ks vs k p).length
  | [], [], k, p, _ => by simp [putK, putKs, putVs, hasK]
  | [], _ :: _, k, p, h => by simp at h
  | _ :: _, [], k, p, h => by simp at h
  | x :: ks, v :: vs, k, p, h => by
    have hl : ks.length = vs.length := by simpa using h
    obtain ⟨ih1, ih2⟩ := putK_zip (ks := ks) (vs := vs) k p hl
    have hany : ((ks.zip vs).any fun kv => decide (kv.1 = k)) = hasK ks k := by
      unfold hasK
      clear ih1 ih2 h
      induction ks generalizing vs with
      | nil => simp
      | cons y ks ih =>
        cases vs with
        | nil => simp at hl
        | cons u vs => simp only [List.zip_cons_cons, List.any_cons]; rw [ih vs (by simpa using hl)]
    by_cases hx : x = k
    · subst hx
      cases hk : hasK ks x with
      | false =>
        constructor
        · simp [putK, putKs, putVs, hasK, List.zip_cons_cons]
          have := map_no hk vs p
          simp only [hasK] at hk
          simp [hk, this]
        · simp [putKs, putVs, hasK, hl]
          simp only [hasK] at hk
          simp [hk, hl]
      | true =>
        have e1 : putK (ks.zip vs) x p = (ks.zip vs).map (fun kv => if kv.1 = x then (kv.1, p) else kv) := by
          unfold putK; rw [hany, hk]; simp
        have e2 : putKs ks x = ks := by unfold putKs; rw [hk]; simp
        rw [e1, e2] at ih1
        rw [e2] at ih2
        constructor
        · have : putKs (x :: ks) x = x :: ks := by simp [putKs, hasK]
          rw [this]
          simp only [putVs, hk, if_true]
          simp only [putK, List.zip_cons_cons, List.any_cons, decide_true, Bool.true_or, if_true, List.map_cons]
          rw [ih1]
        · have : putKs (x :: ks) x = x :: ks := by simp [putKs, hasK]
          rw [this]
          simp [putVs, hk, ih2]
    · have e0 : hasK (x :: ks) k = hasK ks k := by simp [hasK, hx]
      constructor
      · cases hk : hasK ks k with
        | true =>
          have e1 : putK (ks.zip vs) k p = (ks.zip vs).map (fun kv => if kv.1 = k then (kv.1, p) else kv) := by
            unfold putK; rw [hany, hk]; simp
          have e2 : putKs ks k = ks := by unfold putKs; rw [hk]; simp
          rw [e1, e2] at ih1
          have e3 : putKs (x :: ks) k = x :: ks := by unfold putKs; rw [e0, hk]; simp
          rw [e3]
          simp only [putVs, if_neg hx, List.zip_cons_cons]
          rw [← ih1]
          unfold putK
          simp only [List.any_cons, hany, hk, Bool.or_true, if_true, List.map_cons, if_neg hx]
        | false =>
          have e1 : putK (ks.zip vs) k p = ks.zip vs ++ [(k, p)] := by
            unfold putK; rw [hany, hk]; simp
          have e2 : putKs ks k = ks ++ [k] := by unfold putKs; rw [hk]; simp
          rw [e1, e2] at ih1
          have e3 : putKs (x :: ks) k = x :: (ks ++ [k]) := by unfold putKs; rw [e0, hk]; simp
          rw [e3]
          simp only [putVs, if_neg hx, List.zip_cons_cons]
          rw [← ih1]
          unfold putK
          simp [hany, hk, hx]
      · have e3 : (putKs (x :: ks) k).length = (putKs ks k).length + 1 := by
          unfold putKs; rw [e0]; split <;> simp
        rw [e3]
        simp [putVs, hx, ih2]
theorem putVs_rep {c : Ct} {H : Hp} {k : Key} {p : PV} {v : V} (h : Rep c H p v) : ∀ {ks : List Key} {ps : List PV} {vs : List V}, RepL c H ps vs → RepL c H (putVs ks ps k p) (putVs ks vs k v)
  | [], ps, vs, r => by simp only [putVs]; exact r.append ⟨v, [], rfl, h, rfl⟩
  | x :: ks, [], vs, r => by have r : vs = [] := r; subst r; exact ⟨v, [], rfl, h, rfl⟩
  | x :: ks, q :: ps, _, ⟨u, r, rfl, h1, h2⟩ => by
    simp only [putVs]
    by_cases hx : x = k
    · rw [if_pos hx, if_pos hx]
      refine ⟨v, _, rfl, h, ?_⟩
      cases hasK ks k with
      | true => exact putVs_rep h h2
      | false => exact h2
    · rw [if_neg hx, if_neg hx]
      exact ⟨u, _, rfl, h1, putVs_rep h h2⟩
theorem putKs_len (ks : List Key) (k : Key) : (putKs ks k).length ≤ ks.length + 1 := by
  unfold putKs; split <;> simp
def compD (gd : DenG) (dt : DenT) (dk dv : Den) (σ : Sl) : List PV → List Key → List PV → Rg → Res PV
  | [], ks, ps, g => .ok (.dct ks ps) g
  | p :: r, ks, ps, g => match gd p σ with
    | some σ1 => (noX (dt σ1 g)).bind fun b g1 => if b = true then (noX (dk σ1 g1)).bind fun q g2 => match keyP q with
        | some k => (noX (dv σ1 g2)).bind fun z g3 => compD gd dt dk dv σ r (putKs ks k) (putVs ks ps k z) g3
        | none => .stuck
      else compD gd dt dk dv σ r ks ps g1
    | none => .stuck
def dDComp (di : DenL) (vs : List Nat) (gd : DenG) (dt : DenT) (dk dv : Den) : Den := fun σ g => (di σ g).bind fun items g => if items.length ≤ sizeLine then compD gd dt dk dv (wipeP σ vs) items [] [] g else .stuck
section
variable {X : Cx} {E : XK} {Wx : WX} {fz Wk Wk' Wk1 : List Nat} {md : Md}
theorem dc_read {vs gs : List Nat} {wi : TI} {tt : TT} {tk te : TE} {tg' : TG} {di : DenL} {gd : DenG} {dt : DenT} {dk de : Den} {ρ : Rho} {B : Addr → Prop} {W : Wn} {σ : Sl} {σc : L2.St} {H : Hp} {g : Rg} {Q : VK}
    (hdi : ∀ (ρ : Rho) (B : Addr → Prop) (W : Wn) (σ : Sl) (σc : L2.St) (H : Hp) (g : Rg) (R : It → Hp → Prop), W.map (·.1) = Wk → Rel (ct X ρ B) W σ σc H g → PstI (ct X ρ B) W H (di σ g) R (fun cls dd H' => Wx cls dd σc H') → wi σc H R)
    (hg : ∀ (ρ : Rho) (B : Addr → Prop) (W : Wn) (σ σ' : Sl) (σc : L2.St) (H : Hp) (g : Rg) (p : PV) (v : V) (Q : L2.St → Hp → Prop), W.map (·.1) = Wk → Rel (ct X ρ B) W σ σc H g → Rep ((ct X ρ B).ban W) H p v → gd p σ = some σ' → (∀ σc', Rel (ct X ρ B) W σ' σc' H g → Agree gs σc σc' → Q σc' H) → tg' v σc H Q)
    (ht : ∀ (ρ : Rho) (B : Addr → Prop) (W : Wn) (σ : Sl) (σc : L2.St) (H : Hp) (g : Rg) (Q : Bool → Hp → Prop), W.map (·.1) = Wk → Rel (ct X ρ B) W σ σc H g → PstT (ct X ρ B) H W (dt σ g) Q E0 → tt σc H Q)
    (hk : ∀ (ρ : Rho) (B : Addr → Prop) (W : Wn) (σ : Sl) (σc : L2.St) (H : Hp) (g : Rg) (Q : VK), W.map (·.1) = Wk → Rel (ct X ρ B) W σ σc H g → Pst (ct X ρ B) W H .rep (dk σ g) Q E0 → tk σc H Q)
    (he : ∀ (ρ : Rho) (B : Addr → Prop) (W : Wn) (σ : Sl) (σc : L2.St) (H : Hp) (g : Rg) (Q : VK), W.map (·.1) = Wk → Rel (ct X ρ B) W σ σc H g → Pst (ct X ρ B) W H .rep (de σ g) Q E0 → te σc H Q)
    (hgs : ∀ j ∈ gs, j ∈ vs) (hvs : ∀ j ∈ vs, j ∉ Wk) (hW : W.map (·.1) = Wk) (R : Rel (ct X ρ B) W σ σc H g)
    (p : Pst (ct X ρ B) W H .frs (dDComp di vs gd dt dk de σ g) Q (fun cls dd H' => Wx cls dd σc H')) : tDc wi tg' tt tk te vs σc H Q := by
  have p : Pst (ct X ρ B) W H .frs ((di σ g).bind fun items g => if items.length ≤ sizeLine then compD gd dt dk de (wipeP σ vs) items [] [] g else .stuck) Q (fun cls dd H' => Wx cls dd σc H') := p
  have key : PstI (ct X ρ B) W H (di σ g) (fun J H1 => ∀ D, H1 D = none → ∃ W : Nat → Nat → Hp → Prop, (∃ m, W 0 m (upd H1 D (.dK []))) ∧ ∀ i m H, W i m H →
      (J.stop i H ∧ Q (.ref D) H) ∨ (J.go i H ∧ ∃ Nx : Hp → Prop, (∀ H', Nx H' → ∃ m', m' < m ∧ W (i + 1) m' H') ∧ ∀ x H', J.yld i H x H' → tg' x (wipe σc vs) H' fun σ2 H2 => wipe σ2 vs = wipe σc vs ∧ tt σ2 H2 fun b H3 =>
        if b = true then tk σ2 H3 fun y H4 => te σ2 H4 fun z H5 => ∃ kvs k, y = kV k ∧ H5 D = some (.dK kvs) ∧ kvs.length < sizeLine ∧ Nx (upd H5 D (.dK (putK kvs k z))) else Nx H3)) (fun cls dd H' => Wx cls dd σc H') := by
    cases hdd : di σ g with
    | stuck => rw [hdd] at p; exact p
    | exc k ns ps g' => rw [hdd] at p; exact p
    | ok items g1 =>
      rw [hdd] at p
      intro J H1 e1 k1 wk D hD
      have p : Pst (ct X ρ B) W H .frs (if items.length ≤ sizeLine then compD gd dt dk de (wipeP σ vs) items [] [] g1 else .stuck) Q (fun cls dd H' => Wx cls dd σc H') := p
      by_cases hsz : items.length ≤ sizeLine
      · rw [if_pos hsz] at p
        have R1 := (R.ext e1 k1).ban1 (o := .dK []) hD
        have RD : ¬ (ct X ρ B).R D := fun z => absurd hD ((R.ext e1 k1).dom D (R.rb _ z))
        have bD : ((ct X ρ B).ban1 D).B D := .inr rfl
        have hDH : H D = none := by
          cases q : H D with
          | none => rfl
          | some o => exact absurd hD (dom_ext e1 k1 (by rw [q]; exact fun z => nomatch z))
        refine ⟨fun i m H' => m = items.length - i ∧ i ≤ items.length ∧ ∃ g' ks ps acc, Rel ((ct X ρ B).ban1 D) W σ σc H' g' ∧ (∀ b o, H1 b = some o → ¬ (ct X ρ B).R b → H' b = some o) ∧ H' D = some (.dK (ks.zip acc)) ∧ ks.length = acc.length ∧ ks.length ≤ i ∧ RepL (((ct X ρ B).ban1 D).ban W) H' ps acc ∧
          Pst (ct X ρ B) W H .frs (compD gd dt dk de (wipeP σ vs) (items.drop i) ks ps g') Q (fun cls dd H' => Wx cls dd σc H'),
          ⟨items.length, by simp, Nat.zero_le _, g1, [], [], [], R1, fun b o h n => same_new hD _ _ h, upd_same, rfl, Nat.le_refl _, rfl, by simpa using p⟩, ?_⟩
        rintro i m H' ⟨rfl, hi, g', ks, ps, acc, R', ex, hDa, hka, hks, ra, p⟩
        have stay : Stay ((ct X ρ B).ban W) H1 H' := fun b o h n => ex b o h fun z => n (.inl (R.rb _ z))
        by_cases hlt : i < items.length
        · refine .inr ⟨wk.go H' i stay hlt, fun H'' => ∃ m', m' < items.length - i ∧ m' = items.length - (i + 1) ∧ i + 1 ≤ items.length ∧ ∃ g' ks ps acc, Rel ((ct X ρ B).ban1 D) W σ σc H'' g' ∧ (∀ b o, H1 b = some o → ¬ (ct X ρ B).R b → H'' b = some o) ∧ H'' D = some (.dK (ks.zip acc)) ∧ ks.length = acc.length ∧ ks.length ≤ i + 1 ∧ RepL (((ct X ρ B).ban1 D).ban W) H'' ps acc ∧
            Pst (ct X ρ B) W H .frs (compD gd dt dk de (wipeP σ vs) (items.drop (i + 1)) ks ps g') Q (fun cls dd H' => Wx cls dd σc H'), fun H'' h => h, fun x H2 y => ?_⟩
          obtain ⟨sm, q, eq, rq⟩ := wk.yld H' i x H2 (((ct X ρ B).ban1 D).ban W).B stay hlt y R'.wdom (fun b hb => by
            rcases hb with (hb | hb) | hb
            · exact .inl (.inl hb)
            · exact .inr (by rw [hb]; exact hD)
            · exact .inl (.inr hb))
          have R2 := (R'.ext (Ext.of sm) (R'.rg.same sm)).wipe (vs := vs) (by rw [hW]; exact hvs)
          have ed : items.drop i = q :: items.drop (i + 1) := by
            rw [List.drop_eq_getElem_cons hlt]
            rw [List.getElem?_eq_getElem hlt] at eq
            cases eq
            rfl
          rw [ed] at p
          simp only [compD] at p
          cases eg : gd q (wipeP σ vs) with
          | none => simp only [eg] at p; exact p.elim
          | some σ1 =>
            simp only [eg] at p
            refine hg ρ ((ct X ρ B).ban1 D).B W (wipeP σ vs) σ1 (wipe σc vs) H2 g' q x _ hW R2 rq eg fun σc1 R3 ag => ?_
            refine ⟨?_, ?_⟩
            · have e2 : wipe (wipe σc vs) vs = wipe σc vs := wipe_eq (wipe_length _ _) fun j hj => wipe_keep hj
              rw [← e2]
              exact wipe_eq ag.1 fun j hj => ag.2 j fun z => hj (hgs j z)
            · refine ht ρ ((ct X ρ B).ban1 D).B W σ1 σc1 H2 g' _ hW R3 ?_
              cases et : dt σ1 g' with
              | stuck => simp only [et, noX] at p; exact p.elim
              | exc _ _ _ _ => simp only [et, noX] at p; exact p.elim
              | ok b g2 =>
                simp only [et, noX, Res.bind_ok] at p
                intro H3 e3 k3
                have ex3 : ∀ b o, H' b = some o → ¬ (ct X ρ B).R b → H3 b = some o := fun b o h n => e3 b o (sm b o h) n
                have R4 := R'.ext (c := (ct X ρ B).ban1 D) ex3 k3
                cases b with
                | false =>
                  have p : Pst (ct X ρ B) W H .frs (compD gd dt dk de (wipeP σ vs) (items.drop (i + 1)) ks ps g2) Q (fun cls dd H' => Wx cls dd σc H') := by simpa using p
                  exact ⟨items.length - (i + 1), by omega, rfl, hlt, g2, ks, ps, acc, R4, fun b o h n => ex3 b o (ex b o h n) n, ex3 _ _ hDa RD, hka, by omega, RepL.ext (c := ((ct X ρ B).ban1 D).ban W) ex3 (fun b hb => .inl (.inl (R.rb b hb))) ra, p⟩
                | true =>
                  have R5 := R3.ext e3 k3
                  refine hk ρ ((ct X ρ B).ban1 D).B W σ1 σc1 H3 g2 _ hW R5 ?_
                  cases evk : dk σ1 g2 with
                  | stuck => simp [evk, noX] at p; exact p.elim
                  | exc _ _ _ _ => simp [evk, noX] at p; exact p.elim
                  | ok yk g3 =>
                    intro vk H4 e4 k4 rvk
                    have R6 := R5.ext e4 k4
                    simp only [evk, noX, Res.bind_ok, if_pos] at p
                    cases ekk : keyP yk with
                    | none => simp only [ekk] at p; exact p.elim
                    | some k =>
                      simp only [ekk] at p
                      refine he ρ ((ct X ρ B).ban1 D).B W σ1 σc1 H4 g3 _ hW R6 ?_
                      cases ev : de σ1 g3 with
                      | stuck => simp [ev, noX] at p; exact p.elim
                      | exc _ _ _ _ => simp [ev, noX] at p; exact p.elim
                      | ok y g4 =>
                        simp only [ev, noX, Res.bind_ok] at p
                        intro v H5 e5 k5 rv
                        have ex5 : ∀ b o, H' b = some o → ¬ (ct X ρ B).R b → H5 b = some o := fun b o h n => e5 b o (e4 b o (ex3 b o h n) n) n
                        have hD5 := ex5 _ _ hDa RD
                        obtain ⟨z1, z2⟩ := putK_zip k v hka
                        refine ⟨ks.zip acc, k, keyP_rep (.inl rvk) ekk, hD5, by rw [List.length_zip]; omega, items.length - (i + 1), by omega, rfl, hlt, g4, putKs ks k, putVs ks ps k y, putVs ks acc k v, ?_, ?_, by rw [upd_same, z1], z2, by have := putKs_len ks k; omega, ?_, p⟩
                        · exact (R'.ext (c := (ct X ρ B).ban1 D) ex5 k5).updB bD RD (fun u hu => by rw [hD5] at hu; cases hu; trivial)
                        · intro b o h n
                          rw [upd_ne (ne_of_none h hD)]
                          exact ex5 b o (ex b o h n) n
                        · have aw : ∀ b u, H5 b = some u → ¬ (((ct X ρ B).ban1 D).ban W).B b → upd H5 D (.dK (putK (ks.zip acc) k v)) b = some u := fun b u hb n => by
                            rw [upd_ne (fun e => n (by rw [e]; exact .inl (.inr rfl)))]; exact hb
                          exact RepL.away (c := ((ct X ρ B).ban1 D).ban W) aw (putVs_rep rv (RepL.ext (c := ((ct X ρ B).ban1 D).ban W) ex5 (fun b hb => .inl (.inl (R.rb b hb))) ra))
        · have e : i = items.length := by omega
          subst e
          refine .inl ⟨wk.stop H' _ stay (Nat.le_refl _), ?_⟩
          rw [List.drop_length] at p
          have p : Pst (ct X ρ B) W H .frs (.ok (.dct ks ps) g') Q (fun cls dd H' => Wx cls dd σc H') := p
          refine p (.ref D) H' (fun b o h n => ex b o (e1 b o h n) n) R'.rg ⟨D, rfl, hDH, acc, hDa, hka, ?_⟩
          exact RepL.ban (c := ((ct X ρ B).ban1 D).ban W) (fun b hb => .inl (by
            rcases hb with (hb | hb) | hb
            · exact .inl (.inl hb)
            · exact .inr hb
            · exact .inl (.inr hb))) ra
      · rw [if_neg hsz] at p; exact p.elim
  exact hdi ρ B W σ σc H g _ hW R key
theorem se_dc {tg iter kx elt : Expr} {ifs : List Expr} {scope : Scope} {own : List (Str × Nat)} {pos : Pos} {gs : List Nat} {di : DenL} {gd : DenG} {dt : DenT} {dk de : Den} (hc : X.calm = true) (hN : X.N.Nodup) (ok : BlkOk X.N X.env.scope scope own) (hi : SI X Wx Wk tg iter di)
    (hg : ∀ s H C cl fp, SG (Blk X scope s H C cl fp) Wk gs tg gd) (ht : ∀ s H C cl fp, STs (Blk X scope s H C cl fp) Wx0 Wk ifs dt) (hk : ∀ s H C cl fp, SE (Blk X scope s H C cl fp) Wx0 Wk .rep kx dk) (he : ∀ s H C cl fp, SE (Blk X scope s H C cl fp) Wx0 Wk .rep elt de)
    (hgs : ∀ j ∈ gs, j ∈ own.map (·.2) := by decide) (hvs : ∀ j ∈ own.map (·.2), j ∉ Wk := by decide) (hs : ∀ x, foldedSetIterable iter X.env x = pure x := by intro _; rfl) :
    SE X Wx Wk .frs (.DictComp kx elt [⟨tg, iter, ifs, 0⟩] scope pos) (dDComp di (own.map (·.2)) gd dt dk de) := by
  obtain ⟨wi, hwi, hdi⟩ := hi
  refine ⟨_, pe_dc (g := tGt X.K X.mg Wk gs gd) (tt := tTs X.K X.mg Wx0 Wk dt) (tk := tE X.K X.mg Wx0 Wk .rep dk) (tv := tE X.K X.mg Wx0 Wk .rep de) hc hN hwi ok (fun s H C cl fp => (hg s H C cl fp).pe) (fun s H C cl fp => (ht s H C cl fp).pe) (fun s H C cl fp => (hk s H C cl fp).pe) (fun s H C cl fp => (he s H C cl fp).pe) hs, fun ρ B W σ σc H g Q hW R p => ?_⟩
  exact dc_read hdi (fun ρ B W σ σ' σc H g p v Q hW R rp eg k => ⟨ρ, B, W, σ, σ', g, p, hW, R, rp, eg, k⟩) (fun ρ B W σ σc H g Q hW R p => ⟨ρ, B, W, σ, g, hW, R, p⟩) (fun ρ B W σ σc H g Q hW R p => ⟨ρ, B, W, σ, g, hW, R, p⟩) (fun ρ B W σ σc H g Q hW R p => ⟨ρ, B, W, σ, g, hW, R, p⟩) hgs hvs hW R p
end
end Tr

namespace Tr
open PySem PySem.Spec PyProof.Rows L2

section
variable {X : Cx} {E : XK} {Wx : WX} {fz Wk Wk' Wk1 : List Nat} {md : Md}
theorem repL_rg {c : Ct} {H : Hp} {a b : Int} : RepL c H (rngP a (b - a).toNat) (rgV a b) := by
  unfold rngP rgV
  induction List.range (b - a).toNat with
  | nil => rfl
  | cons x r ih => exact ⟨_, _, rfl, rfl, ih⟩
def rgOk (a b : Int) : Prop := -1000 ≤ a ∧ a ≤ 1000 ∧ -1000 ≤ b ∧ b ≤ 1000
theorem rgOk_ok {a b : Int} (h : rgOk a b) : L2.RgOk a b := by
  obtain ⟨h1, h2, h3, h4⟩ := h
  exact ⟨by omega, by omega, by omega, by omega, by omega⟩
instance (a b : Int) : Decidable (rgOk a b) := by unfold rgOk; infer_instance
def dLR1 (d : Den) : Den := fun σ g => (d σ g).bind fun p g => match p with | .int n => if rgOk 0 n then .ok (.lst (rngP 0 (n - 0).toNat)) g else .stuck | _ => .stuck
theorem se_listRg1 {a : Expr} {p p2 pos pos2 : Pos} {d : Den} (hc : X.calm = true) (hml : X.mg "list" = none) (hmr : X.mg "range" = none) (h : SE X Wx Wk .brw a d) (hgl : Gl X "list" := by rfl) (hgr : Gl X "range" := by rfl)
    (na : starEach [a] X.env = (false, eval a X.env) :: starEach [] X.env := by rfl) (nb : starEach [.Call (.Name "range" p2) [a] [] pos2] X.env = (false, eval (.Call (.Name "range" p2) [a] [] pos2) X.env) :: starEach [] X.env := by rfl) :
    SE X Wx Wk .frs (.Call (.Name "list" p) [.Call (.Name "range" p2) [a] [] pos2] [] pos) (dLR1 d) := by
  obtain ⟨t, ht, hs⟩ := h
  refine ⟨_, pe_listRg hc hgl hml (prg_1 hgr hmr ht na) nb, fun ρ B W σ σc H g Q hW R p => ?_⟩
  refine hs ρ B W σ σc H g _ hW R (p.bind fun x g1 v H1 _ e1 k1 q1 p => ?_)
  cases x with
  | int n =>
    have p : Pst (ct X ρ B) W H1 .frs (if rgOk 0 n then .ok (.lst (rngP 0 (n - 0).toNat)) g1 else .stuck) Q _ := p
    by_cases hn : rgOk 0 n
    · rw [if_pos hn] at p
      exact ⟨n, q1.int, rgOk_ok hn, fun z hz => p _ _ (Ext.of (same_new hz)) (k1.same (same_new hz)) (val_lst (c := (ct X ρ B).ban W) repL_rg hz)⟩
    · rw [if_neg hn] at p; exact p.elim
  | _ => exact p.elim
def dLR2 (da db : Den) : Den := fun σ g => (da σ g).bind fun p g => (db σ g).bind fun q g => match p, q with | .int m, .int n => if rgOk m n then .ok (.lst (rngP m (n - m).toNat)) g else .stuck | _, _ => .stuck
theorem se_listRg2 {a b : Expr} {p p2 pos pos2 : Pos} {da db : Den} (hc : X.calm = true) (hml : X.mg "list" = none) (hmr : X.mg "range" = none) (ha : SE X Wx Wk .brw a da) (hb : SE X Wx Wk .brw b db) (hgl : Gl X "list" := by rfl) (hgr : Gl X "range" := by rfl)
    (na : starEach [a, b] X.env = (false, eval a X.env) :: starEach [b] X.env := by rfl) (nb : starEach [b] X.env = (false, eval b X.env) :: starEach [] X.env := by rfl) (hp : (backTo pos2 (starEach [b] X.env)).any (·.1) = false := by rfl)
    (nc : starEach [.Call (.Name "range" p2) [a, b] [] pos2] X.env = (false, eval (.Call (.Name "range" p2) [a, b] [] pos2) X.env) :: starEach [] X.env := by rfl) :
    SE X Wx Wk .frs (.Call (.Name "list" p) [.Call (.Name "range" p2) [a, b] [] pos2] [] pos) (dLR2 da db) := by
  obtain ⟨t, ht, hs⟩ := ha
  obtain ⟨t', ht', hs'⟩ := hb
  refine ⟨_, pe_listRg hc hgl hml (prg_2 hgr hmr ht ht' na nb hp) nc, fun ρ B W σ σc H g Q hW R p => ?_⟩
  refine hs ρ B W σ σc H g _ hW R (p.bind fun x g1 v H1 _ e1 k1 q1 p => ?_)
  have R1 := R.ext e1 k1
  refine hs' ρ B W σ σc H1 g1 _ hW R1 (p.bind fun y g2 u H2 _ e2 k2 q2 p => ?_)
  cases x with
  | int m =>
    cases y with
    | int n =>
      have p : Pst (ct X ρ B) W H2 .frs (if rgOk m n then .ok (.lst (rngP m (n - m).toNat)) g2 else .stuck) Q _ := p
      by_cases hn : rgOk m n
      · rw [if_pos hn] at p
        exact ⟨m, n, q1.int, q2.int, rgOk_ok hn, fun z hz => p _ _ (Ext.of (same_new hz)) (k2.same (same_new hz)) (val_lst (c := (ct X ρ B).ban W) repL_rg hz)⟩
      · rw [if_neg hn] at p; exact p.elim
    | _ => exact p.elim
  | _ => exact p.elim
def idxP (y : PV) : List PV → Option Nat
  | [] => none
  | p :: r => if eqP p y = true then some 0 else (idxP y r).map (· + 1)
theorem idxP_spec {c : Ct} {H : Hp} {y : PV} {v : V} (hy : Rep c H y v) (fy : flatP y = true) : ∀ {l : List PV} {xs : List V} {j : Nat}, RepL c H l xs → l.all flatP = true → idxP y l = some j →
    ∃ z, xs[j]? = some z ∧ eqV z v = true ∧ ∀ m z', m < j → xs[m]? = some z' → eqV z' v = false
  | [], _, _, _, _, e => by cases e
  | p :: r, _, j, ⟨u, vs, rfl, h1, h2⟩, f, e => by
    simp only [List.all_cons, Bool.and_eq_true] at f
    unfold idxP at e
    by_cases hp : eqP p y = true
    · rw [if_pos hp] at e
      cases e
      exact ⟨u, rfl, by rw [eqV_rep h1 hy f.1 fy]; exact hp, fun m z' hm => absurd hm (Nat.not_lt_zero m)⟩
    · rw [if_neg hp] at e
      cases q : idxP y r with
      | none => rw [q] at e; cases e
      | some i =>
        rw [q] at e
        cases e
        obtain ⟨z, z1, z2, z3⟩ := idxP_spec hy fy h2 f.2 q
        refine ⟨z, by simpa using z1, z2, fun m z' hm hz => ?_⟩
        cases m with
        | zero =>
          simp at hz
          subst hz
          rw [eqV_rep h1 hy f.1 fy]
          simpa using hp
        | succ m => exact z3 m z' (Nat.lt_of_succ_lt_succ hm) (by simpa using hz)
def oIdx (p q : PV) : Option PV := match p with
  | .lst l => if flatP q = true ∧ l.all flatP = true then (idxP q l).map fun j => .int (j : Nat) else none
  | _ => none
def dIdx (da db : Den) : Den := fun σ g => (da σ g).bind fun p g => match p with | .lst l => (db σ g).bind fun q g => (match oIdx (.lst l) q with | some w => .ok w g | none => .stuck) | _ => .stuck
theorem se_index {o e : Expr} {apos cpos : Pos} {da db : Den} (ha : SE X Wx Wk .brw o da) (hb : SE X Wx Wk .brw e db)
    (hbase : attributeBase o "index" X.env (eval o X.env) = eval o X.env := by rfl)
    (hfew : ((backTo cpos (starEach [e] X.env)).all (fun x => !x.1) && (backToKw cpos (keywordEach [] X.env)).all (fun x => x.1.isSome) && decide ([e].length + ([] : List Keyword).length + (if ([] : List Keyword).isEmpty then 0 else 1) < 30)) = true := by rfl)
    (hline : (apos.endLine == cpos.line) = true := by rfl) (hs : starEach [e] X.env = (false, eval e X.env) :: starEach [] X.env := by rfl) (hplain : (backTo cpos (starEach [] X.env)).any (·.1) = false := by rfl) :
    SE X Wx Wk .rep (.Call (.Attribute o "index" apos) [e] [] cpos) (dIdx da db) := by
  obtain ⟨t, ht, hh⟩ := ha
  obtain ⟨t', ht', hh'⟩ := hb
  refine ⟨_, pe_bm PySem.F.plainAttrs_list PySem.F.slot_list_index PySem.F.type_list_index mt_index ht (pa_cons ht' pa_nil hs) hbase hfew hline hs hplain, fun ρ B W σ σc H g Q hW R p => ?_⟩
  refine hh ρ B W σ σc H g _ hW R (p.bind fun x g1 v H1 _ e1 k1 q1 p => ?_)
  have R1 := R.ext e1 k1
  cases x with
  | lst l =>
    obtain ⟨a, xs, rfl, h1, k⟩ := RepB.lst q1
    refine ⟨.inl ⟨rfl, xs, .of h1⟩, ?_⟩
    refine hh' ρ B W σ σc H1 g1 _ hW R1 (p.bind fun y g2 u H2 _ e2 k2 q2 p => ?_)
    obtain ⟨a', xs', ea, h1', k'⟩ := RepB.lst (RepB.ext (c := (ct X ρ B).ban W) e2 (Ct.ban_R R.rb) q1)
    cases ea
    cases ew : oIdx (.lst l) y with
    | none => rw [ew] at p; exact p.elim
    | some w =>
      rw [ew] at p
      have ew : (if flatP y = true ∧ l.all flatP = true then (idxP y l).map fun j => PV.int (j : Nat) else none) = some w := ew
      by_cases hf : flatP y = true ∧ l.all flatP = true
      · rw [if_pos hf] at ew
        cases ej : idxP y l with
        | none => rw [ej] at ew; cases ew
        | some j =>
          rw [ej] at ew
          cases ew
          obtain ⟨z, z1, z2, z3⟩ := idxP_spec (flat_repB' q2 hf.1) hf.1 k' hf.2 ej
          exact ⟨a, xs', u, j, z, rfl, rfl, .of h1', flat_repB q2 hf.1, flat_all k' hf.2, z1, z2, z3, p _ H2 (Ext.refl _ _) k2 rfl⟩
      · rw [if_neg hf] at ew; cases ew
  | _ => exact p.elim
def lePr (a b : Int × Int) : Bool := if a.1 = b.1 then decide (a.2 ≤ b.2) else decide (a.1 < b.1)
def pairs2 : List PV → Option (List (Int × Int))
  | [] => some []
  | .tup [.int i, .int j] :: r => (pairs2 r).map ((i, j) :: ·)
  | _ => none
def insPr (x : Int × Int) : List (Int × Int) → List (Int × Int)
  | [] => [x]
  | y :: r => if lePr x y = true then x :: y :: r else y :: insPr x r
def sortPr : List (Int × Int) → List (Int × Int)
  | [] => []
  | x :: r => insPr x (sortPr r)
def tup2 (x : Int × Int) : PV := .tup [.int x.1, .int x.2]
theorem lePr_iff {a b : Int × Int} : lePr a b = true ↔ a.1 < b.1 ∨ (a.1 = b.1 ∧ a.2 ≤ b.2) := by
  unfold lePr
  split
  · rw [decide_eq_true_eq]; omega
  · rw [decide_eq_true_eq]; omega
theorem insPr_perm (x : Int × Int) : ∀ l, (insPr x l).Perm (x :: l)
  | [] => .refl _
  | y :: r => by
    unfold insPr
    split
    · exact .refl _
    · exact ((insPr_perm x r).cons y).trans (.swap x y r)
theorem sortPr_perm : ∀ l, (sortPr l).Perm l
  | [] => .refl _
  | x :: r => (insPr_perm x _).trans ((sortPr_perm r).cons x)
theorem insPr_sorted (x : Int × Int) : ∀ {l : List (Int × Int)}, l.Pairwise (fun a b => lePr a b = true) → (insPr x l).Pairwise (fun a b => lePr a b = true)
  | [], _ => List.pairwise_singleton _ _
  | y :: r, h => by
    unfold insPr
    have h' := List.pairwise_cons.mp h
    split
    · rename_i hxy
      refine List.pairwise_cons.mpr ⟨fun z hz => ?_, h⟩
      rcases List.mem_cons.mp hz with rfl | hz
      · exact hxy
      · have a := lePr_iff.mp hxy
        have b := lePr_iff.mp (h'.1 z hz)
        exact lePr_iff.mpr (by omega)
    · rename_i hxy
      refine List.pairwise_cons.mpr ⟨fun z hz => ?_, insPr_sorted x h'.2⟩
      rcases List.mem_cons.mp ((insPr_perm x r).mem_iff.mp hz) with rfl | hz
      · have a : ¬ (z.1 < y.1 ∨ (z.1 = y.1 ∧ z.2 ≤ y.2)) := fun q => hxy (lePr_iff.mpr q)
        exact lePr_iff.mpr (by omega)
      · exact h'.1 z hz
theorem sortPr_sorted : ∀ l, (sortPr l).Pairwise (fun a b => lePr a b = true)
  | [] => .nil
  | x :: r => insPr_sorted x (sortPr_sorted r)
theorem sortedPr_unique : ∀ {l m : List (Int × Int)}, l.Perm m → l.Pairwise (fun a b => lePr a b = true) → m.Pairwise (fun a b => lePr a b = true) → l = m
  | [], m, h, _, _ => by rw [List.Perm.nil_eq h]
  | x :: l, [], h, _, _ => by exact absurd h.length_eq (by simp)
  | x :: l, y :: m, h, h1, h2 => by
    have a := List.pairwise_cons.mp h1
    have b := List.pairwise_cons.mp h2
    have hx : x ∈ y :: m := h.mem_iff.mp (by simp)
    have hy : y ∈ x :: l := h.mem_iff.mpr (by simp)
    have e : x = y := by
      rcases List.mem_cons.mp hx with e | hx
      · exact e
      · rcases List.mem_cons.mp hy with e | hy
        · exact e.symm
        · have p := lePr_iff.mp (a.1 y hy)
          have q := lePr_iff.mp (b.1 x hx)
          exact Prod.ext (by omega) (by omega)
    subst e
    rw [sortedPr_unique (List.Perm.cons_inv h) a.2 b.2]
/-- the pair at a reference -/
def kOf (H : Hp) : V → Int × Int
  | .ref t => (match H t with | some (.tup [.int i, .int j]) => (i, j) | _ => (0, 0))
  | _ => (0, 0)
theorem pairs2_rep {c : Ct} {H : Hp} : ∀ {l : List PV} {xs : List V} {ps : List (Int × Int)}, pairs2 l = some ps → RepL c H l xs → xs.map (kOf H) = ps ∧ ∀ x ∈ xs, ∃ t, x = .ref t ∧ ¬ c.B t ∧ H t = some (.tup [.int (kOf H x).1, .int (kOf H x).2])
  | [], xs, ps, e, h => by cases e; cases h; exact ⟨rfl, fun _ z => by cases z⟩
  | p :: r, _, ps, e, ⟨v, vs, rfl, h1, h2⟩ => by
    unfold pairs2 at e
    split at e
    · rename_i e0; cases e0
    · rename_i i j r' e0
      cases e0
      cases q : pairs2 r with
      | none => rw [q] at e; cases e
      | some qs =>
        rw [q] at e
        cases e
        obtain ⟨t, us, rfl, ht, v1, w1, rfl, e1, v2, w2, rfl, e2, e3⟩ := h1
        have e1 : v1 = .int i := e1
        have e2 : v2 = .int j := e2
        have e3 : w2 = [] := e3
        subst e1 e2 e3
        have ht : ¬ c.B t ∧ H t = some (.tup [.int i, .int j]) := ht.elim id False.elim
        obtain ⟨ih1, ih2⟩ := pairs2_rep q h2
        have ek : kOf H (.ref t) = (i, j) := by simp only [kOf, ht.2]
        refine ⟨by rw [List.map_cons, ih1, ek], fun x hx => ?_⟩
        rcases List.mem_cons.mp hx with rfl | hx
        · exact ⟨t, rfl, ht.1, by rw [ek]; exact ht.2⟩
        · exact ih2 x hx
    · cases e
def oSortP : List PV → Option PV
  | [.lst l] => (pairs2 l).map fun ps => .lst ((sortPr ps).map tup2)
  | _ => none
theorem cd_sortP : CallD X (.builtin "sorted") .frs oSortP := ⟨_, cr_sortedPO, fun c ps w vs H Q ek _ hd rp ho hq => by
  unfold oSortP at ho
  split at ho
  · rename_i l
    cases e : pairs2 l with
    | none => rw [e] at ho; cases ho
    | some prs =>
      rw [e] at ho
      cases ho
      obtain ⟨v, rfl, r⟩ := rp.one
      obtain ⟨a, xs, rfl, h1, k⟩ := r.lst
      obtain ⟨m1, m2⟩ := pairs2_rep e k
      refine ⟨a, xs, kOf H, rfl, .of h1, fun x hx => let ⟨t, e1, _, e2⟩ := m2 x hx; ⟨t, e1, e2⟩, fun ys z hs hst hz => ?_⟩
      have hp : ys.Perm xs := hst.perm
      have es : ys.map (kOf H) = sortPr prs := by
        refine sortedPr_unique ((hp.map _).trans (by rw [m1]; exact (sortPr_perm prs).symm)) ?_ (sortPr_sorted prs)
        rw [List.pairwise_map]
        refine List.Pairwise.imp (fun {x y} hxy => ?_) hs
        have : ¬ ((kOf H y).1 < (kOf H x).1 ∨ ((kOf H y).1 = (kOf H x).1 ∧ (kOf H y).2 < (kOf H x).2)) := SrtO.lexB_no.mp hxy
        exact lePr_iff.mpr (by omega)
      have rl : RepL c H ((sortPr prs).map tup2) ys := by
        rw [← es, List.map_map]
        have : ∀ {zs : List V}, (∀ x ∈ zs, x ∈ xs) → RepL c H (zs.map (tup2 ∘ kOf H)) zs := by
          intro zs
          induction zs with
          | nil => intro _; rfl
          | cons x zs ih =>
            intro hz
            obtain ⟨t, e1, e2, e3⟩ := m2 x (hz x (by simp))
            refine ⟨x, zs, rfl, ?_, ih fun y hy => hz y (by simp [hy])⟩
            exact ⟨t, _, e1, .inl ⟨e2, e3⟩, _, _, rfl, rfl, _, _, rfl, rfl, rfl⟩
        exact this fun x hx => hp.mem_iff.mp hx
      exact hq _ _ (same_new hz) (val_lst rl hz)
  · cases ho⟩
def oSort (p : List PV) : Option PV := por (oSortI p) (oSortP p)
theorem cd_sorted : CallD X (.builtin "sorted") .frs oSort := cd_sortI.or cd_sortP
end
end Tr

namespace Tr
open PySem PySem.Spec PyProof.Rows L2

def iabs (c : Int) : Int := if c < 0 then -c else c
/-- cells are taken while no digits are left -/
def drain : List Int → Int → Int → List Int × Int × Int
  | [], cur, mix => ([], cur, mix)
  | c :: r, cur, mix => if cur = 0 then drain r (if iabs c ≥ 1000000000000000000 then iabs c else 0) ((mix * 6151 + iabs c + 5) % 2147483647) else (c :: r, cur, mix)
def mixed (mix cnt : Int) : Int := (mix + 7907 * cnt + 104723) ^ 5 % 2147483629
def pickR (g : Rg) (n : Int) : Int :=
  let d := drain g.cells g.cur g.mix
  if d.2.1 > 0 then d.2.1 % n else (mixed d.2.2 (g.cnt + 1) * 48271 + 30011 * (g.cnt + 1) + 31) ^ 3 % 1000000007 % n
def pickG (g : Rg) (n : Int) : Rg :=
  let d := drain g.cells g.cur g.mix
  if d.2.1 > 0 then ⟨d.1, d.2.1 / n, g.cnt + 1, d.2.2⟩ else ⟨d.1, d.2.1, g.cnt + 1, d.2.2⟩
theorem pickR_lo {g : Rg} {n : Int} (h : 0 < n) : 0 ≤ pickR g n := by
  unfold pickR
  dsimp only
  split <;> exact Int.emod_nonneg _ (by omega)
theorem pickR_hi {g : Rg} {n : Int} (h : 0 < n) : pickR g n < n := by
  unfold pickR
  dsimp only
  split <;> exact Int.emod_lt_of_pos _ h
theorem pickG_cnt (g : Rg) (n : Int) : (pickG g n).cnt = g.cnt + 1 := by
  unfold pickG
  dsimp only
  split <;> rfl
theorem iabs_nn (c : Int) : 0 ≤ iabs c := by unfold iabs; split <;> omega
theorem drain_ok : ∀ (l : List Int) (cur mix : Int), 0 ≤ cur → 0 ≤ mix → mix < 2147483647 → 0 ≤ (drain l cur mix).2.1 ∧ 0 ≤ (drain l cur mix).2.2 ∧ (drain l cur mix).2.2 < 2147483647 ∧ (drain l cur mix).1.length ≤ l.length
  | [], cur, mix, h1, h2, h3 => ⟨h1, h2, h3, Nat.le_refl _⟩
  | c :: r, cur, mix, h1, h2, h3 => by
    unfold drain
    split
    · have hc := iabs_nn c
      obtain ⟨a, b, d, e⟩ := drain_ok r (if iabs c ≥ 1000000000000000000 then iabs c else 0) ((mix * 6151 + iabs c + 5) % 2147483647) (by split <;> omega) (Int.emod_nonneg _ (by decide)) (Int.emod_lt_of_pos _ (by decide))
      exact ⟨a, b, d, Nat.le_trans e (Nat.le_succ _)⟩
    · exact ⟨h1, h2, h3, Nat.le_refl _⟩
def dPick : DDen := fun ps g => match ps with
  | [.rng, .int n] => if 0 < n ∧ n < 1000000 ∧ g.cnt < 1000000000 then .ok (.int (pickR g n)) (pickG g n) else .stuck
  | _ => .stuck
/-- what stands at the two lists -/
def pickI (p q : Addr) (H0 H : Hp) (cells : List Int) (cur cnt mix : Int) : Prop :=
  H p = some (.lst [.ref q, .int cur, .int cnt, .int mix]) ∧ H q = some (.lst (cells.map .int)) ∧ ∀ b o, H0 b = some o → b ≠ p → b ≠ q → H b = some o
theorem fdiv_pos {a b : Int} (h : 0 < b) : a.fdiv b = a / b := Int.fdiv_eq_ediv_of_nonneg a (by omega)
theorem fmod_pos {a b : Int} (h : 0 < b) : a.fmod b = a % b := Int.fmod_eq_emod_of_nonneg a (by omega)
theorem drain_step {c : Int} {r : List Int} {mix : Int} : drain (c :: r) 0 mix = drain r (if iabs c ≥ 1000000000000000000 then iabs c else 0) ((mix * 6151 + iabs c + 5) % 2147483647) := by
  rw [drain, if_pos rfl]
theorem drain_stop {l : List Int} {cur mix : Int} (h : ¬ cur = 0) : drain l cur mix = (l, cur, mix) := by
  cases l with
  | nil => rfl
  | cons c r => rw [drain, if_neg h]
theorem eqv_nil (l : List Int) : PyData.eqv (.list (l.map .int)) (.list []) = l.isEmpty := by
  cases l with
  | nil => rfl
  | cons a r => rfl
theorem depth_ints : ∀ l : List Int, PyData.depthAll (l.map PyData.int) ≤ 0
  | [] => by simp [PyData.depthAll]
  | a :: r => by simp [PyData.depthAll, PyData.depth]; exact Nat.le_zero.mp (depth_ints r)
theorem lay_ints : ∀ l : List Int, PyData.canLayAll0 (l.map PyData.int) = true
  | [] => by simp [PyData.canLayAll0]
  | a :: r => by simp [PyData.canLayAll0, PyData.canLay0]; exact lay_ints r
theorem shaped_ints (l : List Int) : SeqAt.shaped (.list (l.map .int)) = true := by
  have h := depth_ints l
  simp [SeqAt.shaped, PyData.canLay0, PyData.depth, lay_ints l]
  omega
theorem dp_ints {K : PySem.W.Frag} {H : Hp} : ∀ l : List Int, DpAll K H (l.map V.int) (l.map PyData.int)
  | [] => .nil
  | a :: r => .cons (.int a) (dp_ints r)
end Tr
namespace Tr
open PySem PySem.Spec PyProof.Rows L2
theorem pickI.new {p q : Addr} {H0 H : Hp} {cells : List Int} {cur cnt mix : Int} {z : Addr} {o : HO} (h : pickI p q H0 H cells cur cnt mix) (hz : H z = none) : pickI p q H0 (upd H z o) cells cur cnt mix :=
  ⟨same_new hz _ _ h.1, same_new hz _ _ h.2.1, fun b u e n1 n2 => same_new hz _ _ (h.2.2 b u e n1 n2)⟩
theorem pickI.setP {p q : Addr} {H0 H : Hp} {cells : List Int} {cur cnt mix cur' cnt' mix' : Int} (hne : p ≠ q) (h : pickI p q H0 H cells cur cnt mix) {xs : List V} (e : xs = [.ref q, .int cur', .int cnt', .int mix']) : pickI p q H0 (upd H p (.lst xs)) cells cur' cnt' mix' :=
  ⟨by rw [upd_same, e], by rw [upd_ne (Ne.symm hne)]; exact h.2.1, fun b u q1 n1 n2 => by rw [upd_ne n1]; exact h.2.2 b u q1 n1 n2⟩
theorem pickI.setQ {p q : Addr} {H0 H : Hp} {cells cells' : List Int} {cur cnt mix : Int} (hne : p ≠ q) (h : pickI p q H0 H cells cur cnt mix) {xs : List V} (e : xs = cells'.map .int) : pickI p q H0 (upd H q (.lst xs)) cells' cur cnt mix :=
  ⟨by rw [upd_ne hne]; exact h.1, by rw [upd_same, e], fun b u q1 n1 n2 => by rw [upd_ne n2]; exact h.2.2 b u q1 n1 n2⟩
end Tr

namespace Tr
open PySem PySem.Spec PyProof.Rows L2

theorem nodup_inj {α β : Type} {f : α → β} : ∀ {l : List α}, (l.map f).Nodup → ∀ {x y}, x ∈ l → y ∈ l → f x = f y → x = y
  | [], _, x, y, hx, _, _ => by cases hx
  | a :: l, hn, x, y, hx, hy, he => by
    have hn' := List.nodup_cons.mp (show (f a :: l.map f).Nodup from hn)
    rcases List.mem_cons.mp hx with e1 | hx1
    · rcases List.mem_cons.mp hy with e2 | hy1
      · rw [e1, e2]
      · exact absurd (List.mem_map.mpr ⟨y, hy1, by rw [← he, e1]⟩) hn'.1
    · rcases List.mem_cons.mp hy with e2 | hy1
      · exact absurd (List.mem_map.mpr ⟨x, hx1, by rw [he, e2]⟩) hn'.1
      · exact nodup_inj hn'.2 hx1 hy1 he
section
variable {X : Cx} {E : XK} {Wx : WX} {fz Wk Wk' Wk1 : List Nat} {md : Md}
def hasF (ns : List Str) (f : Str) : Bool := ns.any fun x => decide (x = f)
def putNs (ns : List Str) (f : Str) : List Str := if hasF ns f = true then ns else ns ++ [f]
def putPs {α : Type} : List Str → List α → Str → α → List α
  | [], vs, f, p => vs ++ [p]
  | x :: ks, [], f, p => [p]
  | x :: ks, v :: vs, f, p => if x = f then p :: vs else v :: putPs ks vs f p
theorem putF_zip : ∀ {ns : List Str} {vs : List V} (f : Str) (p : V), ns.length = vs.length → putF f p (ns.zip vs) = (putNs ns f).zip (putPs ns vs f p) ∧ (putNs ns f).length = (putPs ns vs f p).length
  | [], [], f, p, _ => by simp [putF, putNs, putPs, hasF]
  | [], _ :: _, f, p, h => by simp at h
  | _ :: _, [], f, p, h => by simp at h
  | x :: ks, v :: vs, f, p, h => by
    have hl : ks.length = vs.length := by simpa using h
    obtain ⟨ih1, ih2⟩ := putF_zip (ns := ks) (vs := vs) f p hl
    by_cases hx : x = f
    · subst hx
      simp [putF, putNs, putPs, hasF, List.zip_cons_cons, hl]
    · have e0 : hasF (x :: ks) f = hasF ks f := by simp [hasF, hx]
      have e1 : putNs (x :: ks) f = x :: putNs ks f := by unfold putNs; rw [e0]; split <;> rfl
      rw [e1]
      simp only [putPs, if_neg hx, List.zip_cons_cons, putF, List.length_cons]
      exact ⟨by rw [ih1], by rw [ih2]⟩
theorem putPs_rep {c : Ct} {H : Hp} {f : Str} {p : PV} {v : V} (h : Rep c H p v) : ∀ {ns : List Str} {ps : List PV} {vs : List V}, RepL c H ps vs → RepL c H (putPs ns ps f p) (putPs ns vs f v)
  | [], ps, vs, r => by simp only [putPs]; exact r.append ⟨v, [], rfl, h, rfl⟩
  | x :: ks, [], vs, r => by have r : vs = [] := r; subst r; exact ⟨v, [], rfl, h, rfl⟩
  | x :: ks, q :: ps, _, ⟨u, r, rfl, h1, h2⟩ => by
    simp only [putPs]
    by_cases hx : x = f
    · rw [if_pos hx, if_pos hx]; exact ⟨v, _, rfl, h, h2⟩
    · rw [if_neg hx, if_neg hx]; exact ⟨u, _, rfl, h1, putPs_rep h h2⟩
def onIns (i : Nat) (k : Str) (σ : Sl) (f : List Str → List PV → SRes) : SRes := match σ[i]? with
  | some (some (.ins k' ns ps)) => if k' = k then f ns ps else .stuck
  | _ => .stuck
theorem onIns_cases {c : Ct} {W : Wn} {H : Hp} {Wk' : List Nat} {md : Md} {D : Ends} {E : XK} {i : Nat} {k : Str} {σ : Sl} {f : List Str → List PV → SRes} (p : PstS c W H Wk' md (onIns i k σ f) D E) : ∃ ns ps, σ[i]? = some (some (.ins k ns ps)) ∧ PstS c W H Wk' md (f ns ps) D E := by
  unfold onIns at p
  split at p
  · rename_i k' ns ps e
    by_cases hk : k' = k
    · subst hk
      rw [if_pos rfl] at p
      exact ⟨ns, ps, e, p⟩
    · rw [if_neg hk] at p; exact p.elim
  · exact p.elim
def dFldS (i : Nat) (k f : Str) (d : Den) : DenS := fun σ g => onIns i k σ fun ns ps => (d σ g).bindS fun p g => if ns.length < 1000 then .next (σ.set i (some (.ins k (putNs ns f) (putPs ns ps f p)))) g else .stuck
theorem own_ins {c : Ct} {W : Wn} {σ : Sl} {σc : L2.St} {H : Hp} {g : Rg} {w : Nat × Addr} {k : Str} {ns : List Str} {ps : List PV} (R : Rel c W σ σc H g) (hw : w ∈ W) (e : σ[w.1]? = some (some (.ins k ns ps))) :
    ∃ C dx vs, σc[w.1]? = some (some (.ref w.2)) ∧ c.mg k = some (.ref C) ∧ H w.2 = some (.ins C dx (ns.zip vs)) ∧ ns.length = vs.length ∧ RepL (c.ban W) H ps vs := by
  obtain ⟨q, h1, h2, h3⟩ := R.own w hw
  rw [e] at h1; cases h1
  obtain ⟨C, dx, vs, h4⟩ := h3
  exact ⟨C, dx, vs, h2, h4⟩
theorem new_ins {c : Ct} {W : Wn} {σ : Sl} {σc : L2.St} {H : Hp} {g : Rg} {w : Nat × Addr} {k : Str} {ns : List Str} {ps : List PV} {C dx : Addr} {vs : List V} (R : Rel c W σ σc H g) (hw : w ∈ W) (hm : c.mg k = some (.ref C)) (hl : ns.length = vs.length) (r : RepL (c.ban W) H ps vs) :
    Rel c W (σ.set w.1 (some (.ins k ns ps))) σc (L2.upd H w.2 (.ins C dx (ns.zip vs))) g := by
  refine R.upd hw ⟨C, dx, vs, hm, upd_same, hl, RepL.away (c := c.ban W) (fun b u hb n => ?_) r⟩
  have : b ≠ w.2 := fun e => n (by rw [e]; exact .inr (List.mem_map.mpr ⟨w, hw, rfl⟩))
  rw [upd_ne this]; exact hb
theorem ss_fldS (i : Nat) {k f : Str} {x : Str} {e : Expr} {px pos' pos : Pos} {d : Den} (T : ClF X.K X.mg k) (nf : ∀ C, X.mg k = some (.ref C) → NoAttr X.K C f) (h : SE X (WE0 E) Wk .rep e d) (hi : i ∈ Wk := by decide) (hN : X.N[i]? = some x := by rfl) (hv : Vis X.env.scope x := by first | exact Or.inl rfl | exact Or.inr (Or.inl rfl) | exact Or.inr (Or.inr rfl)) (hd : (x == ("__debug__" : Str)) = false := by decide)
    (hcd : (x == ("__classdict__" : Str)) = false := by decide) (hs : swapsWith e (some (.Attribute (.Name x px) f pos')) pos.line X.env = pure false := by rfl) :
    SS X E fz Wk Wk md (.Assign [.Attribute (.Name x px) f pos'] e pos) (dFldS i k f d) := by
  obtain ⟨t, ht, hh⟩ := h
  refine ⟨_, ps_fld (pe_var hN hv hd hcd) ht hs, fun ρ B W σ σc H g D J hW R jc j p => ?_⟩
  rw [← hW] at hi
  obtain ⟨w, hw, rfl⟩ := List.mem_map.mp hi
  obtain ⟨ns, ps, h1, p⟩ := onIns_cases p
  obtain ⟨C, dx, vs, h2, hm, h4, hl, h5⟩ := own_ins R hw h1
  refine hh ρ B W σ σc H g _ hW R (PstS.bind p fun x g1 v H1 _ e1 k1 q1 p => ?_)
  have R1 := R.ext e1 k1
  have h6 := e1 _ _ h4 (fun z => R.wb w hw (R.rb _ z))
  obtain ⟨C', hm', hc⟩ := T.ex
  have hm : X.mg k = some (.ref C) := hm
  have : C' = C := by rw [hm] at hm'; cases hm'; rfl
  subst this
  by_cases hz : ns.length < 1000
  · rw [if_pos hz] at p
    obtain ⟨z1, z2⟩ := putF_zip f v hl
    refine ⟨_, h2, w.2, C', dx, _, rfl, h6, hc, nf _ hm, by rw [List.length_zip]; omega, ?_⟩
    rw [z1]
    exact p W σc _ hW (upd_w hw) (.refl _ _) (new_ins R1 hw hm z2 (putPs_rep q1 (RepL.ext (c := (ct X ρ B).ban W) e1 (Ct.ban_R R.rb) h5))) j
  · rw [if_neg hz] at p; exact p.elim
structure InF (K : PySem.W.Frag) (mg : Str → Option Value) (k : Str) : Prop where
  ex : ∃ C, mg k = some (.ref C) ∧ Cls K C ∧ PySem.W.findIn K (.ref C) "__class__" = some (some (.builtin "object.__class__")) ∧ PySem.W.specialIn K (.builtin "object.__class__") "__get__" = some (some (.builtin "getset_descriptor.__get__")) ∧
    PySem.W.takesIn K (.builtin "object.__class__") = some true ∧ PySem.W.mroIn K C (.type "object") = some true
/-- an instance of the very class -/
def dIsIn (k : Str) (d : Den) : Den := fun σ g => (d σ g).bind fun p g => match p with
  | .ins k' _ _ => if k' = k then .ok (.bl true) g else .stuck
  | _ => .stuck
theorem se_isIn {k : Str} {e : Expr} {p p2 pos : Pos} {d : Den} (T : InF X.K X.mg k) (h : SE X Wx Wk .brw e d) (hm : X.mg "isinstance" = none) (hg : Gl X "isinstance" := by rfl) (hgx : Gl X k := by rfl) (hd : (k == ("__debug__" : Str)) = false := by decide)
    (hs1 : starEach [e, .Name k p2] X.env = (false, eval e X.env) :: starEach [.Name k p2] X.env := by rfl) (hs2 : starEach [.Name k p2] X.env = (false, eval (.Name k p2) X.env) :: starEach [] X.env := by rfl)
    (hpl : (backTo pos (starEach [.Name k p2] X.env)).any (·.1) = false := by rfl) : SE X Wx Wk .rep (.Call (.Name "isinstance" p) [e, .Name k p2] [] pos) (dIsIn k d) := by
  obtain ⟨C, hC, f1, f2, f3, f4, f5⟩ := T.ex
  obtain ⟨t, ht, hs⟩ := h
  refine ⟨_, pe_callB call_isi hg hm PyProof.Rows.boot_isinstance (pa_cons ht (pa_cons (pe_glob (v := .ref C) hgx hC rfl hd) pa_nil hs2) hs1) (by decide) (by decide) hs1 hpl, fun ρ B W σ σc H g Q hW R p => ?_⟩
  refine hs ρ B W σ σc H g _ hW R (p.bind fun x g1 v H1 _ e1 k1 q1 pp => ?_)
  cases x with
  | ins k' ns ps =>
    by_cases ek : k' = k
    · simp only [if_pos ek] at pp
      obtain ⟨a, C', dx, vs, rfl, hm', h1, hl, rr⟩ := RepB.ins q1
      have : C' = C := by
        have hm' : X.mg k' = some (.ref C') := hm'
        rw [ek, hC] at hm'; cases hm'; rfl
      subst this
      exact ⟨_, .ref C', .ref C', .ref C', true, rfl, .own C', .base (.ins h1 f1 f2 f3 f4 f5), by unfold PySem.W.kitOne; rw [if_pos (beq_self_eq_true _)], pp _ H1 (Ext.refl _ _) k1 rfl⟩
    · simp only [if_neg ek] at pp
      exact pp.elim
  | _ => exact pp.elim
def dAppPop (i j : Nat) (d : Den) : DenS := fun σ g => onLst i σ fun l => onLst j σ fun m => (d σ g).bindS fun q g => match q with
  | .int k => if -(2 ^ 63) ≤ k ∧ k < 2 ^ 63 then (match ixN m.length k with
      | some n => (match m[n]? with
        | some y => if l.length < sizeLine then .next ((σ.set j (some (.lst (m.eraseIdx n)))).set i (some (.lst (l ++ [y])))) g else .stuck
        | none => .stuck)
      | none => .stuck) else .stuck
  | _ => .stuck
theorem ss_appPop (i j : Nat) {x y : Str} {e : Expr} {px py apos cpos apos2 cpos2 pos : Pos} {d : Den} (h : SE X (WE0 E) Wk .brw e d) (hi : i ∈ Wk := by decide) (hj : j ∈ Wk := by decide) (hij : i ≠ j := by decide) (hN : X.N[i]? = some x := by rfl) (hv : Vis X.env.scope x := by first | exact Or.inl rfl | exact Or.inr (Or.inl rfl) | exact Or.inr (Or.inr rfl)) (hd : (x == ("__debug__" : Str)) = false := by decide)
    (hcd : (x == ("__classdict__" : Str)) = false := by decide) (hN' : X.N[j]? = some y := by rfl) (hv' : Vis X.env.scope y := by first | exact Or.inl rfl | exact Or.inr (Or.inl rfl) | exact Or.inr (Or.inr rfl)) (hd' : (y == ("__debug__" : Str)) = false := by decide)
    (hcd' : (y == ("__classdict__" : Str)) = false := by decide) (hbase : attributeBase (.Name x px) "append" X.env (eval (.Name x px) X.env) = eval (.Name x px) X.env := by rfl)
    (hbase' : attributeBase (.Name y py) "pop" X.env (eval (.Name y py) X.env) = eval (.Name y py) X.env := by rfl)
    (hfew : ((backTo cpos (starEach [.Call (.Attribute (.Name y py) "pop" apos2) [e] [] cpos2] X.env)).all (fun x => !x.1) && (backToKw cpos (keywordEach [] X.env)).all (fun x => x.1.isSome) && decide ([Expr.Call (.Attribute (.Name y py) "pop" apos2) [e] [] cpos2].length + ([] : List Keyword).length + (if ([] : List Keyword).isEmpty then 0 else 1) < 30)) = true := by rfl)
    (hfew' : ((backTo cpos2 (starEach [e] X.env)).all (fun x => !x.1) && (backToKw cpos2 (keywordEach [] X.env)).all (fun x => x.1.isSome) && decide ([e].length + ([] : List Keyword).length + (if ([] : List Keyword).isEmpty then 0 else 1) < 30)) = true := by rfl)
    (hline : (apos.endLine == cpos.line) = true := by rfl) (hs : starEach [.Call (.Attribute (.Name y py) "pop" apos2) [e] [] cpos2] X.env = (false, eval (.Call (.Attribute (.Name y py) "pop" apos2) [e] [] cpos2) X.env) :: starEach [] X.env := by rfl) (hplain : (backTo cpos (starEach [] X.env)).any (·.1) = false := by rfl)
    (hline' : (apos2.endLine == cpos2.line) = true := by rfl) (hs' : starEach [e] X.env = (false, eval e X.env) :: starEach [] X.env := by rfl) (hplain' : (backTo cpos2 (starEach [] X.env)).any (·.1) = false := by rfl)
    (hsw : swapsWith (.Call (.Attribute (.Name x px) "append" apos) [.Call (.Attribute (.Name y py) "pop" apos2) [e] [] cpos2] [] cpos) none pos.line X.env = pure false := by rfl) :
    SS X E fz Wk Wk md (.Expr (.Call (.Attribute (.Name x px) "append" apos) [.Call (.Attribute (.Name y py) "pop" apos2) [e] [] cpos2] [] cpos) pos) (dAppPop i j d) := by
  obtain ⟨t, ht, hh⟩ := h
  refine ⟨_, ps_expr (pe_bm PySem.F.plainAttrs_list PySem.F.slot_list_append PySem.F.type_list_append mt_append (pe_var hN hv hd hcd) (pa_cons (pe_bm PySem.F.plainAttrs_list PySem.F.slot_list_pop PySem.F.type_list_pop mt_popAt (pe_var hN' hv' hd' hcd') (pa_cons ht pa_nil hs') hbase' hfew' hline' hs' hplain') pa_nil hs) hbase hfew hline hs hplain) hsw, fun ρ B W σ σc H g D J hW R jc jj p => ?_⟩
  rw [← hW] at hi hj
  obtain ⟨w, hw, rfl⟩ := List.mem_map.mp hi
  obtain ⟨w', hw', rfl⟩ := List.mem_map.mp hj
  obtain ⟨l, h1, p⟩ := onLst_cases p
  obtain ⟨m, h1', p⟩ := onLst_cases p
  obtain ⟨xs, h2, h4, h5⟩ := own_lst R hw h1
  obtain ⟨ys, h2', h4', h5'⟩ := own_lst R hw' h1'
  refine ⟨_, h2, .inl ⟨rfl, xs, .of h4⟩, _, h2', .inl ⟨rfl, ys, .of h4'⟩, ?_⟩
  refine hh ρ B W σ σc H g _ hW R (PstS.bind p fun q g1 v H1 _ e1 k1 q1 p => ?_)
  have R1 := R.ext e1 k1
  have h6 := e1 _ _ h4 (fun z => R.wb w hw (R.rb _ z))
  have h6' := e1 _ _ h4' (fun z => R.wb w' hw' (R.rb _ z))
  cases q with
  | int k =>
    have p : PstS (ct X ρ B) W H1 Wk md (if -(2 ^ 63) ≤ k ∧ k < 2 ^ 63 then (match ixN m.length k with
      | some n => (match m[n]? with
        | some y => if l.length < sizeLine then .next ((σ.set w'.1 (some (.lst (m.eraseIdx n)))).set w.1 (some (.lst (l ++ [y])))) g1 else .stuck
        | none => .stuck)
      | none => .stuck) else .stuck) (jD D J) E := p
    by_cases hk : -(2 ^ 63) ≤ k ∧ k < 2 ^ 63
    · rw [if_pos hk] at p
      cases en : ixN m.length k with
      | none => rw [en] at p; exact p.elim
      | some n =>
        rw [en] at p
        cases ey : m[n]? with
        | none => simp only [ey] at p; exact p.elim
        | some y =>
          simp only [ey] at p
          by_cases hl : l.length < sizeLine
          · rw [if_pos hl] at p
            obtain ⟨z, ez, rz⟩ := RepL.get (RepL.ext (c := (ct X ρ B).ban W) e1 (Ct.ban_R R.rb) h5') ey
            have hsq := (ixN_seq (show ixN ys.length k = some n by rw [← h5'.length]; exact en)).1
            refine ⟨w'.2, ys, k, n, z, rfl, by rw [q1.int], h6', hk.1, hk.2, hsq, ez, ?_⟩
            have hne : w.2 ≠ w'.2 := fun e => hij (congrArg (·.1) (nodup_inj R.nda hw hw' e))
            have R2 := new_lst R1 hw' (RepL.eraseIdx n (RepL.ext (c := (ct X ρ B).ban W) e1 (Ct.ban_R R.rb) h5'))
            have aw : ∀ b u, H1 b = some u → ¬ ((ct X ρ B).ban W).B b → upd H1 w'.2 (.lst (ys.eraseIdx n)) b = some u := fun b u hb nb => by
              rw [upd_ne (fun e => nb (by rw [e]; exact .inr (List.mem_map.mpr ⟨w', hw', rfl⟩)))]; exact hb
            have R3 := new_lst R2 hw (l := l ++ [y]) (xs := xs ++ [z]) (RepL.append (RepL.away (c := (ct X ρ B).ban W) aw (RepL.ext (c := (ct X ρ B).ban W) e1 (Ct.ban_R R.rb) h5)) ⟨z, [], rfl, Rep.away (c := (ct X ρ B).ban W) aw rz, rfl⟩)
            refine ⟨w.2, xs, z, rfl, rfl, by rw [upd_ne hne]; exact h6, by rw [← h5.length]; exact hl, ?_⟩
            refine p W σc _ hW (fun b u hb nr nw => ?_) (.refl _ _) R3 jj
            have n1 : b ≠ w.2 := fun e => nw (by rw [e]; exact List.mem_map.mpr ⟨w, hw, rfl⟩)
            have n2 : b ≠ w'.2 := fun e => nw (by rw [e]; exact List.mem_map.mpr ⟨w', hw', rfl⟩)
            rw [upd_ne n1, upd_ne n2]; exact hb
          · rw [if_neg hl] at p; exact p.elim
    · rw [if_neg hk] at p; exact p.elim
  | _ => exact p.elim
end
end Tr

namespace Tr
open PySem PySem.Spec PyProof.Rows L2
structure Bt (mg : Str → Option Value) : Prop where
  abs : mg "abs" = none
  all : mg "all" = none
  any : mg "any" = none
  bool : mg "bool" = none
  dict : mg "dict" = none
  enumerate : mg "enumerate" = none
  int : mg "int" = none
  isinstance : mg "isinstance" = none
  len : mg "len" = none
  list : mg "list" = none
  max : mg "max" = none
  min : mg "min" = none
  range : mg "range" = none
  sorted : mg "sorted" = none
  str : mg "str" = none
  sum : mg "sum" = none
  tuple : mg "tuple" = none
  zip : mg "zip" = none
section
variable {P : Program} {w : World} {K : PySem.W.Frag} {mg : Str → Option Value} {base : Heap}
/-- nothing promised -/
theorem fok_zero {x : Str} {f : Addr} {fd : FuncData} {ps : List Str} {n k : Nat} {md : Md} (hm : mg x = some (.ref f)) (hk : PySem.W.keepIn K (.ref f) = true) (hb : Binds K fd ps []) (hn : ps.length = n) :
    FOk P w K mg base x n k md (fun _ _ => .stuck) := by
  subst hn
  exact ⟨f, fd, ps, hm, hk, hb, rfl, ⟨fun vs H Q E h => h.1, fun A outer s H args us vs Q E hr he hb hv h => by
    obtain ⟨_, ρ, B, qs, g, _, _, p⟩ := h
    exact p.elim⟩⟩
end
theorem Rel.banN {c : Ct} {W : Wn} {σ : Sl} {σc : L2.St} {H H' : Hp} {g g' : Rg} {a : Addr} (r : Rel c W σ σc H g) (e : Ext c H H') (k : RgOk c H' g') (ha : H a = none) (h' : H' a ≠ none) : Rel (c.ban1 a) W σ σc H' g' := by
  have bn : ∀ b, ((c.ban1 a).ban W).B b → (c.ban W).B b ∨ H b = none := fun b hb => by
    rcases hb with (hb | rfl) | hb
    · exact .inl (.inl hb)
    · exact .inr ha
    · exact .inl (.inr hb)
  refine ⟨r.len, k, fun b hb => .inl (r.rb b hb), fun b hb => ?_, r.ndk, r.nda, fun w hw => ?_, fun j q hq n => ?_, fun w hw => ?_⟩
  · rcases hb with hb | rfl
    · exact dom_ext e k (r.dom b hb)
    · exact h'
  · rintro (hb | hb)
    · exact r.wb w hw hb
    · exact r.wdom a (.inr (List.mem_map.mpr ⟨w, hw, hb⟩)) ha
  · obtain ⟨u, h1, h2⟩ := r.val j q hq n
    exact ⟨u, h1, Rep.ext (c := (c.ban1 a).ban W) e (fun b hb => .inl (.inl (r.rb b hb))) (Rep.ban (c := c.ban W) bn h2)⟩
  · obtain ⟨q, h1, h2, h3⟩ := r.own w hw
    exact ⟨q, h1, h2, Own.ext (c := (c.ban1 a).ban W) e (fun b hb => .inl (.inl (r.rb b hb))) (fun z => r.wb w hw (r.rb _ z)) (Own.ban (c := c.ban W) bn h3)⟩
section
variable {X : Cx} {E : XK} {Wx : WX} {fz Wk Wk' Wk1 : List Nat} {md : Md}
def dParW (i j : Nat) (da db : Den) : DenS := fun σ g => if i < σ.length ∧ j < σ.length then (da σ g).bindS fun p g => (db σ g).bindS fun q g => .next ((σ.set i (some p)).set j (some q)) g else .stuck
theorem RepX.ban1 {c : Ct} {W : Wn} {H : Hp} {a : Addr} {k : Str} {ns : List Str} {ps : List PV} {cls : Value} {d : Option Addr} (q : RepX ((c.ban1 a).ban W) H k ns ps cls d) : RepX c H k ns ps cls d := by
  obtain ⟨C, d', vs, h1, h2, h3, h4, h5, h6, h7⟩ := q
  exact ⟨C, d', vs, h1, h2, h3, fun z => h4 (.inl (.inl z)), h5, h6, RepL.ban (c := (c.ban1 a).ban W) (fun b z => .inl (.inl (.inl z))) h7⟩
theorem ss_parW (i j : Nat) {x y : Str} {a b : Expr} {da db : Den} {px py pt pos : Pos} {kt k2 pt2} (hc : X.calm = true) (hN : X.N.Nodup) (ha : SE X (WE0 E) Wk .frs a da) (hb : SE X (WE0 E) Wk .frs b db) (hwi : i ∉ Wk := by decide) (hwj : j ∉ Wk := by decide) (hzi : i ∉ fz := by decide) (hzj : j ∉ fz := by decide) (hi : X.N[i]? = some x := by rfl) (hj : X.N[j]? = some y := by rfl) (hij : i ≠ j := by decide)
    (hx : X.env.scope.names.lookup x = some .local := by rfl) (hy : X.env.scope.names.lookup y = some .local := by rfl) (hw : swappedStores [.Tuple [.Name x px, .Name y py] kt pt] (.Tuple [a, b] k2 pt2) X.env = pure (some [x, y]) := by rfl)
    (hs : swapsWithSole [.Tuple [.Name x px, .Name y py] kt pt] (.Tuple [a, b] k2 pt2) pos.line X.env = pure false := by rfl)
    (hs1 : starEach [a, b] X.env = (false, eval a X.env) :: starEach [b] X.env := by rfl) (hs2 : starEach [b] X.env = (false, eval b X.env) :: starEach [] X.env := by rfl) :
    SS X E fz Wk (j :: i :: Wk) md (.Assign [.Tuple [.Name x px, .Name y py] kt pt] (.Tuple [a, b] k2 pt2) pos) (dParW i j da db) := by
  obtain ⟨ta, hta, hha⟩ := ha
  obtain ⟨tb, htb, hhb⟩ := hb
  refine ⟨_, ps_par hc hN hi hj hij hx hy (pa_cons hta (pa_cons htb pa_nil hs2) hs1) hw hs, fun ρ B W σ σc H g D J hW R jc jj p => ?_⟩
  have p : PstS (ct X ρ B) W H (j :: i :: Wk) md (if i < σ.length ∧ j < σ.length then (da σ g).bindS fun p g => (db σ g).bindS fun q g => .next ((σ.set i (some p)).set j (some q)) g else .stuck) (jD D J) E := p
  by_cases hl : i < σ.length ∧ j < σ.length
  · rw [if_pos hl] at p
    refine hha ρ B W σ σc H g _ hW R ?_
    cases hda : da σ g with
    | ok x g1 =>
      rw [hda] at p
      have p : PstS (ct X ρ B) W H (j :: i :: Wk) md ((db σ g1).bindS fun q g => .next ((σ.set i (some x)).set j (some q)) g) (jD D J) E := p
      rintro v H1 e1 k1 ⟨a1, rfl, n1, o1⟩
      have R1 := R.setW e1 k1 (by rw [hW]; exact hwi) hl.1 n1 o1
      have R1' := R.banN e1 k1 n1 o1.there
      refine hhb ρ (fun b => B b ∨ b = a1) W σ σc H1 g1 _ hW R1' ?_
      cases hd : db σ g1 with
      | ok y g2 =>
        rw [hd] at p
        rintro u H2 e2 k2 ⟨a2, rfl, n2, o2⟩
        refine ⟨.ref a1, .ref a2, rfl, ?_⟩
        have e2 : Ext (ct X ρ B) H1 H2 := e2
        have k2 : RgOk (ct X ρ B) H2 g2 := k2
        have hj' : j ∉ ((i, a1) :: W).map (·.1) := fun z => by
          rcases List.mem_cons.mp z with e | z
          · exact hij e.symm
          · exact hwj (hW ▸ z)
        have R2 := R1.setW e2 k2 hj' (by simpa using hl.2) n2 (p := y) (Own.ban (c := ((ct X ρ (fun b => B b ∨ b = a1)).ban W).ban1 a2) (fun b hb => .inl (by
          rcases hb with (hb | hb) | hb
          · exact .inl (.inl (.inl hb))
          · rcases List.mem_cons.mp hb with rfl | hb
            · exact .inl (.inl (.inr rfl))
            · exact .inl (.inr hb)
          · exact .inr hb)) o2)
        refine p ((j, a2) :: (i, a1) :: W) _ H2 (by simp [hW]) (e1.trans e2).w (fun b hb => ?_) R2 (jc.set hzj (jc.set hzi jj))
        rcases List.mem_cons.mp hb with hb | hb
        · have hb : b = a2 := hb
          subst hb
          by_cases hr : (ct X ρ B).R b
          · exact absurd n2 (dom_ext e1 k1 (R.dom _ (R.rb _ hr)))
          · cases hq : H b with
            | none => exact .inr rfl
            | some o => have n2 : H1 b = none := n2; rw [e1 _ o hq hr] at n2; cases n2
        · rcases List.mem_cons.mp hb with hb | hb
          · have hb : b = a1 := hb
            subst hb
            exact .inr n1
          · exact .inl hb
      | exc kk ns ps g2 =>
        rw [hd] at p
        exact fun cls dd H' e k1 q => p cls dd H' (e1.trans (show Ext (ct X ρ B) H1 H' from e)).w k1 q.ban1
      | stuck => rw [hd] at p; exact p
    | exc kk ns ps g1 =>
      rw [hda] at p
      exact fun cls dd H' e k1 q => p cls dd H' e.w k1 q.unban
    | stuck => rw [hda] at p; exact p
  · rw [if_neg hl] at p; exact p.elim
end
end Tr

namespace Tr
open PySem PySem.Spec PyProof.Rows L2
section
variable {X : Cx} {E : XK} {md : Md}
abbrev pairL (k f : Str) (m : Int) (l : List PV) (c : Str) : PV := .ins c [k, f] [.int m, .lst l]
def loopE (c k f : Str) (m : Int) (gd : DenG) (dB : Den) : List PV → Sl → List PV → Rg → SRes
  | [], σ, l, g => .next (σ.set 0 (some (pairL k f m l c))) g
  | p :: r, σ, l, g => match gd p σ with
    | some σ1 => (match dB (σ1.set 0 (some (pairL k f m l c))) g with
      | .ok (.int v) g2 => if l.length < sizeLine then loopE c k f m gd dB r σ1 (l ++ [.int v]) g2 else .stuck
      | _ => .stuck)
    | none => .stuck
def dEnds (c k f : Str) (d3 : Den) (di : DenL) (gd : DenG) (dB : Den) (σ : Sl) (g : Rg) : SRes := match σ[(0 : Nat)]? with
  | some (some (.ins c' ns [.int m])) => if c' = c ∧ ns = [k] then (match d3 σ g with
    | .ok (.lst l) g => (match di (σ.set 0 none) g with
      | .ok items g => loopE c k f m gd dB items (σ.set 0 none) l g
      | _ => .stuck)
    | _ => .stuck) else .stuck
  | _ => .stuck
abbrev Ct.ban2 (c : Ct) (a z : Addr) : Ct := { c with B := fun b => c.B b ∨ b = a ∨ b = z }
theorem fill_rep {c : Ct} {σ : Sl} {σc : L2.St} {H : Hp} {g : Rg} {a z : Addr} {q : PV} (r : Rel (c.ban2 a z) [] σ σc H g) (rb : ∀ b, c.R b → c.B b) (h0 : σc[0]? = some (some (.ref a))) (hq : Rep c H q (.ref a)) : Rel c [] (σ.set 0 (some q)) σc H g where
  len := by simp [r.len]
  rg := r.rg
  rb := rb
  dom := fun b h => r.dom b (.inl h)
  ndk := r.ndk
  nda := r.nda
  wb := fun w h => by cases h
  val := fun i p h n => by
    by_cases hi : i = 0
    · subst hi
      have hl : 0 < σ.length := by
        have := (List.getElem?_eq_some_iff.mp h).1
        simpa using this
      rw [List.getElem?_set_self hl] at h
      cases h
      exact ⟨_, h0, Rep.ban (c := c) (fun b hb => .inl (hb.elim id fun z => by cases z)) hq⟩
    · rw [List.getElem?_set_ne (fun e => hi e.symm)] at h
      obtain ⟨u, h1, h2⟩ := r.val i p h n
      exact ⟨u, h1, Rep.ban (c := (c.ban2 a z).ban []) (fun b hb => .inl (.inl (hb.elim .inl fun z => by cases z))) h2⟩
  own := fun w h => by cases h
theorem fill_own {c : Ct} {σ : Sl} {σc : L2.St} {H : Hp} {g : Rg} {a z : Addr} {q : PV} (r : Rel (c.ban2 a z) [] σ σc H g) (rb : ∀ b, c.R b → c.B b) (nb : ¬ c.B a) (hl : 0 < σ.length) (h0 : σc[0]? = some (some (.ref a))) (hq : Own (c.ban [(0, a)]) H a q) : Rel c [(0, a)] (σ.set 0 (some q)) σc H g where
  len := by simp [r.len]
  rg := r.rg
  rb := rb
  dom := fun b h => r.dom b (.inl h)
  ndk := by simp
  nda := by simp
  wb := fun w h => by
    have : w = (0, a) := by simpa using h
    subst this; exact nb
  val := fun i p h n => by
    have hi : i ≠ 0 := fun e => n (by simp [e])
    rw [List.getElem?_set_ne (fun e => hi e.symm)] at h
    obtain ⟨u, h1, h2⟩ := r.val i p h (by simp)
    exact ⟨u, h1, Rep.ban (c := (c.ban2 a z).ban []) (fun b hb => .inl (.inl (hb.elim .inl fun z => .inr (.inl (by simpa using z))))) h2⟩
  own := fun w h => by
    have : w = (0, a) := by simpa using h
    subst this
    exact ⟨q, List.getElem?_set_self hl, h0, hq⟩
/-- the owned slot 0 laid aside -/
theorem rel_aside {c : Ct} {σ : Sl} {σc : L2.St} {H H' : Hp} {g g' : Rg} {a z : Addr} (r : Rel c [(0, a)] σ σc H g) (hz : H z = none) (k : RgOk c H' g') (e : ExtW c [(0, a)] H H') (ha : H' a ≠ none) (hz' : H' z ≠ none) : Rel (c.ban2 a z) [] (σ.set 0 none) σc H' g' where
  len := by simp [r.len]
  rg := k
  rb := fun b h => .inl (r.rb b h)
  dom := fun b h => by
    rcases h with h | rfl | rfl
    · by_cases hr : c.R b
      · exact k.none hr
      · cases q : H b with
        | none => exact absurd q (r.dom b h)
        | some o =>
          have ne : b ≠ a := fun z => r.wb (0, a) (by simp) (z ▸ h)
          rw [e b o q hr (by simpa using ne)]; exact fun z => nomatch z
    · exact ha
    · exact hz'
  ndk := .nil
  nda := .nil
  wb := fun w h => by cases h
  val := fun i p h n => by
    by_cases hi : i = 0
    · subst hi
      by_cases hl : 0 < σ.length
      · rw [List.getElem?_set_self hl] at h; cases h
      · rw [List.getElem?_eq_none (by rw [List.length_set]; omega)] at h; cases h
    · rw [List.getElem?_set_ne (fun e => hi e.symm)] at h
      obtain ⟨u, h1, h2⟩ := r.val i p h (by simpa using hi)
      refine ⟨u, h1, Rep.away (c := (c.ban2 a z).ban []) (fun b o q n => e b o q (fun z => n (.inl (.inl (r.rb _ z)))) (fun z => n (.inl (.inr (.inl (by simpa using z)))))) (Rep.ban (c := c.ban [(0, a)]) (fun b hb => ?_) h2)⟩
      rcases hb with (hb | rfl | rfl) | hb
      · exact .inl (.inl hb)
      · exact .inl (.inr (by simp))
      · exact .inr hz
      · cases hb
  own := fun w h => by cases h
theorem rel_updB {c : Ct} {σ : Sl} {σc : L2.St} {H : Hp} {g : Rg} {z : Addr} {o : HO} (r : Rel c [] σ σc H g) (hb : c.B z) (hr : ¬ c.R z) (hn : ∀ u, H z = some u → NoTab u) : Rel c [] σ σc (L2.upd H z o) g where
  len := r.len
  rg := r.rg.upd hr hn
  rb := r.rb
  dom := fun b h => by
    by_cases e : b = z
    · subst e; rw [upd_same]; exact fun z => nomatch z
    · rw [upd_ne e]; exact r.dom b h
  ndk := .nil
  nda := .nil
  wb := fun w h => by cases h
  val := fun i p h n => by
    obtain ⟨u, h1, h2⟩ := r.val i p h n
    exact ⟨u, h1, Rep.away (c := c.ban []) (fun b u q n => by rw [upd_ne (fun e => n (.inl (by rw [e]; exact hb)))]; exact q) h2⟩
  own := fun w h => by cases h
theorem dEnds_cases (c k f : Str) (d3 : Den) (di : DenL) (gd : DenG) (dB : Den) (σ : Sl) (g : Rg) : dEnds c k f d3 di gd dB σ g = .stuck ∨ ∃ m l g1 items g2, σ[(0 : Nat)]? = some (some (.ins c [k] [.int m])) ∧ d3 σ g = .ok (.lst l) g1 ∧ di (σ.set 0 none) g1 = .ok items g2 ∧ dEnds c k f d3 di gd dB σ g = loopE c k f m gd dB items (σ.set 0 none) l g2 := by
  unfold dEnds
  split
  · rename_i c' ns m e
    split
    · rename_i h
      obtain ⟨rfl, rfl⟩ := h
      split
      · rename_i l g1 e1
        split
        · rename_i items g2 e2
          exact .inr ⟨m, l, g1, items, g2, e, e1, e2, rfl⟩
        · exact .inl rfl
      · exact .inl rfl
    · exact .inl rfl
  · exact .inl rfl

theorem sss_ends {c f k : Str} {x : Str} {e3 e tg iter : Expr} {rest : List Stmt} {px px2 pos' pos p2 apos cpos pos5 pos4 : Pos} {d3 dB : Den} {di : DenL} {gd : DenG} {gs : List Nat} {dr : DenS} (T : ClF X.K X.mg c) (nf : ∀ C, X.mg c = some (.ref C) → NoAttr X.K C f) (hkf : k ≠ f) (hfk : (f == k) = false)
    (hp : PassesOwn (model X.prog X.w) X.A X.env X.xe) (hc : X.calm = true)
    (h3 : SE X (WE0 E) [0] .frs e3 d3) (hi : SI X (WE0 E) [] tg iter di) (hg : SG X [] gs tg gd) (he : SE X (WE0 E) [] .rep e dB) (hrest : SSs X E [0] [0] [0] md rest dr) (hz : 0 ∉ gs := by decide)
    (hN : X.N[0]? = some x := by rfl) (hv : Vis X.env.scope x := by first | exact Or.inl rfl | exact Or.inr (Or.inl rfl) | exact Or.inr (Or.inr rfl)) (hd : (x == ("__debug__" : Str)) = false := by decide)
    (hcd : (x == ("__classdict__" : Str)) = false := by decide) (hs3 : swapsWith e3 (some (.Attribute (.Name x px) f pos')) pos.line X.env = pure false := by rfl)
    (hs4 : ∀ x, foldedSetIterable iter X.env x = pure x := by intro _; rfl)
    (hb0 : attributeBase (.Name x px2) f X.env (eval (.Name x px2) X.env) = eval (.Name x px2) X.env := by rfl)
    (hbase : attributeBase (.Attribute (.Name x px2) f p2) "append" X.env (eval (.Attribute (.Name x px2) f p2) X.env) = eval (.Attribute (.Name x px2) f p2) X.env := by rfl)
    (hfew : ((backTo cpos (starEach [e] X.env)).all (fun x => !x.1) && (backToKw cpos (keywordEach [] X.env)).all (fun x => x.1.isSome) && decide ([e].length + ([] : List Keyword).length + (if ([] : List Keyword).isEmpty then 0 else 1) < 30)) = true := by rfl)
    (hline : (apos.endLine == cpos.line) = true := by rfl) (hs : starEach [e] X.env = (false, eval e X.env) :: starEach [] X.env := by rfl) (hplain : (backTo cpos (starEach [] X.env)).any (·.1) = false := by rfl)
    (hsw : swapsWith (.Call (.Attribute (.Attribute (.Name x px2) f p2) "append" apos) [e] [] cpos) none pos5.line X.env = pure false := by rfl) :
    SSs X E [0] [0] [0] md (.Assign [.Attribute (.Name x px) f pos'] e3 pos :: .For tg iter [.Expr (.Call (.Attribute (.Attribute (.Name x px2) f p2) "append" apos) [e] [] cpos) pos5] [] pos4 :: rest) (dSeq (dEnds c k f d3 di gd dB) dr) := by
  obtain ⟨t3, ht3, hh3⟩ := h3
  obtain ⟨wi, hwi, hdi⟩ := hi
  obtain ⟨tgt, htg, hhg⟩ := hg
  obtain ⟨te, hte, hhe⟩ := he
  obtain ⟨tr, htr, hhr⟩ := hrest
  refine ⟨_, pss_cons (ps_fld (pe_var hN hv hd hcd) ht3 hs3) (pss_cons (ps_for hp hc hwi htg (pss_one (ps_expr (pe_bm PySem.F.plainAttrs_list PySem.F.slot_list_append PySem.F.type_list_append mt_append (pe_fld (pe_var hN hv hd hcd) hb0) (pa_cons hte pa_nil hs) hbase hfew hline hs hplain) hsw)) hs4) htr), fun ρ B W σ σc H g D J hW R jc j p => ?_⟩
  cases W with
  | nil => cases hW
  | cons w W' =>
    cases W' with
    | cons _ _ => simp at hW
    | nil =>
      obtain ⟨i0, a⟩ := w
      have hi0 : i0 = 0 := by simpa using hW
      subst hi0
      have p : PstS (ct X ρ B) [(0, a)] H [0] md (match dEnds c k f d3 di gd dB σ g with | .next σ' g' => dr σ' g' | r => r) (jD D J) E := p
      rcases dEnds_cases c k f d3 di gd dB σ g with es | ⟨m, l, g1, items, g2, e0, e1, e2, e4⟩
      · rw [es] at p; exact p.elim
      · rw [e4] at p
        obtain ⟨C, dx, vs, h2, hm, h4, hl, h5⟩ := own_ins R (w := (0, a)) (by simp) e0
        obtain ⟨v0, r0, rfl, h5a, h5b⟩ := h5
        have h5a : v0 = .int m := h5a
        have h5b : r0 = [] := h5b
        subst h5a h5b
        obtain ⟨C', hm', hcl⟩ := T.ex
        have hm : X.mg c = some (.ref C) := hm
        have : C' = C := by rw [hm] at hm'; cases hm'; rfl
        subst this
        have nra : ¬ (ct X ρ B).R a := fun z => R.wb (0, a) (by simp) (R.rb _ z)
        refine hh3 ρ B [(0, a)] σ σc H g _ rfl R ?_
        rw [e1]
        rintro v H1 x1 k1 ⟨z, rfl, nz, oz⟩
        obtain ⟨xs, hz1, hl1⟩ := oz
        have hz1 : H1 z = some (.lst xs) := hz1
        have ha1 : H1 a = some (.ins C' dx ([k].zip [.int m])) := x1 _ _ h4 nra
        have naz : z ≠ a := fun e => by subst e; have h4 : H z = _ := h4; have nz : H z = none := nz; rw [nz] at h4; cases h4
        have k1 : RgOk (ct X ρ B) H1 g1 := k1
        have nrz : ¬ (ct X ρ B).R z := fun q => by have nz : H z = none := nz; exact R.dom z (R.rb _ q) nz
        refine ⟨_, h2, a, C', dx, _, rfl, ha1, hcl, nf _ hm, by simp, ?_⟩
        have ef : putF f (V.ref z) ([k].zip [V.int m]) = [k, f].zip [V.int m, V.ref z] := by simp [putF, hkf]
        rw [ef]
        -- the instance with its new list
        have k2 : RgOk (ct X ρ B) (L2.upd H1 a (.ins C' dx ([k, f].zip [V.int m, V.ref z]))) g1 := k1.upd nra fun u hu => by rw [ha1] at hu; cases hu; trivial
        have x2 : ExtW (ct X ρ B) [(0, a)] H (L2.upd H1 a (.ins C' dx ([k, f].zip [V.int m, V.ref z]))) := fun b o q nr nw => by
          rw [upd_ne (fun e => nw (by simp [e]))]
          exact x1 b o q nr
        let H2 := L2.upd H1 a (.ins C' dx ([k, f].zip [V.int m, V.ref z]))
        have ha2 : H2 a = some (.ins C' dx ([k, f].zip [V.int m, V.ref z])) := upd_same
        have hz2 : H2 z = some (.lst xs) := by show L2.upd H1 a _ z = _; rw [upd_ne naz]; exact hz1
        have hne : ∀ {o : Option HO} {q : HO}, o = some q → o ≠ none := fun h => by rw [h]; exact fun z => nomatch z
        have R2 : Rel ((ct X ρ B).ban2 a z) [] (σ.set 0 none) σc H2 g1 := rel_aside R nz k2 x2 (hne ha2) (hne hz2)
        have hl2 : RepL ((ct X ρ B).ban2 a z) H2 l xs := by
          refine RepL.away (c := (ct X ρ B).ban2 a z) (fun b o q n => ?_) (RepL.ban (c := ((ct X ρ B).ban [(0, a)]).ban1 z) (fun b hb => .inl ?_) hl1)
          · show L2.upd H1 a _ b = _
            rw [upd_ne (fun e => n (.inr (.inl e)))]; exact q
          · rcases hb with hb | rfl | rfl
            · exact .inl (.inl hb)
            · exact .inl (.inr (by simp))
            · exact .inr rfl
        have hfz : ∀ i ∈ [0], i ∉ gs := fun i h => by
          have e : i = 0 := by simpa using h
          exact e ▸ hz
        have l0 : 0 < σ.length := (List.getElem?_eq_some_iff.mp e0).1
        have cB : ((ct X ρ B).ban2 a z) = ct X ρ (fun b => B b ∨ b = a ∨ b = z) := rfl
        refine hdi ρ (fun b => B b ∨ b = a ∨ b = z) [] _ σc H2 g1 _ rfl R2 ?_
        rw [e2]
        intro It H3 x3 k3 wk
        have x3 : Ext (ct X ρ B) H2 H3 := x3
        have k3 : RgOk (ct X ρ B) H3 g2 := k3
        refine ⟨fun i mm σc H' => mm = items.length - i ∧ i ≤ items.length ∧ J σc ∧ σc[0]? = some (some (.ref a)) ∧ ∃ σ0 l xs g, Rel ((ct X ρ B).ban2 a z) [] σ0 σc H' g ∧ 0 < σ0.length ∧
            H' a = some (.ins C' dx ([k, f].zip [V.int m, V.ref z])) ∧ H' z = some (.lst xs) ∧ RepL ((ct X ρ B).ban2 a z) H' l xs ∧ Stay (((ct X ρ B).ban2 a z).ban []) H3 H' ∧ ExtW (ct X ρ B) [(0, a)] H H' ∧
            PstS (ct X ρ B) [(0, a)] H [0] md (match loopE c k f m gd dB (items.drop i) σ0 l g with | .next σ' g' => dr σ' g' | r => r) (jD D J) E,
          ⟨items.length, by simp, Nat.zero_le _, j, h2, σ.set 0 none, l, xs, g2, R2.ext x3 k3, by simpa using l0, x3 _ _ ha2 nra, x3 _ _ hz2 nrz, RepL.ext (c := (ct X ρ B).ban2 a z) x3 (fun b hb => .inl (R.rb b hb)) hl2, fun b o q _ => q, fun b o q nr nw => x3 b o (x2 b o q nr nw) nr, by simpa using p⟩, ?_⟩
        rintro i mm τ H4 ⟨rfl, hi, j4, s0, σ0, l4, xs4, g4, R4, l04, ha4, hz4, hl4, st4, ex4, p⟩
        have repA : ∀ {Hx : Hp} {lx : List PV} {xx : List V}, Hx a = some (.ins C' dx ([k, f].zip [V.int m, V.ref z])) → Hx z = some (.lst xx) → RepL ((ct X ρ B).ban2 a z) Hx lx xx → Rep (ct X ρ B) Hx (pairL k f m lx c) (.ref a) := fun q1 q2 q3 =>
          ⟨a, C', dx, _, rfl, R.wb (0, a) (by simp), hm, q1, rfl, ⟨_, _, rfl, rfl, _, _, rfl, ⟨z, _, rfl, ⟨fun y => R.dom z y nz, q2⟩, RepL.ban (c := (ct X ρ B).ban2 a z) (fun b hb => .inl (.inl hb)) q3⟩, rfl⟩⟩
        by_cases hlt : i < items.length
        · refine .inr ⟨wk.go H4 i st4 hlt, fun τ' H' => ∃ mm', mm' < items.length - i ∧ (mm' = items.length - (i + 1) ∧ i + 1 ≤ items.length ∧ J τ' ∧ τ'[0]? = some (some (.ref a)) ∧ ∃ σ0 l xs g, Rel ((ct X ρ B).ban2 a z) [] σ0 τ' H' g ∧ 0 < σ0.length ∧
            H' a = some (.ins C' dx ([k, f].zip [V.int m, V.ref z])) ∧ H' z = some (.lst xs) ∧ RepL ((ct X ρ B).ban2 a z) H' l xs ∧ Stay (((ct X ρ B).ban2 a z).ban []) H3 H' ∧ ExtW (ct X ρ B) [(0, a)] H H' ∧
            PstS (ct X ρ B) [(0, a)] H [0] md (match loopE c k f m gd dB (items.drop (i + 1)) σ0 l g with | .next σ' g' => dr σ' g' | r => r) (jD D J) E), fun τ' H' h => h, fun x H5 y => ?_⟩
          obtain ⟨sm, q, eq, rq⟩ := wk.yld H4 i x H5 (((ct X ρ B).ban2 a z).ban []).B st4 hlt y R4.wdom (fun b hb => .inl hb)
          have R5 := R4.ext (Ext.of sm) (R4.rg.same sm)
          have ed : items.drop i = q :: items.drop (i + 1) := by
            rw [List.drop_eq_getElem_cons hlt]
            rw [List.getElem?_eq_getElem hlt] at eq
            cases eq
            rfl
          rw [ed] at p
          simp only [loopE] at p
          cases eg : gd q σ0 with
          | none => rw [eg] at p; exact p.elim
          | some σ1 =>
            rw [eg] at p
            simp only [] at p
            refine hhg ρ (fun b => B b ∨ b = a ∨ b = z) [] σ0 σ1 τ H5 g4 q x _ rfl R5 rq eg fun τ1 R6 ag => ?_
            have s1 : τ1[0]? = some (some (.ref a)) := (ag.2 0 hz).trans s0
            have hl1' : 0 < σ1.length := by
              have := (List.getElem?_eq_some_iff.mp s1).1
              rw [R6.len]; exact this
            have ha5 := sm _ _ ha4
            have hz5 := sm _ _ hz4
            have hl5 := replSame (c := (ct X ρ B).ban2 a z) sm hl4
            have F5 := fill_rep R6 R.rb s1 (repA ha5 hz5 hl5)
            refine ⟨_, s1, a, C', dx, _, .ref z, rfl, ha5, hcl, nf _ hm, by simp [List.lookup, hfk], .inl ⟨rfl, xs4, .of hz5⟩, ?_⟩
            refine hhe ρ B [] _ τ1 H5 g4 _ rfl F5 ?_
            cases eb : dB (σ1.set 0 (some (pairL k f m l4 c))) g4 with
            | ok v g6 =>
              rw [eb] at p
              cases v with
              | int v =>
                simp only [] at p
                by_cases hlen : l4.length < sizeLine
                · rw [if_pos hlen] at p
                  intro u H6 e6 k6 q6
                  have q6 : u = .int v := q6
                  subst q6
                  have e6 : Ext (ct X ρ B) H5 H6 := e6
                  have k6 : RgOk (ct X ρ B) H6 g6 := k6
                  have ha6 := e6 _ _ ha5 nra
                  have hz6 := e6 _ _ hz5 nrz
                  refine ⟨z, xs4, .int v, rfl, rfl, hz6, by rw [← hl5.length]; exact hlen, ?_⟩
                  have bz : ((ct X ρ B).ban2 a z).B z := .inr (.inr rfl)
                  have R7 := rel_updB (o := .lst (xs4 ++ [.int v])) (R6.ext (g' := g6) (show Ext ((ct X ρ B).ban2 a z) H5 H6 from e6) k6) bz nrz (fun u hu => by rw [hz6] at hu; cases hu; trivial)
                  have nz' : ∀ b, ¬ (((ct X ρ B).ban2 a z).ban []).B b → b ≠ z := fun b n e => n (.inl (by rw [e]; exact bz))
                  refine ⟨items.length - (i + 1), by omega, rfl, hlt, jc.agree ag hfz j4, s1, σ1, l4 ++ [.int v], xs4 ++ [.int v], g6, R7, hl1', by rw [upd_ne naz.symm]; exact ha6, upd_same, ?_, fun b o q n => ?_, fun b o q nr nw => ?_, p⟩
                  · exact RepL.append (RepL.away (c := (ct X ρ B).ban2 a z) (fun b o q n => by rw [upd_ne (fun e => n (by rw [e]; exact bz))]; exact q) (RepL.ext (c := (ct X ρ B).ban2 a z) e6 (fun b hb => .inl (R.rb b hb)) hl5)) ⟨_, _, rfl, rfl, rfl⟩
                  · rw [upd_ne (nz' b n)]
                    exact e6 b o (sm b o (st4 b o q n)) (fun r => n (.inl (.inl (R.rb _ r))))
                  · have ne : b ≠ z := fun e => by subst e; have nz : H b = none := nz; rw [nz] at q; cases q
                    rw [upd_ne ne]
                    exact e6 b o (sm b o (ex4 b o q nr nw)) nr
                · rw [if_neg hlen] at p; exact p.elim
              | _ => exact p.elim
            | exc _ _ _ _ => rw [eb] at p; exact p.elim
            | stuck => rw [eb] at p; exact p.elim
        · have e : i = items.length := by omega
          subst e
          refine .inl ⟨wk.stop H4 _ st4 (Nat.le_refl _), ?_⟩
          rw [List.drop_length] at p
          simp only [loopE] at p
          have Rf := fill_own R4 R.rb (R.wb (0, a) (by simp)) l04 s0 (q := pairL k f m l4 c) ⟨C', dx, _, hm, ha4, rfl, ⟨_, _, rfl, rfl, _, _, rfl, ⟨z, _, rfl, ⟨fun y => ?_, hz4⟩, RepL.ban (c := (ct X ρ B).ban2 a z) (fun b hb => .inl ?_) hl4⟩, rfl⟩⟩
          · exact hhr ρ B [(0, a)] _ τ H4 g4 D J rfl Rf jc j4 (PstS.from ex4 Rf.rg (.refl _ _) p)
          · rcases y with y | y
            · exact R.dom z y nz
            · exact naz (by simpa using y)
          · rcases hb with hb | hb
            · exact .inl hb
            · exact .inr (.inl (by simpa using hb))
end
end Tr

namespace Tr
open PySem PySem.Spec PyProof.Rows L2
abbrev Cls4 := Addr → Value → Option Addr → TS
/-- what follows a suite: its name is gone -/
abbrev offE (D : Ends) (i : Nat) : Ends := { nx := fun τ G => D.nx (τ.set i none) G, rt := D.rt, bk := fun τ G => D.bk (τ.set i none) G, ct := fun τ G => D.ct (τ.set i none) G }
/-- what the clauses wish, one behind another -/
def wAsM (K : PySem.W.Frag) (i : Nat) (Wo : WX) (D : Ends) : List (Value × Cls4) → WX
  | [] => Wo
  | (k, ts) :: r => fun cls d τ G => ∃ y, PySem.W.exmOne K cls k = some y ∧ (y = true → ∀ e, G e = none → ts e cls d (offE D i) (τ.set i (some (.ref e))) G) ∧ (y = false → wAsM K i Wo D r cls d τ G)
/-- the clauses: except x as n: suite -/
inductive AsOk (X : Cx) (n : Str) : List ExceptHandler → List (Value × Cls4) → Prop
  | nil : AsOk X n [] []
  | cons {x : Str} {k : Value} {ts : Cls4} {t0 : Stmt} {tl : List Stmt} {np p1 : Pos} {hr : List ExceptHandler} {l : List (Value × Cls4)} (nm : Names X x k)
      (su : ∀ (e : Addr) (oe : Obj) (cls : Value) (d : Option Addr) (pn : List (Addr × Obj)), Zc cls d oe → (∃ vs, oe.data = .fields vs) → PSs (X.suite e ((e, oe) :: pn)) (t0 :: tl) (ts e cls d)) (r : AsOk X n hr l) :
      AsOk X n (.ExceptHandler (some (.Name x np)) (some n) (t0 :: tl) p1 :: hr) ((k, ts) :: l)
section
variable {X : Cx} {n : Str} {i : Nat} {bd : List Stmt} {h0 : ExceptHandler} {hr : List ExceptHandler} {l : List (Value × Cls4)} {pos : Pos} {tb : WX → TS} {Wo : WX}
theorem ps_tryAsM (stk : X.stack = X.env :: X.outer) (frm : X.env.frame = some X.env.locals) (nN : X.N.Nodup) (at_ : X.N[i]? = some n) (lcl : X.env.kindOf n = some .local) (tk : Takes X Wo)
    (hb : ∀ (W : WX) (pn : List (Addr × Obj)) (xe : Value → Shared → Prop), Takes (X.tr pn xe) W → PassesOwn (model X.prog X.w) X.A X.env xe → PSs (X.tr pn xe) bd (tb W))
    (hh : AsOk X n (h0 :: hr) l) : PS X (.Try bd (h0 :: hr) [] [] pos) (fun D τ G => tb (wAsM X.K i Wo D l) D τ G) := by
  refine ⟨fun pins s0 τ G D J go0 => ?_⟩
  have okX := J.ok
  have frA : X.A.frames = some (X.env :: X.outer) := by rw [okX.frames, stk]
  have lc : Loc X.env.scope n := .inl lcl
  refine wpAny_Try_except ?_
  refine wpAny_mono ((hb (wAsM X.K i Wo D l) (X.pn ++ pins) (fun e s1 => wpAny (model X.prog X.w) X.A (noteFrame e X.env) (fun _ s2 => wpAny (model X.prog X.w) X.A (setFlight e none) (fun _ s3 =>
    wpAny (model X.prog X.w) X.A (handleBy e X.env (h0 :: hr)) (SP X pins D) X.xe s3) X.xe s2) X.xe s1) (fun u s1 cau => ?_) PassesOwn.looking).run [] s0 τ G D (J.toTry _) go0) (fun fl s1 en => ?_) (fun _ _ z => z)
  · -- what is caught
    obtain ⟨e, B, sI, pins1, τ1, G1, cls, d, rfl, J0, nbB, upS, sky0, nE, osE, agE, wsh⟩ := cau
    have J1 : Inv X pins τ1 G1 sI := J0.ofTry okX
    have sky1 : Sky B (X.env :: X.outer) e (Zc cls d) X.env.locals s1.heap := by rw [← stk]; exact sky0
    show wpAny (model X.prog X.w) X.A (noteFrame (.ref e) X.env) _ _ _
    refine Sky.land Zc.steady frA frm sky1 fun k3 fly3 upS3 => ?_
    have J3 : Inv X pins τ1 G1 { s1 with heap := k3 } := J1.landed nbB fly3.1 (upS.trans upS3) osE agE
    obtain ⟨oe3, vs3, get3, zc3, dat3⟩ := fly3.there
    have out : ∀ {h : Heap} {o : Obj} {vs : Array Value}, h.FunFrames B (X.env :: X.outer) → h.get? e = some o → o.data = .fields vs → e ∉ frs (X.env :: X.outer) := fun {h o vs} ff ge gd mm => by
      obtain ⟨_, o1, g1, nof⟩ := ff.mem mm
      rw [ge] at g1; cases g1
      exact nof _ gd
    have oute := out fly3.2.2.1 get3 dat3
    have neL : e ≠ X.env.locals := fun z => oute (List.mem_filterMap.mpr ⟨X.env, List.mem_cons_self, by rw [frm, z]⟩)
    have neF : e ∉ X.fs := fun mm => by
      obtain ⟨v, hv, q⟩ := List.mem_filterMap.mp mm
      exact oute (List.mem_filterMap.mpr ⟨v, List.mem_cons_of_mem _ hv, q⟩)
    have Su3 := J3.suite get3 dat3 nE neL neF
    have walk : ∀ {hr' : List ExceptHandler} {l' : List (Value × Cls4)}, AsOk X n hr' l' → wAsM X.K i Wo D l' cls d τ1 G1 → wpAny (model X.prog X.w) X.A (handleBy (.ref e) X.env hr') (SP X pins D) X.xe { s1 with heap := k3 } := by
      intro hr' l' ok'
      induction ok' with
      | nil =>
        intro ww
        refine wpAny_handleBy_nil ?_
        obtain ⟨_, _, _, oe, vs, Tb, oTb, ts', ge, _, gd, g1, _⟩ := id fly3
        unfold PySem.passOn
        refine wpAny_bind (wpAny_field ge gd g1 ?_)
        rw [if_neg (show ¬ ((Value.ref Tb == Value.none) = true) from by simp)]
        have last : wpAny (model X.prog X.w) X.A (setFlight (.ref e) X.env.frame) (fun _ s4 => wpAny (model X.prog X.w) X.A (throw (.ref e) : Sem Flow) (SP X pins D) X.xe s4) X.xe { s1 with heap := k3 } := by
          rw [frm]
          refine HandSPX.setFlight_upZ fly3 fun k4 held4 upS4 => wpAny_throw (tk _ _ ?_)
          exact ⟨e, B, sI, pins, τ1, G1, cls, d, rfl, J1, nbB, (upS.trans upS3).trans upS4, .inr (.inr (by rw [stk]; exact held4)), nE, osE, agE, ww⟩
        first | exact wpAny_bind (wpAny_pure (wpAny_bind last)) | exact wpAny_bind last
      | @cons x k ts t0 tl np p1 hr2 l2 nm su r ih =>
        intro ww
        obtain ⟨y, ey, yes, no⟩ := ww
        refine wpAny_handleBy_cons (codeAny_handlers_test ?_) (by intro q; cases q)
        have lt : PySem.W.Looks (model X.prog X.w) k3 (typeOf (.ref e)) cls := fun A Q E s kk q => wpAny_typeOf_ref (kk _ _ get3) (by rw [zc3.1]; exact q)
        have lm := PySem.W.exm_one (M := model X.prog X.w) (J3.kIn) lt ey
        have tst : ∀ {Q : Value → Shared → Prop} {E : Value → Shared → Prop}, Q k { s1 with heap := k3 } → wpAny (model X.prog X.w) (X.A.mark (some (.ref e))) (eval (.Name x np) X.env) Q E { s1 with heap := k3 } := fun {Q E} q => by
          obtain ⟨gl, db, m1 | ⟨m1, v1, n1⟩⟩ := nm
          · exact ld_glob (X := X.suite e ((e, oe3) :: (X.pn ++ pins))) Su3 gl m1 q db
          · exact ld_blt (X := X.suite e ((e, oe3) :: (X.pn ++ pins))) Su3 gl m1 v1 q n1 db
        refine tst (lm.here ?_)
        cases y with
        | true =>
          refine codeAny_handlers_suite_as ?_
          refine HandSPX.lands_againZ fly3 fun k4 fly4 upS4 => ?_
          have J4 : Inv X pins τ1 G1 { s1 with heap := k4 } := J1.landed nbB fly4.1 ((upS.trans upS3).trans upS4) osE agE
          obtain ⟨oe4, vs4, get4, zc4, dat4⟩ := fly4.there
          have Su4 := J4.suite get4 dat4 nE neL neF
          refine store_ok (X := X.suite e ((e, oe4) :: (X.pn ++ pins))) (v := .ref e) Su4 nN at_ lc rfl (fun s5 Su5 => ?_) (.inr lcl)
          refine wpAny_mono ((su e oe4 cls d (X.pn ++ pins) zc4 ⟨_, dat4⟩).run [] s5 _ G1 _ Su5 (yes rfl e nE)) (fun f6 s6 en6 => ?_) (fun _ _ z => False.elim z)
          have gone : ∀ {τ6 : L2.St} {G6 : Hp} {Q : Shared → Prop}, Inv (X.suite e ((e, oe4) :: (X.pn ++ pins))) [] τ6 G6 s6 → (∀ s7, Inv X pins (τ6.set i none) G6 s7 → Q s7) →
              wpAny (model X.prog X.w) X.A (do bindName X.env n .none; unbindBehindTheSuite X.env n p1) (fun _ s7 => Q s7) X.xe s6 := fun {τ6 G6 Q} S6 hq => gone_ok (S6.unsuite okX) nN at_ lcl hq
          cases f6 with
          | next => obtain ⟨τ6, G6, S6, q6⟩ := en6; exact gone S6 fun s7 J7 => ⟨_, _, J7, q6⟩
          | brk => obtain ⟨τ6, G6, S6, q6⟩ := en6; exact gone S6 fun s7 J7 => ⟨_, _, J7, q6⟩
          | cont => obtain ⟨τ6, G6, S6, q6⟩ := en6; exact gone S6 fun s7 J7 => ⟨_, _, J7, q6⟩
          | ret u => obtain ⟨v6, τ6, G6, S6, r6, q6⟩ := en6; exact gone S6 fun s7 J7 => ⟨_, _, _, J7, r6, q6⟩
        | false =>
          show wpAny _ X.A (handleBy (.ref e) X.env hr2) _ _ _
          exact ih (no rfl)
    exact walk hh wsh
  · cases fl with
    | next => obtain ⟨τ1, G1, J1, q⟩ := en; exact wpAny_execs_nil ⟨τ1, G1, J1.ofTry okX, q⟩
    | brk => obtain ⟨τ1, G1, J1, q⟩ := en; exact ⟨τ1, G1, J1.ofTry okX, q⟩
    | cont => obtain ⟨τ1, G1, J1, q⟩ := en; exact ⟨τ1, G1, J1.ofTry okX, q⟩
    | ret u => obtain ⟨v, τ1, G1, J1, r, q⟩ := en; exact ⟨v, τ1, G1, J1.ofTry okX, r, q⟩
end
section
variable {X : Cx} {pins : List (Addr × Obj)} {σ : L2.St} {H : Hp} {s : Shared}
theorem lam_mk {T : List (Addr × Str)} {c P : Addr} {ag : Arguments} {bo : Expr} {sc : Scope} {pos : Pos} {E : Value → Shared → Prop} {Q : Value → Shared → Prop} (J : Inv X pins σ H s) (tb : LamX.TabB X.base X.mg c P) (hcode : X.env.code = .ref c)
    (mT : (P, X.env.qual ++ "<lambda>") ∈ T) (one : ∀ p ∈ T, p.1 = P → p.2 = X.env.qual ++ "<lambda>") (tT : LamX.Tabs T H) (df : defaultsOf ag X.env = ([], [])) (fr : ∀ y ∈ sc.names, y.2 = .free → ∃ c, X.env.cells.lookup y.1 = some c)
    (h : ∀ (f c1 : Addr) (pm ctv : Value) (G : Hp) (s1 : Shared), Inv X pins σ G s1 → (∀ b o, H b = some o → b ≠ P → G b = some o) → LamX.Tabs T G →
      s1.heap.get? f = some (PySem.W.kla_obj "<lambda>" (X.env.qual ++ "<lambda>") ag bo sc (cloFrom X.env.cells sc.names []) pm c1 ctv) → G f = none → f ∉ frs X.stack → G c1 = some (LamX.CodeO c1 (X.env.qual ++ "<lambda>")) → Q (.ref f) s1) :
    wpAny (model X.prog X.w) X.A (eval (.Lambda ag bo sc pos) X.env) Q E s := by
  obtain ⟨ps, tP, t3, kn⟩ := tT _ mT
  refine PySem.W.kla_eval df ?_
  have bP : s.heap.BuiltinsAt X.mg P := tb.bm.keeps J.bk
  have gP : s.heap.get? P = some { cls := .none, data := .fields ps } := J.hok P _ tP
  have nofr : ∀ f, s.heap.objs.size ≤ f → f ∉ frs X.stack := fun f le z => by
    rcases List.mem_cons.mp (J.stkSub _ z) with e | e
    · have lt := J.lt
      rw [← e] at lt
      exact absurd (Nat.lt_of_lt_of_le lt le) (Nat.lt_irrefl _)
    · exact J.nofs le e
  cases am : codeAmong pos ps.toList with
  | none =>
    refine PySem.W.kla_makeFunction (mg := X.mg) (c := c) (P := P) (ps := ps) (closure_ok fr) J.ok.glob (J.mod.glob.keeps J.bk) hcode (tb.code.keeps J.bk) gP t3 am tb.gP bP fun c1 ctv h1 tk kx ge lt rec tbl => ?_
    obtain ⟨c2, oc, vs, t, e2, goc, gd, gv⟩ := rec
    cases e2
    have sz : s.heap.objs.size ≤ h1.objs.size := Nat.le_trans ge (Nat.le_of_lt lt)
    have nC : H c1 = none := J.hok.fresh ge
    have J1 := LamX.inv_table (t' := tk) (more := #[rawInt pos.line, rawInt pos.col, .ref c1]) (h' := h1.push (PySem.W.kla_obj "<lambda>" (X.env.qual ++ "<lambda>") ag bo sc (cloFrom X.env.cells sc.names []) ((X.mg "__name__").getD .none) c1 ctv)) J tP
      (fun b o nb e => Heap.get?_push_of_some _ (kx b o nb e)) (Heap.get?_push_of_some _ tbl) ge ⟨oc, vs, t, Heap.get?_push_of_some _ goc, gd, gv⟩
    have ext : ∀ b o, H b = some o → b ≠ P → upd (upd H P (.tbl (ps ++ #[rawInt pos.line, rawInt pos.col, .ref c1]))) c1 (LamX.CodeO c1 (X.env.qual ++ "<lambda>")) b = some o := fun b o e nb => by
      rw [upd_ne (ne_of_none e nC), upd_ne nb]
      exact e
    have codeN : ∀ {b : Addr} {q : Str}, H b = some (LamX.CodeO b q) → b ≠ P := fun {b q} e z => by
      rw [z, tP] at e
      exact LamX.codeO_ne ps (Option.some.inj e).symm
    have eL : (ps ++ #[rawInt pos.line, rawInt pos.col, .ref c1]).toList = ps.toList ++ [rawInt pos.line, rawInt pos.col, .ref c1] := by simp
    refine h h1.objs.size c1 ((X.mg "__name__").getD .none) ctv _ _ J1 ext (fun p hp => ?_) (Heap.get?_push_size _ rfl) ?_ (nofr _ sz) upd_same
    · by_cases hb : p.1 = P
      · rw [one p hp hb, hb]
        refine ⟨_, by rw [upd_ne (ne_of_none tP nC), upd_same], by rw [eL]; exact PySem.TriplesOk_snoc _ _ _ _ t3, fun p1 cv hcv => ?_⟩
        rw [eL] at hcv
        rcases LamX.among_app _ t3 hcv with z | z
        · obtain ⟨c0, e1, e2⟩ := kn p1 cv z
          exact ⟨c0, e1, ext _ _ e2 (codeN e2)⟩
        · exact ⟨c1, z, upd_same⟩
      · obtain ⟨qs, a1, a2, a3⟩ := tT p hp
        refine ⟨qs, by rw [upd_ne (ne_of_none a1 nC), upd_ne hb]; exact a1, a2, fun p1 cv hcv => ?_⟩
        obtain ⟨c0, e1, e2⟩ := a3 p1 cv hcv
        exact ⟨c0, e1, ext _ _ e2 (codeN e2)⟩
    · have n1 : h1.objs.size ≠ c1 := Nat.ne_of_gt lt
      have n2 : h1.objs.size ≠ P := Nat.ne_of_gt (Nat.lt_of_lt_of_le (Heap.lt_size gP) sz)
      rw [upd_ne n1, upd_ne n2]
      exact J.hok.fresh sz
  | some cv =>
    obtain ⟨c1, e, co⟩ := kn pos cv am
    subst e
    refine PySem.W.kla_makeFunctionHit (mg := X.mg) (c := c) (P := P) (ps := ps) (closure_ok fr) J.ok.glob (J.mod.glob.keeps J.bk) hcode (tb.code.keeps J.bk) gP t3 am bP fun ctv h1 tk kx sz => ?_
    have J1 : Inv X pins σ H { s with heap := h1.push (PySem.W.kla_obj "<lambda>" (X.env.qual ++ "<lambda>") ag bo sc (cloFrom X.env.cells sc.names []) ((X.mg "__name__").getD .none) c1 ctv), toks := tk } := J.kept fun b o e => Heap.get?_push_of_some _ (kx b o e)
    exact h h1.objs.size c1 ((X.mg "__name__").getD .none) ctv H _ J1 (fun _ _ e _ => e) tT (Heap.get?_push_size _ rfl) (J.hok.fresh sz) (nofr _ sz) co
end
end Tr

namespace Tr
open PySem PySem.Spec PyProof.Rows L2
/-- an error class's __init__: self.f = f -/
def spXi (K : PySem.W.Frag) (f : Str) : Sp := fun vs H Q _ => ∃ (a C : Addr) (v : V), vs = [.ref a, v] ∧ H a = some (exo a C none) ∧ OexC K C ∧ PySem.W.findIn K (.ref C) f = some none ∧
  ∀ dx, H dx = none → dx ≠ a → Q .non (upd (upd H dx (exd dx [(f, v)])) a (exo a C (some dx)))
/-- the error class k, with the field f -/
structure XOk (P : Program) (w : World) (K : PySem.W.Frag) (mg : Str → Option Value) (base : Heap) (k f : Str) : Prop where
  ex : ∃ (C fI : Addr) (fd : FuncData), mg k = some (.ref C) ∧ OexC K C ∧ PySem.W.findIn K (.ref C) "__init__" = some (some (.ref fI)) ∧ PySem.W.typeIn K (.ref fI) = some (.type "function") ∧ PySem.W.findIn K (.ref C) f = some none ∧
    Binds K fd ["self", f] [] ∧ FnOk P w K mg base (L2.CX P w) 1 fI fd ["self", f] (spXi K f)
section
variable {P : Program} {w : World} {K : PySem.W.Frag} {mg : Str → Option Value} {base : Heap}
theorem vis_par {sc : Scope} {N ps : List Str} {x : Str} (S : FnScope N ps sc) (h : x ∈ ps) : Vis sc x := (S.par x h).elim .inl fun z => .inr (.inl z)
theorem xi_ok {qual f : Str} {st : Stmt} {fI : Addr} {fd : FuncData} {p1 p2 p3 p4 : Pos} (F : Fun K "__init__" qual st fI fd) (S : FnScope ["self", f] ["self", f] (defScope st)) (hb : defBody st = [.Assign [.Attribute (.Name "self" p1) f p2] (.Name f p3) p4]) (hd : (f == ("__debug__" : Str)) = false) (hcd : (f == ("__classdict__" : Str)) = false) :
    FnOk P w K mg base (L2.CX P w) 1 fI fd ["self", f] (spXi K f) := by
  refine F.okX (k := 0) S (fun vs H Q E h => by obtain ⟨a, C, v, rfl, _⟩ := h; rfl) fun cdv A outer s H vs Q E hr h => ?_
  obtain ⟨a, C, v, rfl, ha, T, hno, q⟩ := h
  rw [hb]
  refine ⟨_, pss_one (ps_ost (pe_var (i := 0) rfl (vis_par S (by simp)) (by decide) (by decide)) (pe_var (i := 1) rfl (vis_par S (by simp)) hd hcd)), ?_⟩
  exact ⟨v, rfl, .ref a, rfl, a, C, rfl, T, hno, .inl ⟨ha, fun dx n ne => q dx n ne⟩⟩
end
def dRaise (k f : Str) (ds : DenL) : DenS := fun σ g => (ds σ g).bindS fun ps g => .exc k [f] ps g
theorem PstS.bindL {c : Ct} {W : Wn} {H : Hp} {m1 : Md} {n1 : Nat} {Wk' : List Nat} {md : Md} {r : Res (List PV)} {f : List PV → Rg → SRes} {D : Ends} {Q1 : List V → Hp → Prop} {E : XK} (h : PstS c W H Wk' md (r.bindS f) D E)
    (k : ∀ p g1 vs H1, r = .ok p g1 → Ext c H H1 → RgOk c H1 g1 → ValL (c.ban W) H1 p vs m1 → p.length = n1 → PstS c W H1 Wk' md (f p g1) D E → Q1 vs H1) : PstL c W H m1 n1 r Q1 E := by
  cases r with
  | ok p g1 => exact fun v H1 e k1 q l => k p g1 v H1 rfl e k1 q l (PstS.from e.w k1 (fun b hb => .inl hb) h)
  | exc a b cc d => exact fun cls dd H' e k1 q => h cls dd H' e.w k1 q.unban
  | stuck => exact h
section
variable {X : Cx} {E : XK} {fz Wk Wk' : List Nat} {md : Md}
theorem ss_raise {k f : Str} {kk : Nat} {e : Expr} {p pos pos2 : Pos} {ds : DenL} (M : XOk X.prog X.w X.K X.mg X.base k f) (hr : Room kk X.A) (hj : 2 ≤ kk) (hc : X.calm = true) (tk : Takes X (WE0 E)) (ha : SA X (WE0 E) Wk .rep [e] ds)
    (hg : Gl X k := by rfl) (hdb : (k == ("__debug__" : Str)) = false := by decide) (he : starEach (e :: []) X.env = (false, eval e X.env) :: starEach [] X.env := by rfl) (hpl : (backTo pos (starEach [] X.env)).any (·.1) = false := by rfl) :
    SS X E fz Wk Wk' md (.Raise (some (.Call (.Name k p) [e] [] pos)) none pos2) (dRaise k f ds) := by
  obtain ⟨C, fI, fd, hm, T, iC, tI, hno, hb, F⟩ := M.ex
  obtain ⟨t, ht, hs⟩ := ha
  refine ⟨_, ps_raise hc tk (pmk_oex T iC tI F (hr.mono hj) hb .nil passL hg hm ht hdb he hpl), fun ρ B W σ σc H g D J hW R jc j p => ?_⟩
  refine hs ρ B W σ σc H g _ hW R (PstS.bindL p fun ps g1 vs H1 _ e1 k1 q1 l p => ?_)
  have R1 := R.ext e1 k1
  match ps, l, q1 with
  | [x], _, q1 =>
    obtain ⟨v, r, rfl, hx, rfl⟩ := q1
    refine ⟨by simp, fun a ha => ?_⟩
    refine ⟨a, C, v, by simp, upd_same, T, hno, fun dx hdx hne => ⟨rfl, dx, [(f, v)], upd_same, by rw [upd_ne hne, upd_same], by rw [upd_ne hne] at hdx; exact hdx, ?_⟩⟩
    have hd1 : H1 dx = none := by rw [upd_ne hne] at hdx; exact hdx
    have sm : Same H1 (upd (L2.del (upd (upd (upd H1 a (exo a C none)) dx (exd dx [(f, v)])) a (exo a C (some dx))) a) dx (.xd [(f, v)])) := fun b o h => by
      have n1 := ne_of_none h hd1
      have n2 := ne_of_none h ha
      rw [upd_ne n1, del_ne n2, upd_ne n2, upd_ne n1, upd_ne n2]
      exact h
    have nb : ∀ b, H1 b = none → ¬ ((ct X ρ B).ban W).B b := fun b hn z => R1.wdom b z hn
    have p : ∀ cls d H', ExtW (ct X ρ B) W H1 H' → RgOk (ct X ρ B) H' g1 → RepX (ct X ρ B) H' k [f] [x] cls d → E cls d H' := p
    refine p _ _ _ (Ext.of sm).w (RgO.same (c := ct X ρ B) k1 sm) (RepX.unban (W := W) ⟨C, dx, [v], hm, rfl, rfl, nb dx hd1, upd_same, rfl, v, [], rfl, repSame (c := (ct X ρ B).ban W) sm hx, rfl⟩)
end
/-- a clause: the class, the word, the field -/
abbrev Cl := Str × Str × Str
/-- what a told def makes of an answer, or of an error -/
def toldP (w0 : Str) (cl : List Cl) : Res PV → Res PV
  | .ok p g => .ok (.lst [.str w0, p]) g
  | .exc k ns ps g => match cl.lookup k with
    | some (w, f) => (match fldP ns ps f with | some q => .ok (.lst [.str w, q]) g | none => .stuck)
    | none => .stuck
  | .stuck => .stuck
def dTold (w0 : Str) (cl : List Cl) (d : Den) : Den := fun σ g => toldP w0 cl (d σ g)
/-- except c as n: return [w, n.f] -/
inductive HdA (n : Str) : List ExceptHandler → List Cl → Prop
  | nil : HdA n [] []
  | cons {c w f : Str} {j} {p1 p2 p3 p4 p5 p6 p7 : Pos} {hr : List ExceptHandler} {l : List Cl} : HdA n hr l →
      HdA n (.ExceptHandler (some (.Name c p1)) (some n) [.Return (some (.List [.Constant (.str w) j p2, .Attribute (.Name n p3) f p4] p5)) p6] p7 :: hr) ((c, w, f) :: l)
/-- the wish about errors -/
def CatchA (K : PySem.W.Frag) (mg : Str → Option Value) (Q : VK) : List Cl → XK
  | [] => fun _ _ _ => False
  | (c, w, f) :: r => fun cls d H => ∃ y Cc, mg c = some (.ref Cc) ∧ PySem.W.exmOne K cls (.ref Cc) = some y ∧
      (y = true → ∃ C dd fs v, cls = .ref C ∧ d = some dd ∧ XfC K C ∧ PySem.W.findIn K (.ref C) f = some none ∧ H dd = some (.xd fs) ∧ fs.lookup f = some v ∧ ∀ l, H l = none → Q (.ref l) (upd H l (.lst [.str w, v]))) ∧ (y = false → CatchA K mg Q r cls d H)
def TTA (K : PySem.W.Frag) (mg : Str → Option Value) (w0 : Str) (hs : List Cl) : (XK → Hp → VK → Prop) → Hp → VK → Prop := fun tl H Q =>
  tl (CatchA K mg Q hs) H fun v H' => [V.str w0, v].length ≤ sizeLine ∧ ∀ l, H' l = none → Q (.ref l) (upd H' l (.lst [.str w0, v]))
/-- the suite's reading -/
def tsA (K : PySem.W.Frag) (i : Nat) (w f : Str) : Cls4 := fun e cls d D σ H => (i < σ.length → σ[i]? = some (some (.ref e))) ∧
  ∃ C dd fs v, cls = .ref C ∧ d = some dd ∧ XfC K C ∧ PySem.W.findIn K (.ref C) f = some none ∧ H dd = some (.xd fs) ∧ fs.lookup f = some v ∧ ∀ l, H l = none → D.rt (.ref l) (upd H l (.lst [.str w, v]))
theorem two_line : [V.non, V.non].length ≤ sizeLine := by rw [sizeLine_eq]; exact (by decide : 2 ≤ 16777216)
section
variable {X : Cx} {n : Str} {i : Nat}
theorem suiteA (hi : X.N[i]? = some n) (hv : Vis X.env.scope n) (hd : (n == ("__debug__" : Str)) = false) (hcd : (n == ("__classdict__" : Str)) = false) {e : Addr} {oe : Obj} {cls : Value} {d : Option Addr} {pn : List (Addr × Obj)} {w f : Str} {j} {p2 p3 p4 p5 p6 : Pos} (hz : Zc cls d oe) (hf : ∃ vs, oe.data = .fields vs) :
    PSs (X.suite e ((e, oe) :: pn)) [.Return (some (.List [.Constant (.str w) j p2, .Attribute (.Name n p3) f p4] p5)) p6] (tsA X.K i w f e cls d) := by
  refine ⟨fun pins s σ H D I h => ?_⟩
  obtain ⟨h1, C, dd, fs, v, rfl, rfl, T, hno, hx, hl, q⟩ := h
  have hlt : i < σ.length := by
    have hN : i < (X.suite e ((e, oe) :: pn)).N.length := (List.getElem?_eq_some_iff.mp hi).1
    have := I.len
    omega
  refine (pss_one (ps_ret (pe_lst (pa_cons pe_str (pa_cons (pe_xf T hno hz hf (pe_var (X := X.suite e ((e, oe) :: pn)) (i := i) hi hv hd hcd)) pa_nil))))).run pins s σ H D I ?_
  exact ⟨.ref e, h1 hlt, rfl, rfl, dd, fs, v, rfl, hx, hl, two_line, fun l hl => q l hl⟩
/-- the clauses as readings -/
def lsA (K : PySem.W.Frag) (mg : Str → Option Value) (i : Nat) : List Cl → List (Value × Cls4)
  | [] => []
  | (c, w, f) :: r => ((mg c).getD .none, tsA K i w f) :: lsA K mg i r
theorem asA (hi : X.N[i]? = some n) (hv : Vis X.env.scope n) (hd : (n == ("__debug__" : Str)) = false) (hcd : (n == ("__classdict__" : Str)) = false) : ∀ {hh : List ExceptHandler} {hs : List Cl}, HdA n hh hs → (∀ c ∈ hs, Gl X c.1 ∧ (c.1 == ("__debug__" : Str)) = false ∧ ∃ C, X.mg c.1 = some (.ref C)) → AsOk X n hh (lsA X.K X.mg i hs)
  | _, _, .nil, _ => .nil
  | _, _, .cons (c := c) r, hg => by
    obtain ⟨h1, h2, C, h3⟩ := hg _ (List.mem_cons_self)
    exact .cons ⟨h1, h2, .inl (by rw [h3]; rfl)⟩ (fun e oe cls d pn hz hf => suiteA hi hv hd hcd hz hf) (asA hi hv hd hcd r fun c hc => hg c (List.mem_cons_of_mem _ hc))
theorem catchA {K : PySem.W.Frag} {mg : Str → Option Value} {D : Ends} : ∀ {hs : List Cl} {cls : Value} {d : Option Addr} {σ : L2.St} {H : Hp}, CatchA K mg D.rt hs cls d H → wAsM K i (fun _ _ _ _ => False) D (lsA K mg i hs) cls d σ H
  | [], _, _, _, _, h => h.elim
  | (c, w, f) :: r, cls, d, σ, H, ⟨y, Cc, h1, h2, h3, h4⟩ => by
    refine ⟨y, by rw [h1]; exact h2, fun hy e he => ⟨fun hl => List.getElem?_set_self (by simpa using hl), h3 hy⟩, fun hy => catchA (h4 hy)⟩
end
theorem toldA_gives {X : Cx} {Ng : List Str} {x a n : Str} {i : Nat} {sg : Scope} {g : Addr} {cdg : Value} {w0 q : Str} {hs : List Cl} {h0 : ExceptHandler} {hr : List ExceptHandler} {j} {p1 p2 p3 p4 p5 p6 : Pos} (nN : Ng.Nodup) (hi : Ng[i]? = some n) (hln : sg.names.lookup n = some .local)
    (hd : (n == ("__debug__" : Str)) = false) (hcd : (n == ("__classdict__" : Str)) = false) (hgl : ∀ c ∈ hs, sg.names.lookup c.1 = some .globalImplicit ∧ (c.1 == ("__debug__" : Str)) = false ∧ ∃ C, X.mg c.1 = some (.ref C)) (hA : HdA n (h0 :: hr) hs) (st : ∀ f : Addr, (L2.start Ng [V.ref f])[0]? = some (some (V.ref f))) :
    LamX.GivesTo X Ng x sg g cdg [.Try [.Return (some (.List [.Constant (.str w0) j p1, .Call (.Name a p2) [] [] p3] p4)) p5] (h0 :: hr) [] [] p6] a q (TTA X.K X.mg w0 hs) := by
  intro f c1 s H Q tl act hc h
  let Z := (cxOf C8.CX0 X.prog X.w X.K X.mg X.base Ng x sg g cdg X.A X.stack s H C8.E0).nox
  have hk : Z.env.kindOf n = some .local := hln
  refine ⟨_, pss_one (ps_tryAsM (X := Z) (i := i) (n := n) (Wo := fun _ _ _ _ => False) (l := lsA X.K X.mg i hs)
      (tb := fun W D σ H => ∃ Ech : XK, (∀ cls d σ' H', Ech cls d H' → W cls d σ' H') ∧ σ[0]? = some (some (.ref f)) ∧ H c1 = some (LamX.CodeO c1 q) ∧ tl Ech H fun v H' => [V.str w0, v].length ≤ sizeLine ∧ ∀ l, H' l = none → D.rt (.ref l) (upd H' l (.lst [.str w0, v])))
      rfl rfl nN hi hk LamX.takes0 (fun W pn xe tk _ => ?_) (asA (X := Z) hi (.inl hln) hd hcd hA fun c hc => hgl c hc)), ?_⟩
  · refine ⟨fun pins s1 σ H1 D I h1 => ?_⟩
    obtain ⟨Ech, hW, e1, e2, e3⟩ := h1
    have hp := act W pn xe Ech p2 p3 tk hW
    refine (pss_one (ps_ret (pos := p5) (pe_lst (pos := p4) (pa_cons pe_str (pa_cons hp pa_nil))))).run pins s1 σ H1 D I ?_
    refine ⟨e1, e2, ?_⟩
    exact e3
  · exact ⟨CatchA X.K X.mg Q hs, fun cls d σ' H' hh => catchA (D := { nx := fun _ H' => Q .non H', rt := Q }) hh, st f, hc, h⟩
end Tr

namespace Tr
open PySem PySem.Spec PyProof.Rows L2
def tLamT (P : Addr) (q : Str) (TT : (XK → Hp → VK → Prop) → Hp → VK → Prop) (t : XK → TE) : TE := fun σ H Q => ∃ T, (P, q) ∈ T ∧ (∀ p ∈ T, p.1 = P → p.2 = q) ∧ LamX.Tabs T H ∧
  ∀ G, (∀ b o, H b = some o → b ≠ P → G b = some o) → LamX.Tabs T G → TT (fun E H' Q' => t E σ H' Q') G Q
theorem pe_lamT {X : Cx} {TT : (XK → Hp → VK → Prop) → Hp → VK → Prop} {x a : Str} {g c P : Addr} {k : Nat} {pg : Arguments} {bg : List Stmt} {sg : Scope} {dV kV doc pm cdv ct oc : Value} {an od : Option Addr} {osl : Array (Option Value)} {Ng : List Str}
    {ag : Arguments} {bo : Expr} {sc : Scope} {t : XK → TE} {p lpos pos : Pos} (hg : Gl X x) (hm : X.mg x = some (.ref g)) (hk : PySem.W.keepIn X.K (.ref g) = true)
    (lk : X.K.lookup g = some ⟨oc, od, .func (PySem.W.fnOf x x pg bg sg dV kV doc pm an cdv ct), osl⟩) (hcg : PySem.W.codeIn X.K cdv x = true) (hb : L2.Binds X.K (PySem.W.fnOf x x pg bg sg dV kV doc pm an cdv ct) [a] []) (Sg : FnScope Ng [a] sg) (n0 : Ng[0]? = some a) (va : Vis sg a)
    (gv : LamX.GivesTo X Ng x sg g cdv bg a (X.env.qual ++ "<lambda>") TT) (tb : LamX.TabB X.base X.mg c P) (hcode : X.env.code = .ref c) (hr : Room (k + 2) X.A) (L : LamX.LamS X.env.scope sc) (df : defaultsOf ag X.env = ([], []))
    (bind0 : ∀ (q : Str) (cl : List (Str × Addr)) (pm cv ctv : Value), bindArgs (PySem.W.kla_fn "<lambda>" q ag bo sc cl pm cv ctv) ⟨[], []⟩ = pure [])
    (body : ∀ (A : Around) (outer : List Env) (s : Shared) (H : Hp) (E : XK) (f c1 : Addr), Room k (A.deeper (LamX.lamEnv X sc s.heap.objs.size f c1)) → PE (LamX.lamCx X A outer s H E sc f c1) bo (t E))
    (hdb : (x == ("__debug__" : Str)) = false) (hd : (a == ("__debug__" : Str)) = false) (hcd : (a == ("__classdict__" : Str)) = false) :
    PE X (.Call (.Name x p) [.Lambda ag bo sc lpos] [] pos) (tLamT P (X.env.qual ++ "<lambda>") TT t) := by
  refine ⟨fun pins s σ H Q J hh => ?_⟩
  obtain ⟨T, mT, one, tT, go⟩ := hh
  refine wpAny_Call_Name_kw (ld_glob J hg hm ?_ hdb)
  refine PySem.W.callWith_K (h₀ := X.base) J.ok.mod.kin hk ?_ (by rfl) (by rfl)
  show wpAny _ _ (spliced ((false, eval (.Lambda ag bo sc lpos) X.env) :: backTo pos (starEach [] X.env))) _ _ s
  refine Calls.spliced_cons (lam_mk J tb hcode mT one tT df (L.has J.ok) fun f c1 pm1 ctv G s1 J1 ex T1 gf fn fo co => ?_)
  refine Calls.spliced_nil ⟨J1.kIn, ?_⟩
  have run : codeAny (model X.prog X.w) X.A (.call (.ref g) ⟨[.ref f], []⟩) (CR C8.CX0 X.stack X.prog X.w G s1 Q C8.E0) s1 := by
    refine LamX.run_ofS (N := Ng) (ps := [a]) (us := [.ref f]) (vs := [.ref f]) lk hcg Sg hr J1.env0 (hb s1 [.ref f] J1.kIn rfl) (.cons rfl .nil) rfl fun hr1 => ?_
    obtain ⟨u, hu, hq⟩ := gv f c1 s1 G Q (fun E H' Q' => t E σ H' Q') (fun W pn xe E p1 p2 tk hW => LamX.pe_act (i := 0) J1 L gf fn fo (bind0 _ _ _ _ _) tk hW hr1 (fun A outer s H h2 => body A outer s H E f c1 h2) n0 va hd hcd) co (go G ex T1)
    exact ⟨u, hu.nox, hq⟩
  refine wpAny_call (codeAny_mono run fun r s2 hq => ?_)
  cases r with
  | error e => exact (show False from hq).elim
  | ok fl =>
    cases fl with
    | ret u => exact J1.after hq
    | next => exact False.elim hq
    | brk => exact False.elim hq
    | cont => exact False.elim hq
/-- where a lambda is made -/
structure LamAt (X : Cx) (c P : Addr) : Prop where
  code : X.env.code = .ref c
  tb : LamX.TabB X.base X.mg c P
  mem : ∀ ρ H, TbO X.K X.mg ρ H → (P, X.env.qual ++ "<lambda>") ∈ ρ.tb
/-- a told def -/
structure TOk (K : PySem.W.Frag) (mg : Str → Option Value) (x w0 : Str) (hs : List Cl) : Prop where
  ex : ∃ (g : Addr) (a : Str) (Ng : List Str) (pg : Arguments) (bg : List Stmt) (sg : Scope) (dV kV doc pm cdv ct oc : Value) (an od : Option Addr) (osl : Array (Option Value)),
    mg x = some (.ref g) ∧ PySem.W.keepIn K (.ref g) = true ∧ K.lookup g = some ⟨oc, od, .func (PySem.W.fnOf x x pg bg sg dV kV doc pm an cdv ct), osl⟩ ∧ PySem.W.codeIn K cdv x = true ∧ L2.Binds K (PySem.W.fnOf x x pg bg sg dV kV doc pm an cdv ct) [a] [] ∧
    FnScope Ng [a] sg ∧ Ng[0]? = some a ∧ Vis sg a ∧ (a == ("__debug__" : Str)) = false ∧ (a == ("__classdict__" : Str)) = false ∧ ∀ (X : Cx) (q : Str), X.K = K → X.mg = mg → LamX.GivesTo X Ng x sg g cdv bg a q (TTA K mg w0 hs)
/-- which clause takes an error of the class at C -/
def Falls (K : PySem.W.Frag) (mg : Str → Option Value) (C : Addr) : List Cl → Str × Str → Prop
  | [], _ => False
  | (c, w, f) :: r, z => ∃ Cc, mg c = some (.ref Cc) ∧ ((PySem.W.exmOne K (.ref C) (.ref Cc) = some true ∧ z = (w, f)) ∨ (PySem.W.exmOne K (.ref C) (.ref Cc) = some false ∧ Falls K mg C r z))
/-- what is known of the errors that may come: cl -/
structure Told (K : PySem.W.Frag) (mg : Str → Option Value) (hs cl : List Cl) : Prop where
  at_ : ∀ k w f, cl.lookup k = some (w, f) → ∀ C, mg k = some (.ref C) → XfC K C ∧ PySem.W.findIn K (.ref C) f = some none ∧ Falls K mg C hs (w, f)
theorem falls_catch {K : PySem.W.Frag} {mg : Str → Option Value} {Q : VK} {C dd : Addr} {fs : List (Str × V)} {v : V} {H : Hp} {w f : Str} (T : XfC K C) (hno : PySem.W.findIn K (.ref C) f = some none) (hx : H dd = some (.xd fs)) (hl : fs.lookup f = some v) (q : ∀ l, H l = none → Q (.ref l) (upd H l (.lst [.str w, v]))) :
    ∀ {hs : List Cl}, Falls K mg C hs (w, f) → CatchA K mg Q hs (.ref C) (some dd) H
  | [], h => h.elim
  | (c, w', f') :: r, ⟨Cc, h1, h2⟩ => by
    rcases h2 with ⟨h2, h3⟩ | ⟨h2, h3⟩
    · cases h3
      exact ⟨true, Cc, h1, h2, fun _ => ⟨C, dd, fs, v, rfl, rfl, T, hno, hx, hl, q⟩, fun z => nomatch z⟩
    · exact ⟨false, Cc, h1, h2, (fun z => nomatch z), fun _ => falls_catch T hno hx hl q h3⟩
theorem new_back {c : Ct} {H H' : Hp} {g : Rg} {b : Addr} (e : Ext c H H') (k : RgOk c H' g) (h : H' b = none) : H b = none := by
  cases q : H b with
  | none => rfl
  | some o => exact absurd h (dom_ext e k (by rw [q]; exact fun z => nomatch z))
theorem se_lamtold {X : Cx} {Wx : WX} {Wk : List Nat} {x w0 : Str} {hs cl : List Cl} {c P : Addr} {kk k : Nat} {ag : Arguments} {bo : Expr} {sc : Scope} {lpos p pos : Pos} {d : Den} (T : TOk X.K X.mg x w0 hs) (Tl : Told X.K X.mg hs cl) (L : LamAt X c P) (hr : Room kk X.A) (hj : k + 2 ≤ kk)
    (hbody : ∀ (A : Around) (outer : List Env) (s : Shared) (H : Hp) (E : XK) (f c1 : Addr), Room k (A.deeper (LamX.lamEnv X sc s.heap.objs.size f c1)) → SE (LamX.lamCx X A outer s H E sc f c1) (WE0 E) Wk .rep bo d)
    (S : LamX.LamS X.env.scope sc) (df : defaultsOf ag X.env = ([], []) := by rfl) (bind0 : ∀ (q : Str) (cl : List (Str × Addr)) (pm cv ctv : Value), bindArgs (PySem.W.kla_fn "<lambda>" q ag bo sc cl pm cv ctv) ⟨[], []⟩ = pure [] := by intros; rfl)
    (hg : Gl X x := by rfl) (hdb : (x == ("__debug__" : Str)) = false := by decide) :
    SE X Wx Wk .frs (.Call (.Name x p) [.Lambda ag bo sc lpos] [] pos) (dTold w0 cl d) := by
  obtain ⟨g, a, Ng, pg, bg, sg, dV, kV, doc, pm, cdv, ct', oc, an, od, osl, hm, hk, lk, hcg, hb, Sg, n0, va, hd, hcd, gv⟩ := T.ex
  refine ⟨_, pe_lamT (t := fun E => tE X.K X.mg (WE0 E) Wk .rep d) hg hm hk lk hcg hb Sg n0 va (gv X _ rfl rfl) L.tb L.code (hr.mono hj) S df bind0 (fun A outer s H E f c1 h => (hbody A outer s H E f c1 h).pe) hdb hd hcd, fun ρ B W σ σc H gg Q hW R p => ?_⟩
  have tbk := R.rg.tb
  have mT := L.mem ρ H tbk
  refine ⟨ρ.tb, mT, fun q hq e => tbk.one q hq _ mT e, tbk.at_, fun G ex TG => ?_⟩
  obtain ⟨ps, hP, _⟩ := tbk.at_ _ mT
  have e1 : Ext (ct X ρ B) H G := fun b o h n => ex b o h fun z => n (.inr (List.mem_map.mpr ⟨_, mT, z.symm⟩))
  have k1 : RgOk (ct X ρ B) G gg := ⟨fun q hq => by
    obtain ⟨h1, h2, h3, h4⟩ := R.rg.dr q hq
    exact ⟨h1, h2, ex _ _ h3 (fun z => by rw [z, hP] at h3; cases h3), ex _ _ h4 (fun z => by rw [z, hP] at h4; cases h4)⟩, TG, tbk.has, tbk.one⟩
  refine ⟨ρ, B, W, σ, gg, hW, R.ext e1 k1, ?_⟩
  have p := Pst.from e1 k1 p
  have p : Pst (ct X ρ B) W G .frs (toldP w0 cl (d σ gg)) Q (fun cls dd H' => Wx cls dd σc H') := p
  have fin : ∀ (w : Str) (q : PV) (v : V) (H2 : Hp) (g2 : Rg), Ext (ct X ρ B) G H2 → RgOk (ct X ρ B) H2 g2 → Rep ((ct X ρ B).ban W) H2 q v → (∀ v' H', Ext (ct X ρ B) G H' → RgOk (ct X ρ B) H' g2 → Val ((ct X ρ B).ban W) G H' (.lst [.str w, q]) v' .frs → Q v' H') → ∀ l, H2 l = none → Q (.ref l) (upd H2 l (.lst [.str w, v])) := by
    intro w q v H2 g2 e2 k2 hv p l hl
    have s := same_new (o := .lst [.str w, v]) hl
    exact p _ _ (e2.trans (Ext.of s)) (RgO.same (c := ct X ρ B) k2 s) (Val.from (c := (ct X ρ B).ban W) e2 k2 (val_lst (c := (ct X ρ B).ban W) ⟨_, _, rfl, rfl, _, _, rfl, hv, rfl⟩ hl))
  cases hd : d σ gg with
  | ok q g2 =>
    rw [hd] at p
    exact fun v H2 e2 k2 hv => ⟨two_line, fin w0 q v H2 g2 e2 k2 hv p⟩
  | exc kx ns qs g2 =>
    rw [hd] at p
    unfold toldP at p
    simp only [] at p
    cases hc : cl.lookup kx with
    | none => rw [hc] at p; exact p.elim
    | some wf =>
      obtain ⟨w, f⟩ := wf
      rw [hc] at p
      simp only [] at p
      cases hf : fldP ns qs f with
      | none => rw [hf] at p; exact p.elim
      | some q =>
        rw [hf] at p
        intro cls dd H2 e2 k2 rx
        obtain ⟨C, d1, vs, h1, rfl, rfl, h4, h5, h6, h7⟩ := rx
        obtain ⟨v, e5, e6⟩ := fldP_rep h7 hf
        obtain ⟨t1, t2, t3⟩ := Tl.at_ kx w f hc C h1
        exact falls_catch t1 t2 h5 e5 (fin w q v H2 g2 e2 k2 e6 p) t3
  | stuck => rw [hd] at p; exact p.elim
end Tr

namespace Tr
open PySem PySem.Spec PyProof.Rows L2
structure Sw (H G : Hp) : Prop where
  lst : ∀ b xs, H b = some (.lst xs) → G b = some (.lst xs)
  tup : ∀ b xs, H b = some (.tup xs) → G b = some (.tup xs)
  ins : ∀ b C d fs, H b = some (.ins C d fs) → G b = some (.ins C d fs)
  dct : ∀ b kvs, Rd H b (.dK kvs) → Rd G b (.dK kvs)
  tab : ∀ b o, H b = some o → ¬ NoTab o → G b = some o
  non : ∀ b, H b ≠ none → G b ≠ none
theorem sw_upd {H : Hp} {d : Addr} {u v : HO} (h : H d = some u) (n : NoTab u) (n1 : ∀ xs, u ≠ .lst xs) (n2 : ∀ xs, u ≠ .tup xs) (n3 : ∀ C d fs, u ≠ .ins C d fs) (hr : ∀ kvs, Rd H d (.dK kvs) → Rd (upd H d v) d (.dK kvs)) : Sw H (upd H d v) := by
  have ne : ∀ b w, H b = some w → w ≠ u → b ≠ d := fun b w hb hw e => by subst e; rw [h] at hb; cases hb; exact hw rfl
  exact ⟨fun b xs q => by rw [upd_ne (ne b _ q (fun e => n1 xs e.symm))]; exact q, fun b xs q => by rw [upd_ne (ne b _ q (fun e => n2 xs e.symm))]; exact q, fun b C d fs q => by rw [upd_ne (ne b _ q (fun e => n3 C d fs e.symm))]; exact q,
    fun b kvs q => by
      by_cases e : b = d
      · subst e; exact hr kvs q
      · exact q.to fun o z => by rw [upd_ne e]; exact z,
    fun b o q z => by rw [upd_ne (ne b _ q (fun e => z (e ▸ n)))]; exact q, fun b q => by
      by_cases e : b = d
      · rw [e, upd_same]; exact fun z => nomatch z
      · rw [upd_ne e]; exact q⟩
theorem sw_lock {H : Hp} {d : Addr} {od : Obj} {kvs : List (Key × V)} (h : H d = some (.dK kvs)) : Sw H (upd H d (.frz od (.dK kvs))) :=
  sw_upd h trivial (fun _ z => nomatch z) (fun _ z => nomatch z) (fun _ _ _ z => nomatch z) fun kvs' r => by
    rcases r with r | ⟨o, r⟩ <;> (rw [h] at r; cases r)
    exact .inr ⟨od, upd_same⟩
theorem sw_unlock {H : Hp} {d : Addr} {od : Obj} {kvs : List (Key × V)} (h : H d = some (.frz od (.dK kvs))) : Sw H (upd H d (.dK kvs)) :=
  sw_upd h trivial (fun _ z => nomatch z) (fun _ z => nomatch z) (fun _ _ _ z => nomatch z) fun kvs' r => by
    rcases r with r | ⟨o, r⟩ <;> (rw [h] at r; cases r)
    exact .inl upd_same
mutual
theorem Rep.sw {c : Ct} {H H' : Hp} (s : Sw H H') : ∀ {p : PV} {v : V}, Rep c H p v → Rep c H' p v
  | .non, _, h => h
  | .bl _, _, h => h
  | .int _, _, h => h
  | .str _, _, h => h
  | .tup l, _, ⟨a, xs, h1, h2, h3⟩ => ⟨a, xs, h1, h2.elim (fun h => .inl ⟨h.1, s.tup _ _ h.2⟩) .inr, RepL.sw s h3⟩
  | .lst l, _, ⟨a, xs, h1, h2, h3⟩ => ⟨a, xs, h1, ⟨h2.1, s.lst _ _ h2.2⟩, RepL.sw s h3⟩
  | .dct ks ps, _, ⟨a, vs, h1, h2, h3, h4, h5⟩ => ⟨a, vs, h1, h2, s.dct _ _ h3, h4, RepL.sw s h5⟩
  | .ins k ns ps, _, ⟨a, C, dx, vs, h1, h2, h3, h4, h5, h6⟩ => ⟨a, C, dx, vs, h1, h2, h3, s.ins _ _ _ _ h4, h5, RepL.sw s h6⟩
  | .rng, _, h => h
theorem RepL.sw {c : Ct} {H H' : Hp} (s : Sw H H') : ∀ {ps : List PV} {vs : List V}, RepL c H ps vs → RepL c H' ps vs
  | [], _, h => h
  | p :: ps, _, ⟨v, r, h1, h2, h3⟩ => ⟨v, r, h1, Rep.sw s h2, RepL.sw s h3⟩
end
theorem Own.sw {c : Ct} {H H' : Hp} {a : Addr} {p : PV} (s : Sw H H') (e : H' a = H a) (h : Own c H a p) : Own c H' a p := by
  cases p with
  | lst l => obtain ⟨xs, h, k⟩ := h; exact ⟨xs, e.trans h, k.sw s⟩
  | dct ks ps => obtain ⟨xs, h, l, k⟩ := h; exact ⟨xs, e.trans h, l, k.sw s⟩
  | ins k ns ps => obtain ⟨C, dx, vs, m, h, l, k⟩ := h; exact ⟨C, dx, vs, m, e.trans h, l, k.sw s⟩
  | _ => exact h.elim
theorem RgO.sw {K : PySem.W.Frag} {mg : Str → Option Value} {ρ : Rho} {H H' : Hp} {g : Rg} (s : Sw H H') (h : RgO K mg ρ H g) : RgO K mg ρ H' g :=
  ⟨fun p e => let ⟨a, b, x, y⟩ := h.dr p e; ⟨a, b, s.lst _ _ x, s.lst _ _ y⟩, h.tb.keep s.tab⟩
theorem Rel.sw {c : Ct} {W : Wn} {σ : Sl} {σc : L2.St} {H H' : Hp} {g : Rg} (s : Sw H H') (hw : ∀ w ∈ W, H' w.2 = H w.2) (r : Rel c W σ σc H g) : Rel c W σ σc H' g where
  len := r.len
  rg := r.rg.sw s
  rb := r.rb
  dom := fun b h => s.non b (r.dom b h)
  ndk := r.ndk
  nda := r.nda
  wb := r.wb
  val := fun i p h n => let ⟨v, h1, h2⟩ := r.val i p h n; ⟨v, h1, h2.sw s⟩
  own := fun w h => let ⟨p, h1, h2, h3⟩ := r.own w h; ⟨p, h1, h2, h3.sw s (hw w h)⟩
def keyV : Key → PV
  | .inl i => .int i
  | .inr s => .str s
theorem keyV_rep {c : Ct} {H : Hp} (k : Key) : Rep c H (keyV k) (kV k) := by cases k <;> rfl
/-- the keys of slot i -/
def dKeys (i : Nat) : DenL := fun σ g => match σ[i]? with | some (some (.dct ks _)) => .ok (ks.map keyV) g | _ => .stuck
def noXS : SRes → SRes
  | .exc _ _ _ _ => .stuck
  | r => r
@[simp] theorem noXS_next (σ : Sl) (g : Rg) : noXS (.next σ g) = .next σ g := rfl
@[simp] theorem noXS_ret (p : PV) (g : Rg) : noXS (.ret p g) = .ret p g := rfl
theorem PstS.noX {c : Ct} {W : Wn} {H : Hp} {Wk' : List Nat} {md : Md} {r : SRes} {D : Ends} {E E' : XK} (h : PstS c W H Wk' md (noXS r) D E) : PstS c W H Wk' md r D E' := by
  cases r with
  | next σ g => exact h
  | ret p g => exact h
  | exc a b cc d => exact h.elim
  | stuck => exact h
/-- what a locked dict's keys are -/
theorem walks_keys {c : Ct} {H : Hp} {d : Addr} {od : Obj} {ks : List Key} {vs : List V} (nb : ¬ c.B d) (h : H d = some (.frz od (.dK (ks.zip vs)))) (hl : ks.length = vs.length) : Walks c H (Itk d od (ks.zip vs)) (ks.map keyV) where
  go := fun H' i s hi => ⟨s _ _ h nb, by rw [List.length_zip, ← hl]; simpa using hi⟩
  yld := fun H' i x H'' B' s hi y hd hb => by
    obtain ⟨rfl, k, v, e1, rfl⟩ := y
    have hk : ks[i]? = some k := by
      have := congrArg (Option.map (·.1)) e1
      rw [← List.getElem?_map, List.map_fst_zip (by omega)] at this
      simpa using this
    exact ⟨fun _ _ q => q, keyV k, by rw [List.getElem?_map, hk]; rfl, keyV_rep k⟩
  stop := fun H' i s hi => ⟨s _ _ h nb, by rw [List.length_zip, ← hl]; simpa using hi⟩
section
variable {X : Cx} {E : XK} {Wx : WX} {fz Wk Wk' Wk1 : List Nat} {md : Md}
/-- the slot's dict -/
theorem slot_dct {c : Ct} {W : Wn} {σ : Sl} {σc : L2.St} {H : Hp} {g : Rg} {i : Nat} {ks : List Key} {ps : List PV} (R : Rel c W σ σc H g) (hi : i ∉ W.map (·.1)) (e : σ[i]? = some (some (.dct ks ps))) :
    ∃ d vs, σc[i]? = some (some (.ref d)) ∧ ¬ (c.ban W).B d ∧ Rd H d (.dK (ks.zip vs)) ∧ ks.length = vs.length := by
  obtain ⟨v, h1, d, vs, rfl, h2, h3, h4, _⟩ := R.val i _ e hi
  exact ⟨d, vs, h1, h2, h3, h4⟩
theorem di_keys {ρ : Rho} {B : Addr → Prop} {W : Wn} {σ : Sl} {σc : L2.St} {H : Hp} {g : Rg} {i : Nat} {ks : List Key} {ps : List PV} {d : Addr} {od : Obj} {vs : List V} {EX : XK} (e : σ[i]? = some (some (.dct ks ps))) (R : Rel (ct X ρ B) W σ σc H g) (h1 : σc[i]? = some (some (.ref d))) (nb : ¬ ((ct X ρ B).ban W).B d) (h : H d = some (.frz od (.dK (ks.zip vs)))) (hl : ks.length = vs.length) :
    ∀ (R1 : It → Hp → Prop), PstI (ct X ρ B) W H (dKeys i σ g) R1 EX → iKeys (tVar i) σc H R1 := fun R1 p => by
  have ed : dKeys i σ g = .ok (ks.map keyV) g := by unfold dKeys; rw [e]
  rw [ed] at p
  exact ⟨.ref d, h1, d, od, rfl, .inl ⟨_, h, p _ _ (Ext.refl _ _) R.rg (walks_keys nb h hl)⟩⟩
def dForK (i : Nat) (gd : DenG) (db : DenS) : DenS := fun σ g => noXS (dFor (dKeys i) gd db σ g)
/-- for k in d: d a name -/
theorem ss_forK (i : Nat) {x : Str} {px : Pos} {tg : Expr} {body : List Stmt} {pos : Pos} {gd : DenG} {db : DenS} {gs : List Nat} (hp : PassesOwn (model X.prog X.w) X.A X.env X.xe) (hc : X.calm = true) (hg : SG X Wk gs tg gd) (hb : SSs X E fz Wk Wk md body db)
    (hi : i ∉ Wk := by decide) (hN : X.N[i]? = some x := by rfl) (hv : Vis X.env.scope x := by first | exact Or.inl rfl | exact Or.inr (Or.inl rfl) | exact Or.inr (Or.inr rfl)) (hdb : (x == ("__debug__" : Str)) = false := by decide) (hcd : (x == ("__classdict__" : Str)) = false := by decide)
    (hz : ∀ i ∈ fz, i ∉ gs := by decide) (hs : ∀ y, foldedSetIterable (.Name x px) X.env y = pure y := by intro _; rfl) : SS X E fz Wk Wk md (.For tg (.Name x px) body [] pos) (dForK i gd db) := by
  obtain ⟨t, ht, hh⟩ := hg
  obtain ⟨tb, htb, hhb⟩ := hb
  have P1 := ps_for (pos := pos) hp hc (pi_keys (tg := tg) (pe_var (X := X) (pos := px) (i := i) hN hv hdb hcd)) ht htb hs
  refine ⟨fun D σ H => tFor (iKeys (tVar i)) t tb D σ H ∨ tLock (tFor (iKeys (tVar i)) t tb) D σ H, ⟨fun pins s σ H D I q => q.elim (P1.run pins s σ H D I) ((ps_lock P1).run pins s σ H D I)⟩, fun ρ B W σ σc H g D J hW R jc j p => ?_⟩
  cases eσ : σ[i]? with
  | none => simp [dForK, dFor, dKeys, eσ, noXS] at p; exact p.elim
  | some o =>
    match o, eσ with
    | none, eσ => simp [dForK, dFor, dKeys, eσ, noXS] at p; exact p.elim
    | some (.dct ks ps), eσ =>
      obtain ⟨d, vs, h1, nb, h3, hl⟩ := slot_dct R (hW ▸ hi) eσ
      rcases h3 with h3 | ⟨od, h3⟩
      · refine .inr ⟨d, _, h3, trivial, fun od => ?_⟩
        have sw := sw_lock (od := od) h3
        have nW : d ∉ W.map (·.2) := fun z => nb (.inr z)
        have nR : ¬ (ct X ρ B).R d := fun z => nb (.inl (R.rb _ z))
        have R1 : Rel (ct X ρ B) W σ σc (upd H d (.frz od (.dK (ks.zip vs)))) g := R.sw sw fun w hw => upd_ne fun e => nW (List.mem_map.mpr ⟨w, hw, e⟩)
        refine for_read (E := E) (fz := fz) (md := md) (J' := J) (di_keys (EX := fun cls dd H' => WE0 E cls dd σc H') eσ R1 h1 nb upd_same hl) hh hhb hz hW R1 jc j ?_
        have ext : ∀ {H' : Hp}, ExtW (ct X ρ B) W (upd H d (.frz od (.dK (ks.zip vs)))) H' → H' d = some (.frz od (.dK (ks.zip vs))) ∧ ExtW (ct X ρ B) W H (upd H' d (.dK (ks.zip vs))) := fun e => ⟨e _ _ upd_same nR nW, fun b o hb n1 n2 => by
          by_cases z : b = d
          · subst z; rw [upd_same, ← h3]; exact hb
          · rw [upd_ne z]; exact e b o (by rw [upd_ne z]; exact hb) n1 n2⟩
        have p : PstS (ct X ρ B) W H Wk md (noXS (dFor (dKeys i) gd db σ g)) (jD D J) E := p
        cases er : dFor (dKeys i) gd db σ g with
        | next σ' g' =>
          rw [er] at p
          intro W' σc' H' hk e2 n2 R' j'
          obtain ⟨z1, z2⟩ := ext e2
          have ndW : ∀ w ∈ W', w.2 ≠ d := fun w hw e => by
            rcases n2 w.2 (List.mem_map.mpr ⟨w, hw, rfl⟩) with q | q
            · exact nW (e ▸ q)
            · rw [e, upd_same] at q; cases q
          exact ⟨z1, p W' σc' _ hk z2 (fun b hb => (n2 b hb).imp id fun q => by
            by_cases z : b = d
            · rw [z, upd_same] at q; cases q
            · rw [upd_ne z] at q; exact q) (R'.sw (sw_unlock z1) fun w hw => upd_ne (ndW w hw)) j'⟩
        | ret q g' =>
          rw [er] at p
          intro v H' e2 k2 rv
          obtain ⟨z1, z2⟩ := ext e2
          refine ⟨z1, p v _ z2 (k2.sw (sw_unlock z1)) ?_⟩
          cases md with
          | frs =>
            obtain ⟨a, rfl, ha, ho, hna⟩ := rv
            have nad : a ≠ d := fun e => by
              rcases ha with q | q
              · rw [e, upd_same] at q; cases q
              · exact nW (e ▸ q)
            refine ⟨a, rfl, ha.imp (fun q => by rw [upd_ne nad] at q; exact q) id, ho.sw (sw_unlock z1) (upd_ne nad), hna⟩
          | rep => exact Rep.sw (sw_unlock z1) rv
          | brw => exact Rep.sw (sw_unlock z1) rv
        | exc a b cc dd => rw [er] at p; exact p.elim
        | stuck => rw [er] at p; exact p.elim
      · exact .inl (for_read (E := E) (fz := fz) (md := md) (J' := J) (di_keys (EX := fun cls dd H' => WE0 E cls dd σc H') eσ R h1 nb h3 hl) hh hhb hz hW R jc j (PstS.noX p))
    | some .non, eσ => simp [dForK, dFor, dKeys, eσ, noXS] at p; exact p.elim
    | some (.bl _), eσ => simp [dForK, dFor, dKeys, eσ, noXS] at p; exact p.elim
    | some (.int _), eσ => simp [dForK, dFor, dKeys, eσ, noXS] at p; exact p.elim
    | some (.str _), eσ => simp [dForK, dFor, dKeys, eσ, noXS] at p; exact p.elim
    | some (.tup _), eσ => simp [dForK, dFor, dKeys, eσ, noXS] at p; exact p.elim
    | some (.lst _), eσ => simp [dForK, dFor, dKeys, eσ, noXS] at p; exact p.elim
    | some (.ins _ _ _), eσ => simp [dForK, dFor, dKeys, eσ, noXS] at p; exact p.elim
    | some .rng, eσ => simp [dForK, dFor, dKeys, eσ, noXS] at p; exact p.elim
/-- [e for k in d]: d a name -/
theorem se_lcK (i : Nat) {x : Str} {px : Pos} {tg elt : Expr} {ifs : List Expr} {scope : Scope} {own : List (Str × Nat)} {pos : Pos} {gs : List Nat} {gd : DenG} {dt : DenT} {de : Den} (hc : X.calm = true) (hNd : X.N.Nodup) (ok : BlkOk X.N X.env.scope scope own)
    (hg : ∀ s H C cl fp, SG (Blk X scope s H C cl fp) Wk gs tg gd) (ht : ∀ s H C cl fp, STs (Blk X scope s H C cl fp) Wx0 Wk ifs dt) (he : ∀ s H C cl fp, SE (Blk X scope s H C cl fp) Wx0 Wk .rep elt de)
    (hi : i ∉ Wk := by decide) (hN : X.N[i]? = some x := by rfl) (hv : Vis X.env.scope x := by first | exact Or.inl rfl | exact Or.inr (Or.inl rfl) | exact Or.inr (Or.inr rfl)) (hdb : (x == ("__debug__" : Str)) = false := by decide) (hcd : (x == ("__classdict__" : Str)) = false := by decide)
    (hgs : ∀ j ∈ gs, j ∈ own.map (·.2) := by decide) (hvs : ∀ j ∈ own.map (·.2), j ∉ Wk := by decide) (hs : ∀ y, foldedSetIterable (.Name x px) X.env y = pure y := by intro _; rfl) :
    SE X Wx Wk .frs (.ListComp elt [⟨tg, .Name x px, ifs, 0⟩] scope pos) (dComp (dKeys i) (own.map (·.2)) gd dt de) := by
  have P1 := pe_lc (pos := pos) (g := tGt X.K X.mg Wk gs gd) (tt := tTs X.K X.mg Wx0 Wk dt) (te := tE X.K X.mg Wx0 Wk .rep de) hc hNd (pi_keys (tg := tg) (pe_var (X := X) (pos := px) (i := i) hN hv hdb hcd)) ok (fun s H C cl fp => (hg s H C cl fp).pe) (fun s H C cl fp => (ht s H C cl fp).pe) (fun s H C cl fp => (he s H C cl fp).pe) hs
  refine ⟨fun σ H Q => tLc (iKeys (tVar i)) (tGt X.K X.mg Wk gs gd) (tTs X.K X.mg Wx0 Wk dt) (tE X.K X.mg Wx0 Wk .rep de) (own.map (·.2)) σ H Q ∨ tLockE (tLc (iKeys (tVar i)) (tGt X.K X.mg Wk gs gd) (tTs X.K X.mg Wx0 Wk dt) (tE X.K X.mg Wx0 Wk .rep de) (own.map (·.2))) σ H Q,
    ⟨fun pins s σ H Q I q => q.elim (P1.run pins s σ H Q I) ((pe_lock P1).run pins s σ H Q I)⟩, fun ρ B W σ σc H g Q hW R p => ?_⟩
  have stk : (∀ ks ps, σ[i]? ≠ some (some (.dct ks ps))) → dComp (dKeys i) (own.map (·.2)) gd dt de σ g = .stuck := fun h => by
    have : dKeys i σ g = .stuck := by
      unfold dKeys
      split
      · rename_i ks ps e; exact absurd e (h ks ps)
      · rfl
    unfold dComp
    rw [this]
    rfl
  by_cases hx : ∃ ks ps, σ[i]? = some (some (.dct ks ps))
  · obtain ⟨ks, ps, eσ⟩ := hx
    obtain ⟨d, vs, h1, nb, h3, hl⟩ := slot_dct R (hW ▸ hi) eσ
    rcases h3 with h3 | ⟨od, h3⟩
    · refine .inr ⟨d, _, h3, trivial, fun od => ?_⟩
      have sw := sw_lock (od := od) h3
      have nW : d ∉ W.map (·.2) := fun z => nb (.inr z)
      have nR : ¬ (ct X ρ B).R d := fun z => nb (.inl (R.rb _ z))
      have R1 : Rel (ct X ρ B) W σ σc (upd H d (.frz od (.dK (ks.zip vs)))) g := R.sw sw fun w hw => upd_ne fun e => nW (List.mem_map.mpr ⟨w, hw, e⟩)
      refine lc_read (Wx := Wx) (di_keys (EX := fun cls dd H' => Wx cls dd σc H') eσ R1 h1 nb upd_same hl) (fun ρ B W σ σ' σc H g p v Q hW R rp eg k => ⟨ρ, B, W, σ, σ', g, p, hW, R, rp, eg, k⟩) (fun ρ B W σ σc H g Q hW R p => ⟨ρ, B, W, σ, g, hW, R, p⟩) (fun ρ B W σ σc H g Q hW R p => ⟨ρ, B, W, σ, g, hW, R, p⟩) hgs hvs hW R1 ?_
      have ok2 : ∀ r : Res PV, dComp (dKeys i) (own.map (·.2)) gd dt de σ g = r → match r with | .exc _ _ _ _ => False | _ => True := by
        intro r er
        have : dKeys i σ g = .ok (ks.map keyV) g := by unfold dKeys; rw [eσ]
        unfold dComp at er
        rw [this] at er
        simp only [Res.bind_ok] at er
        split at er
        · have nox : ∀ (l : List PV) (g : Rg), match compL gd dt de (wipeP σ (own.map (·.2))) l g with | .exc _ _ _ _ => False | _ => True := by
            intro l
            induction l with
            | nil => intro g; simp [compL]
            | cons a l ih =>
              intro g
              simp only [compL]
              cases gd a (wipeP σ (own.map (·.2))) with
              | none => trivial
              | some σ1 =>
                simp only []
                cases dt σ1 g with
                | exc _ _ _ _ => simp [noX]
                | stuck => simp [noX]
                | ok b g2 =>
                  simp only [noX, Res.bind_ok]
                  cases b with
                  | false => exact ih g2
                  | true =>
                    simp only [if_pos]
                    cases de σ1 g2 with
                    | exc _ _ _ _ => simp [noX]
                    | stuck => simp [noX]
                    | ok y g3 =>
                      simp only [noX, Res.bind_ok]
                      have := ih g3
                      cases hc : compL gd dt de (wipeP σ (own.map (·.2))) l g3 with
                      | ok _ _ => simp
                      | exc _ _ _ _ => rw [hc] at this; exact this.elim
                      | stuck => simp
          have := nox (ks.map keyV) g
          cases hc : compL gd dt de (wipeP σ (own.map (·.2))) (ks.map keyV) g with
          | ok _ _ => rw [hc] at er; subst er; trivial
          | exc _ _ _ _ => rw [hc] at this; exact this.elim
          | stuck => rw [hc] at er; subst er; trivial
        · subst er; trivial
      cases er : dComp (dKeys i) (own.map (·.2)) gd dt de σ g with
      | ok q g' =>
        rw [er] at p
        rintro v H' e2 k2 ⟨a, rfl, na, oa⟩
        have e2 : Ext (ct X ρ B) (upd H d (.frz od (.dK (ks.zip vs)))) H' := e2
        have z1 : H' d = some (.frz od (.dK (ks.zip vs))) := e2 _ _ upd_same nR
        have nad : a ≠ d := fun e => by rw [e, upd_same] at na; cases na
        refine ⟨z1, p _ _ (fun b o hb n1 => ?_) (k2.sw (sw_unlock z1)) ⟨a, rfl, by rw [upd_ne nad] at na; exact na, oa.sw (sw_unlock z1) (upd_ne nad)⟩⟩
        by_cases z : b = d
        · subst z; rw [upd_same, ← h3]; exact hb
        · rw [upd_ne z]; exact e2 b o (by rw [upd_ne z]; exact hb) n1
      | exc _ _ _ _ => exact (ok2 _ er).elim
      | stuck => rw [er] at p; exact p.elim
    · exact .inl (lc_read (Wx := Wx) (di_keys (EX := fun cls dd H' => Wx cls dd σc H') eσ R h1 nb h3 hl) (fun ρ B W σ σ' σc H g p v Q hW R rp eg k => ⟨ρ, B, W, σ, σ', g, p, hW, R, rp, eg, k⟩) (fun ρ B W σ σc H g Q hW R p => ⟨ρ, B, W, σ, g, hW, R, p⟩) (fun ρ B W σ σc H g Q hW R p => ⟨ρ, B, W, σ, g, hW, R, p⟩) hgs hvs hW R p)
  · have := stk fun ks ps e => hx ⟨ks, ps, e⟩
    rw [this] at p
    exact p.elim
end
end Tr

namespace Tr
open PySem PySem.Spec PyProof.Rows L2
section
variable {X : Cx} {E : XK} {Wx : WX} {fz Wk Wk' Wk1 : List Nat} {md : Md}
def dDNew : Den := fun _ g => .ok (.dct [] []) g
theorem se_dnew {pos : Pos} : SE X Wx Wk .frs (.Dict [] [] pos) dDNew := ⟨_, pe_dnewK, fun ρ B W σ σc H g Q hW R p => fun q hq => by
  have s := same_new (o := .dK []) hq
  exact p _ _ (Ext.of s) (RgO.same (c := ct X ρ B) R.rg s) ⟨q, rfl, hq, [], upd_same, rfl, rfl⟩⟩
def onDct (i : Nat) (σ : Sl) (f : List Key → List PV → SRes) : SRes := match σ[i]? with
  | some (some (.dct ks ps)) => f ks ps
  | _ => .stuck
theorem onDct_cases {c : Ct} {W : Wn} {H : Hp} {Wk' : List Nat} {md : Md} {D : Ends} {E : XK} {i : Nat} {σ : Sl} {f : List Key → List PV → SRes} (p : PstS c W H Wk' md (onDct i σ f) D E) : ∃ ks ps, σ[i]? = some (some (.dct ks ps)) ∧ PstS c W H Wk' md (f ks ps) D E := by
  unfold onDct at p
  split at p
  · rename_i ks ps h; exact ⟨ks, ps, h, p⟩
  · exact p.elim
def dDPut (i : Nat) (dk d : Den) : DenS := fun σ g => onDct i σ fun ks ps => (d σ g).bindS fun p g => (dk σ g).bindS fun q g => match keyP q with
  | some k => if ks.length < sizeLine then .next (σ.set i (some (.dct (putKs ks k) (putVs ks ps k p)))) g else .stuck
  | none => .stuck
theorem ss_dput (i : Nat) {kk : Nat} {x : Str} {e ek : Expr} {px spos pos : Pos} {d dk : Den} (hr : Room kk X.A) (h : SE X (WE0 E) Wk .rep e d) (hk : SE X (WE0 E) Wk .brw ek dk) (hi : i ∈ Wk := by decide) (hN : X.N[i]? = some x := by rfl) (hv : Vis X.env.scope x := by first | exact Or.inl rfl | exact Or.inr (Or.inl rfl) | exact Or.inr (Or.inr rfl)) (hd : (x == ("__debug__" : Str)) = false := by decide)
    (hcd : (x == ("__classdict__" : Str)) = false := by decide) (hs : swapsWith e (some (.Subscript (.Name x px) ek spos)) pos.line X.env = pure false := by rfl) :
    SS X E fz Wk Wk md (.Assign [.Subscript (.Name x px) ek spos] e pos) (dDPut i dk d) := by
  obtain ⟨t, ht, hh⟩ := h
  obtain ⟨tk, htk, hhk⟩ := hk
  refine ⟨_, ps_dput (hu_of hr) (pe_var (pos := px) (i := i) hN hv hd hcd) htk ht hs, fun ρ B W σ σc H g D J hW R jc j p => ?_⟩
  rw [← hW] at hi
  obtain ⟨w, hw, rfl⟩ := List.mem_map.mp hi
  obtain ⟨ks, ps, h1, p⟩ := onDct_cases p
  obtain ⟨q, z1, h2, h3⟩ := R.own w hw
  rw [h1] at z1; cases z1
  obtain ⟨vs, h4, hl, h5⟩ := h3
  refine hh ρ B W σ σc H g _ hW R (PstS.bind p fun x g1 v H1 _ e1 k1 q1 p => ?_)
  have R1 := R.ext e1 k1
  have h6 := e1 _ _ h4 (fun z => R.wb w hw (R.rb _ z))
  refine ⟨_, h2, ?_⟩
  refine hhk ρ B W σ σc H1 g1 _ hW R1 (PstS.bind p fun y g2 u H2 _ e2 k2 q2 p => ?_)
  have R2 := R1.ext e2 k2
  have h7 := e2 _ _ h6 (fun z => R.wb w hw (R.rb _ z))
  cases ek : keyP y with
  | none => simp only [ek] at p; exact p.elim
  | some k =>
    simp only [ek] at p
    by_cases hsz : ks.length < sizeLine
    · rw [if_pos hsz] at p
      obtain ⟨z1, z2⟩ := putK_zip (ks := ks) (vs := vs) k v hl
      have hn : (ks.zip vs).length = ks.length := by rw [List.length_zip, ← hl, Nat.min_self]
      refine ⟨w.2, upd H2 w.2 (.dK (putK (ks.zip vs) k v)), rfl, .inl ⟨_, k, h7, keyP_rep q2 ek, by rw [hn]; exact hsz, rfl⟩, ?_⟩
      have aw : ∀ b u, H2 b = some u → ¬ ((ct X ρ B).ban W).B b → upd H2 w.2 (.dK (putK (ks.zip vs) k v)) b = some u := fun b u hb n => by
        rw [upd_ne (fun e => n (.inr (List.mem_map.mpr ⟨w, hw, e.symm⟩)))]; exact hb
      have r5 := RepL.ext (c := (ct X ρ B).ban W) e2 (Ct.ban_R R.rb) (RepL.ext (c := (ct X ρ B).ban W) e1 (Ct.ban_R R.rb) h5)
      have r1 := Rep.ext (c := (ct X ρ B).ban W) e2 (Ct.ban_R R.rb) q1
      exact p W σc _ hW (upd_w hw) (.refl _ _) (R2.upd hw (p := .dct (putKs ks k) (putVs ks ps k x)) ⟨putVs ks vs k v, by rw [upd_same, z1], z2, RepL.away (c := (ct X ρ B).ban W) aw (putVs_rep r1 r5)⟩) j
    · rw [if_neg hsz] at p; exact p.elim
def oListD : List PV → Option PV
  | [.dct ks _] => some (.lst (ks.map keyV))
  | _ => none
theorem keysV_rep {c : Ct} {H : Hp} : ∀ ks : List Key, RepL c H (ks.map keyV) (ks.map kV)
  | [] => rfl
  | k :: ks => ⟨kV k, _, rfl, keyV_rep k, keysV_rep ks⟩
theorem cd_listD (hc : X.calm = true) : CallD X (.type "list") .frs oListD := ⟨_, call_listD hc, fun c ps w vs H Q ek _ hd rp ho hq => by
  unfold oListD at ho
  split at ho <;> cases ho
  rename_i ks ps
  obtain ⟨v, rfl, r⟩ := rp.one
  obtain ⟨a, xs, rfl, h1, hl, k⟩ := r.dct
  refine ⟨a, _, rfl, h1, fun p hp => ?_⟩
  have e : (ks.zip xs).map (fun kv => kV kv.1) = ks.map kV := by
    show (ks.zip xs).map (kV ∘ Prod.fst) = ks.map kV
    rw [← List.map_map, List.map_fst_zip (by omega)]
  rw [e]
  exact hq _ _ (same_new hp) (val_lst (keysV_rep ks) hp)⟩
def oListA (p : List PV) : Option PV := por (oList p) (oListD p)
theorem cd_listA (hc : X.calm = true) : CallD X (.type "list") .frs oListA := cd_list.or (cd_listD hc)
def pInD (p q : PV) : Option Bool := match q with
  | .lst l => (match toD p, toDs l with
    | some d, some ds => if SeqAt.shaped d = true ∧ SeqAt.shaped (.list ds) = true then some (ds.any fun z => PyData.eqv z d) else none
    | _, _ => none)
  | _ => none
theorem pInD_some {p q : PV} {b : Bool} (h : pInD p q = some b) : ∃ d ds, toD p = some d ∧ toD q = some (.list ds) ∧ SeqAt.shaped d = true ∧ SeqAt.shaped (.list ds) = true ∧ b = ds.any fun z => PyData.eqv z d := by
  unfold pInD at h
  split at h
  · split at h
    · rename_i d ds e1 e2
      split at h
      · rename_i hs
        cases h
        exact ⟨d, ds, e1, by simp [toD, e2], hs.1, hs.2, rfl⟩
      · cases h
    · cases h
  · cases h
theorem od_inD {k : Nat} (hr : Room k X.A) : OpD X (compareOp .In) .rep (bo pInD) := ⟨_, op_inD (by have := hr.un; omega), fun c p q w v u H Q ek _ hd rp rq ho hq => by
  cases e : pInD p q with
  | none => simp [bo, e] at ho
  | some b =>
    simp [bo, e] at ho
    subst ho
    obtain ⟨d1, d2, h1, h2, h3, h4, rfl⟩ := pInD_some e
    exact ⟨d1, d2, ek ▸ toD_dpB h1 rp, ek ▸ toD_dpB h2 rq, h3, h4, hq _ _ (Same.refl _) rfl⟩⟩
theorem od_ninD {k : Nat} (hr : Room k X.A) : OpD X (compareOp .NotIn) .rep (bo fun p q => (pInD p q).map fun b => !b) := ⟨_, op_notInD (by have := hr.un; omega), fun c p q w v u H Q ek _ hd rp rq ho hq => by
  cases e : pInD p q with
  | none => simp [bo, e] at ho
  | some b =>
    simp [bo, e] at ho
    subst ho
    obtain ⟨d1, d2, h1, h2, h3, h4, rfl⟩ := pInD_some e
    exact ⟨d1, d2, ek ▸ toD_dpB h1 rp, ek ▸ toD_dpB h2 rq, h3, h4, hq _ _ (Same.refl _) rfl⟩⟩
def pInA (p q : PV) : Option Bool := por (pInB p q) (pInD p q)
def pNinA (p q : PV) : Option Bool := por (pNin p q) ((pInD p q).map fun b => !b)
theorem od_inA {k : Nat} (hr : Room k X.A) : OpD X (compareOp .In) .rep (bo pInA) := od_in.orB (od_inD hr)
theorem od_ninA {k : Nat} (hr : Room k X.A) : OpD X (compareOp .NotIn) .rep (bo pNinA) := od_nin.orB (od_ninD hr)
structure InG (K : PySem.W.Frag) (mg : Str → Option Value) (k : Str) : Prop where
  inf : InF K mg k
  cls : ∀ C, mg k = some (.ref C) → PySem.W.isClsIn K C = true ∧ PySem.W.typeIn K (.ref C) = some (.type "type")
def isInP (k : Str) : PV → Option Bool
  | .ins k' _ _ => if k' = k then some true else none
  | .rng => none
  | _ => some false
def dIsInG (k : Str) (d : Den) : Den := fun σ g => (d σ g).bind fun p g => match isInP k p with
  | some b => .ok (.bl b) g
  | none => .stuck
theorem sub_no (t : String) (ht : t ∈ ["NoneType", "bool", "int", "str", "tuple", "list", "dict"]) (K : PySem.W.Frag) (C : Addr) : PySem.W.subIn K (.type t) (.ref C) = some false := by
  simp only [List.mem_cons, List.mem_nil_iff, or_false] at ht
  rcases ht with rfl | rfl | rfl | rfl | rfl | rfl | rfl <;> rfl
theorem se_isInG {k : Str} {e : Expr} {p p2 pos : Pos} {d : Den} (T : InG X.K X.mg k) (h : SE X Wx Wk .brw e d) (hm : X.mg "isinstance" = none) (hg : Gl X "isinstance" := by rfl) (hgx : Gl X k := by rfl) (hd : (k == ("__debug__" : Str)) = false := by decide)
    (hs1 : starEach [e, .Name k p2] X.env = (false, eval e X.env) :: starEach [.Name k p2] X.env := by rfl) (hs2 : starEach [.Name k p2] X.env = (false, eval (.Name k p2) X.env) :: starEach [] X.env := by rfl)
    (hpl : (backTo pos (starEach [.Name k p2] X.env)).any (·.1) = false := by rfl) : SE X Wx Wk .rep (.Call (.Name "isinstance" p) [e, .Name k p2] [] pos) (dIsInG k d) := by
  obtain ⟨C, hC, f1, f2, f3, f4, f5⟩ := T.inf.ex
  obtain ⟨c1, c2⟩ := T.cls C hC
  obtain ⟨t, ht, hs⟩ := h
  refine ⟨_, pe_callB call_isi hg hm PyProof.Rows.boot_isinstance (pa_cons ht (pa_cons (pe_glob (v := .ref C) hgx hC rfl hd) pa_nil hs2) hs1) (by decide) (by decide) hs1 hpl, fun ρ B W σ σc H g Q hW R p => ?_⟩
  refine hs ρ B W σ σc H g _ hW R (p.bind fun x g1 v H1 _ e1 k1 q1 pp => ?_)
  have no : ∀ ty, tyP x = some ty → Pst (ct X ρ B) W H1 .rep (.ok (.bl false) g1) Q (fun cls dd H' => Wx cls dd σc H') → ∃ (y c : V) (t u : Value) (b : Bool), [v, V.ref C] = [y, c] ∧ ClsV c u ∧ TyX X.K H1 y t ∧ PySem.W.kitOne X.K t u = some b ∧ Q (.bl b) H1 := fun ty ety pp =>
    ⟨v, .ref C, .type ty, .ref C, false, rfl, .own C, tyP_x (c := (ct X ρ B).ban W) q1 ety, by
      unfold PySem.W.kitOne
      rw [if_neg (by simp)]
      unfold PySem.W.kitCls
      have c1' : (PySem.W.clsIn X.K C).isSome = true := c1
      simp only [c1', c2, Bool.true_and]
      rw [if_pos (by simp)]
      exact sub_no ty (tyP_mem ety) X.K C, pp _ H1 (Ext.refl _ _) k1 rfl⟩
  cases x with
  | ins k' ns ps =>
    simp only [isInP] at pp
    by_cases ek : k' = k
    · simp only [if_pos ek] at pp
      obtain ⟨a, C', dx, vs, rfl, hm', h1, hl, rr⟩ := RepB.ins q1
      have : C' = C := by
        have hm' : X.mg k' = some (.ref C') := hm'
        rw [ek, hC] at hm'; cases hm'; rfl
      subst this
      exact ⟨_, .ref C', .ref C', .ref C', true, rfl, .own C', .base (.ins h1 f1 f2 f3 f4 f5), by unfold PySem.W.kitOne; rw [if_pos (beq_self_eq_true _)], pp _ H1 (Ext.refl _ _) k1 rfl⟩
    · simp only [if_neg ek] at pp
      exact pp.elim
  | rng => exact pp.elim
  | non => exact no _ rfl pp
  | bl _ => exact no _ rfl pp
  | int _ => exact no _ rfl pp
  | str _ => exact no _ rfl pp
  | tup _ => exact no _ rfl pp
  | lst _ => exact no _ rfl pp
  | dct _ _ => exact no _ rfl pp
def tCh3 (r r' r'' : R2) (ta tb tc td : TE) : TE := fun σ H Q => ta σ H fun x H1 => tb σ H1 fun y H2 => r x y H2 fun z H3 => ∃ k, z = .bl k ∧
  (if k = true then tc σ H3 fun u H4 => r' y u H4 fun z2 H5 => ∃ k2, z2 = .bl k2 ∧ (if k2 = true then td σ H5 fun w H6 => r'' u w H6 Q else Q (.bl false) H5) else Q (.bl false) H3)
theorem pt_chain3 {op op' op'' : CmpOp} {r r' r'' : R2} {a b c d : Expr} {ta tb tc td : TE} {pos : Pos} (ho : OpR X (compareOp op) r) (ho' : OpR X (compareOp op') r') (ho'' : OpR X (compareOp op'') r'') (ha : PE X a ta) (hb : PE X b tb) (hc : PE X c tc) (hd : PE X d td)
    (hm : lastMarks [op, op', op''] [b, c, d] = false) : PT X (.Compare a [op, op', op''] [b, c, d] pos) (tTest (tCh3 r r' r'' ta tb tc td)) := by
  refine ⟨fun pins s σ H Q I h => ?_⟩
  refine isTrue_chain (thn (ha.run pins s σ H _ I h) fun v s1 ⟨x, H1, I1, r1, q1⟩ => test_link (thn (hb.run pins s1 σ H1 _ I1 q1) fun u s2 ⟨y, H2, I2, r2, q2⟩ => thn (ho pins s2 σ H2 x y v u _ I2 r1 r2 q2) fun f s3 ⟨z, H3, I3, r3, k, e, q3⟩ => ?_)) hm
  subst e
  cases r3
  refine wpAny_truthy_bool ?_
  cases k with
  | false =>
    obtain ⟨k', e', q'⟩ := q3
    cases e'
    exact ite_ff ⟨H3, I3, q'⟩
  | true =>
    refine ite_tt (test_link (thn (hc.run pins s3 σ H3 _ I3 q3) fun w s4 ⟨z4, H4, I4, r4, q4⟩ => thn (ho' pins s4 σ H4 y z4 u w _ I4 r2 r4 q4) fun f5 s5 ⟨z5, H5, I5, r5, k5, e5, q5⟩ => ?_))
    subst e5
    cases r5
    refine wpAny_truthy_bool ?_
    cases k5 with
    | false =>
      obtain ⟨k', e', q'⟩ := q5
      cases e'
      exact ite_ff ⟨H5, I5, q'⟩
    | true =>
      refine ite_tt (test_last (thn (hd.run pins s5 σ H5 _ I5 q5) fun w6 s6 ⟨z6, H6, I6, r6, q6⟩ => thn (ho'' pins s6 σ H6 z4 z6 w w6 _ I6 r4 r6 q6) fun f7 s7 ⟨z7, H7, I7, r7, k7, e7, q7⟩ => ?_))
      subst e7
      cases r7
      exact wpAny_truthy_bool ⟨H7, I7, q7⟩
def dCh3 (o o' o'' : PV → PV → Option Bool) (da db dc dd : Den) : DenT := fun σ g => (da σ g).bind fun p g => (db σ g).bind fun q g => match o p q with
  | some true => (dc σ g).bind fun r g => (match o' q r with
    | some true => (dd σ g).bind fun s g => (match o'' r s with | some w => .ok w g | none => .stuck)
    | some false => .ok false g
    | none => .stuck)
  | some false => .ok false g
  | none => .stuck
theorem st_chain3 {op op' op'' : CmpOp} {a b e e2 : Expr} {pos : Pos} {o o' o'' : PV → PV → Option Bool} {da db dc dd : Den} (ho : OpD X (compareOp op) .rep (bo o)) (ho' : OpD X (compareOp op') .rep (bo o')) (ho'' : OpD X (compareOp op'') .rep (bo o'')) (ha : SE X Wx Wk .brw a da) (hb : SE X Wx Wk .brw b db) (hc : SE X Wx Wk .brw e dc) (hd : SE X Wx Wk .brw e2 dd)
    (hm : lastMarks [op, op', op''] [b, e, e2] = false := by with_unfolding_all rfl) : ST X Wx Wk (.Compare a [op, op', op''] [b, e, e2] pos) (dCh3 o o' o'' da db dc dd) := by
  obtain ⟨r, hr, k⟩ := ho
  obtain ⟨r', hr', k'⟩ := ho'
  obtain ⟨r'', hr'', k''⟩ := ho''
  obtain ⟨ta, pa, sa⟩ := ha
  obtain ⟨tb, pb, sb⟩ := hb
  obtain ⟨tc, pc, sc⟩ := hc
  obtain ⟨td, pd, sd⟩ := hd
  refine ⟨_, pt_chain3 hr hr' hr'' pa pb pc pd hm, fun ρ B W σ σc H g Q hW R p => ?_⟩
  refine sa ρ B W σ σc H g _ hW R (PstT.bind p fun x g1 v H1 _ e1 k1 q1 p => ?_)
  have R1 := R.ext e1 k1
  refine sb ρ B W σ σc H1 g1 _ hW R1 (PstT.bind p fun y g2 u H2 _ e2 k2 q2 p => ?_)
  have R2 := R1.ext e2 k2
  cases ew : o x y with
  | none => rw [ew] at p; exact p.elim
  | some w =>
    rw [ew] at p
    refine k ((ct X ρ B).ban W) x y (.bl w) v u H2 _ rfl rfl R2.wdom (RepB.ext (c := (ct X ρ B).ban W) e2 (Ct.ban_R R.rb) q1) q2 (by unfold bo; rw [ew]; rfl) fun z H' s hz => ?_
    refine ⟨w, hz, ?_⟩
    cases w with
    | false => exact ⟨false, rfl, p H' (Ext.of s) (k2.same (c := ct X ρ B) s)⟩
    | true =>
      have R3 := R2.ext (Ext.of s) (k2.same (c := ct X ρ B) s)
      refine sc ρ B W σ σc H' g2 _ hW R3 (PstT.bind (PstT.from (Ext.of s) p) fun z' g3 u' H3 _ e3 k3 q3 p => ?_)
      have R4 := R3.ext e3 k3
      cases ew' : o' y z' with
      | none => rw [ew'] at p; exact p.elim
      | some w' =>
        rw [ew'] at p
        refine k' ((ct X ρ B).ban W) y z' (.bl w') u u' H3 _ rfl rfl R4.wdom (RepB.ext (c := (ct X ρ B).ban W) e3 (Ct.ban_R R.rb) (RepB.ext (c := (ct X ρ B).ban W) (Ext.of s) (Ct.ban_R R.rb) q2)) q3 (by unfold bo; rw [ew']; rfl) fun z2 H4 s2 hz2 => ?_
        refine ⟨w', hz2, ?_⟩
        cases w' with
        | false => exact ⟨false, rfl, p H4 (Ext.of s2) (k3.same (c := ct X ρ B) s2)⟩
        | true =>
          have R5 := R4.ext (Ext.of s2) (k3.same (c := ct X ρ B) s2)
          refine sd ρ B W σ σc H4 g3 _ hW R5 (PstT.bind (PstT.from (Ext.of s2) p) fun z6 g6 u6 H6 _ e6 k6 q6 p => ?_)
          have R6 := R5.ext e6 k6
          cases ew'' : o'' z' z6 with
          | none => rw [ew''] at p; exact p.elim
          | some w6 =>
            rw [ew''] at p
            refine k'' ((ct X ρ B).ban W) z' z6 (.bl w6) u' u6 H6 _ rfl rfl R6.wdom (RepB.ext (c := (ct X ρ B).ban W) e6 (Ct.ban_R R.rb) (RepB.ext (c := (ct X ρ B).ban W) (Ext.of s2) (Ct.ban_R R.rb) q3)) q6 (by unfold bo; rw [ew'']; rfl) fun z7 H7 s7 hz7 => ?_
            exact ⟨w6, hz7, p H7 (Ext.of s7) (k6.same (c := ct X ρ B) s7)⟩
def dPut2 (i : Nat) (dk1 dk2 da db : Den) : DenS := fun σ g => onLst i σ fun l => (da σ g).bindS fun p g => (db σ g).bindS fun q g => (dk1 σ g).bindS fun k1 g => match k1 with
  | .int k1 => (match ixN l.length k1 with
    | some j1 => (dk2 σ g).bindS fun k2 g => (match k2 with
      | .int k2 => (match ixN l.length k2 with | some j2 => .next (σ.set i (some (.lst ((l.set j1 p).set j2 q)))) g | none => .stuck)
      | _ => .stuck)
    | none => .stuck)
  | _ => .stuck
/-- an index that no store changes: a written int, or a name that is not owned -/
def Still (i : Nat) (d : Den) : Prop := ∀ (σ : Sl) (g : Rg) (p : Option PV), d (σ.set i p) g = d σ g
theorem still_c (i : Nat) (q : PV) : Still i (dC q) := fun _ _ _ => rfl
theorem still_neg {i : Nat} {d : Den} (h : Still i d) : Still i (dNeg d) := fun σ g p => by unfold dNeg; rw [h]
theorem still_v {i j : Nat} (h : i ≠ j := by decide) : Still i (dV j) := fun σ g p => by unfold dV; rw [List.getElem?_set_ne h]
theorem ss_put2 (i : Nat) {x : Str} {a b ek1 ek2 : Expr} {px1 px2 sp1 sp2 pt pt2 pos : Pos} {kt k2} {da db dk1 dk2 : Den} (hc : X.calm = true) (ha : SE X (WE0 E) Wk .rep a da) (hb : SE X (WE0 E) Wk .rep b db) (hk1 : SE X (WE0 E) Wk .brw ek1 dk1) (hk2 : SE X (WE0 E) Wk .brw ek2 dk2) (st2 : Still i dk2) (hi : i ∈ Wk := by decide) (hN : X.N[i]? = some x := by rfl) (hv : Vis X.env.scope x := by first | exact Or.inl rfl | exact Or.inr (Or.inl rfl) | exact Or.inr (Or.inr rfl)) (hd : (x == ("__debug__" : Str)) = false := by decide)
    (hcd : (x == ("__classdict__" : Str)) = false := by decide)
    (ha1 : ∀ v, assign (.Subscript (.Name x px1) ek1 sp1) X.env v = (do
      let ov ← holding [v] (eval (.Name x px1) X.env)
      let iv ← holding [v, ov] (eval ek1 X.env)
      standAt sp1
      holding [v, ov, iv] (setItem ov iv v)
      release [v, ov, iv] []) := by intro _; rfl)
    (ha2 : ∀ v, assign (.Subscript (.Name x px2) ek2 sp2) X.env v = (do
      let ov ← holding [v] (eval (.Name x px2) X.env)
      let iv ← holding [v, ov] (eval ek2 X.env)
      standAt sp2
      holding [v, ov, iv] (setItem ov iv v)
      release [v, ov, iv] []) := by intro _; rfl)
    (hs : swapsWithSole [.Tuple [.Subscript (.Name x px1) ek1 sp1, .Subscript (.Name x px2) ek2 sp2] kt pt] (.Tuple [a, b] k2 pt2) pos.line X.env = pure false := by rfl) (hw' : swappedStores [.Tuple [.Subscript (.Name x px1) ek1 sp1, .Subscript (.Name x px2) ek2 sp2] kt pt] (.Tuple [a, b] k2 pt2) X.env = pure none := by rfl)
    (h1 : (assignEach [.Tuple [.Subscript (.Name x px1) ek1 sp1, .Subscript (.Name x px2) ek2 sp2] kt pt] X.env).map (·.2) = [assign (.Tuple [.Subscript (.Name x px1) ek1 sp1, .Subscript (.Name x px2) ek2 sp2] kt pt) X.env] := by rfl)
    (h2 : (assignEach [.Subscript (.Name x px1) ek1 sp1, .Subscript (.Name x px2) ek2 sp2] X.env).map (·.2) = assign (.Subscript (.Name x px1) ek1 sp1) X.env :: (assignEach [.Subscript (.Name x px2) ek2 sp2] X.env).map (·.2) := by rfl)
    (h3 : (assignEach [.Subscript (.Name x px2) ek2 sp2] X.env).map (·.2) = assign (.Subscript (.Name x px2) ek2 sp2) X.env :: (assignEach [] X.env).map (·.2) := by rfl)
    (hn : (assignEach [.Subscript (.Name x px1) ek1 sp1, .Subscript (.Name x px2) ek2 sp2] X.env).length = 2 := by rfl) (hst : (assignEach [.Subscript (.Name x px1) ek1 sp1, .Subscript (.Name x px2) ek2 sp2] X.env).findIdx? (·.1) = none := by rfl)
    (hs1 : starEach [a, b] X.env = (false, eval a X.env) :: starEach [b] X.env := by rfl) (hs2 : starEach [b] X.env = (false, eval b X.env) :: starEach [] X.env := by rfl) :
    SS X E fz Wk Wk md (.Assign [.Tuple [.Subscript (.Name x px1) ek1 sp1, .Subscript (.Name x px2) ek2 sp2] kt pt] (.Tuple [a, b] k2 pt2) pos) (dPut2 i dk1 dk2 da db) := by
  obtain ⟨ta, hta, hha⟩ := ha
  obtain ⟨tb, htb, hhb⟩ := hb
  obtain ⟨t1, ht1, hh1⟩ := hk1
  obtain ⟨t2, ht2, hh2⟩ := hk2
  refine ⟨_, ps_asg (pe_tup (pa_cons hta (pa_cons htb pa_nil hs2) hs1)) (pg_tup hc (pgs_cons (pg_sub (pe_var hN hv hd hcd) ht1 set_list ha1) (pgs_cons (pg_sub (pe_var hN hv hd hcd) ht2 set_list ha2) pgs_nil h3) h2) hn hst) hs hw' h1, fun ρ B W σ σc H g D J hW R jc j p => ?_⟩
  rw [← hW] at hi
  obtain ⟨w, hw, rfl⟩ := List.mem_map.mp hi
  obtain ⟨l, hl1, p⟩ := onLst_cases p
  obtain ⟨xs, hl2, hl4, hl5⟩ := own_lst R hw hl1
  have nr : ¬ (ct X ρ B).R w.2 := fun z => R.wb w hw (R.rb _ z)
  refine hha ρ B W σ σc H g _ hW R (PstS.bind p fun y1 g1 v1 H1 _ e1 k1 q1 p => ?_)
  have R1 := R.ext e1 k1
  refine hhb ρ B W σ σc H1 g1 _ hW R1 (PstS.bind p fun y2 g2 v2 H2 _ e2 k2 q2 p => ?_)
  have R2 := R1.ext e2 k2
  have l2 := e2 _ _ (e1 _ _ hl4 nr) nr
  refine ⟨two_line, fun T hT => ?_⟩
  have s3 := same_new (o := .tup [v1, v2]) hT
  have k3 := RgO.same (c := ct X ρ B) k2 s3
  have R3 := R2.ext (Ext.of s3) k3
  refine ⟨T, [v1, v2], rfl, .of upd_same, rfl, v1, [v2], rfl, .ref w.2, hl2, ?_⟩
  have p := PstS.from (W1 := W) (Ext.of s3).w k3 (.refl _ _) p
  refine hh1 ρ B W σ σc _ g2 _ hW R3 (PstS.bind p fun z1 g4 u1 H4 _ e4 k4 q4 p => ?_)
  have R4 := R3.ext e4 k4
  have l4 := e4 _ _ (s3 _ _ l2) nr
  have rl : RepL ((ct X ρ B).ban W) H4 l xs := RepL.ext (c := (ct X ρ B).ban W) e4 (Ct.ban_R R.rb) (replSame (c := (ct X ρ B).ban W) s3 (RepL.ext (c := (ct X ρ B).ban W) e2 (Ct.ban_R R.rb) (RepL.ext (c := (ct X ρ B).ban W) e1 (Ct.ban_R R.rb) hl5)))
  have r1 : Rep ((ct X ρ B).ban W) H4 y1 v1 := Rep.ext (c := (ct X ρ B).ban W) e4 (Ct.ban_R R.rb) (repSame (c := (ct X ρ B).ban W) s3 (Rep.ext (c := (ct X ρ B).ban W) e2 (Ct.ban_R R.rb) q1))
  have r2 : Rep ((ct X ρ B).ban W) H4 y2 v2 := Rep.ext (c := (ct X ρ B).ban W) e4 (Ct.ban_R R.rb) (repSame (c := (ct X ρ B).ban W) s3 q2)
  cases z1 with
  | int k1' =>
    simp only [] at p
    cases ej : ixN l.length k1' with
    | none => rw [ej] at p; exact p.elim
    | some j1 =>
      rw [ej] at p
      refine ⟨w.2, xs, k1', j1, rfl, q4.int, l4, by rw [← hl5.length]; exact ej, ?_⟩
      have R5 := new_lst R4 hw (RepL.set r1 j1 rl)
      refine ⟨v2, [], rfl, .ref w.2, hl2, ?_⟩
      have p : PstS (ct X ρ B) W H4 Wk md ((dk2 σ g4).bindS fun k2 g => (match k2 with | .int k2 => (match ixN l.length k2 with | some j2 => .next (σ.set w.1 (some (.lst ((l.set j1 y1).set j2 y2)))) g | none => .stuck) | _ => .stuck)) (jD D J) E := p
      rw [← st2 σ g4 (some (.lst (l.set j1 y1)))] at p
      have p := PstS.from (upd_w hw) R5.rg (.refl _ _) p
      refine hh2 ρ B W _ σc _ g4 _ hW R5 (PstS.bind p fun z2 g6 u6 H6 _ e6 k6 q6 p => ?_)
      have R6 := R5.ext e6 k6
      have l6 := e6 _ _ upd_same nr
      cases z2 with
      | int k2' =>
        simp only [] at p
        cases ej2 : ixN l.length k2' with
        | none => rw [ej2] at p; exact p.elim
        | some j2 =>
          rw [ej2] at p
          refine ⟨w.2, xs.set j1 v1, k2', j2, rfl, q6.int, l6, by rw [List.length_set, ← hl5.length]; exact ej2, rfl, ?_⟩
          have aw : ∀ b u, H4 b = some u → ¬ ((ct X ρ B).ban W).B b → upd H4 w.2 (.lst (xs.set j1 v1)) b = some u := fun b u hb n => by
            rw [upd_ne (fun e => n (.inr (List.mem_map.mpr ⟨w, hw, e.symm⟩)))]; exact hb
          have rl6 : RepL ((ct X ρ B).ban W) H6 (l.set j1 y1) (xs.set j1 v1) := RepL.ext (c := (ct X ρ B).ban W) e6 (Ct.ban_R R.rb) (RepL.away (c := (ct X ρ B).ban W) aw (RepL.set r1 j1 rl))
          have r26 : Rep ((ct X ρ B).ban W) H6 y2 v2 := Rep.ext (c := (ct X ρ B).ban W) e6 (Ct.ban_R R.rb) (Rep.away (c := (ct X ρ B).ban W) aw r2)
          have R7 := new_lst R6 hw (RepL.set r26 j2 rl6)
          rw [List.set_set] at R7
          exact p W σc _ hW (upd_w hw) (.refl _ _) R7 j
      | _ => exact p.elim
  | _ => exact p.elim
end
end Tr

namespace Tr
open PySem PySem.Spec PyProof.Rows L2
def spO (K : PySem.W.Frag) (mg : Str → Option Value) (D : DDen) : Sp := fun vs H Q _ =>
  ∃ (ρ : Rho) (B : Addr → Prop) (p0 : PV) (g : Rg) (a : Addr), vs = [.ref a] ∧ ¬ B a ∧ Start ⟨K, mg, ρ, B⟩ H g ∧ Own ⟨K, mg, ρ, fun b => B b ∨ b = a⟩ H a p0 ∧
    (match D [p0] g with
    | .ok _ g' => ∀ v H', (∀ b o, H b = some o → b ≠ a → ¬ (⟨K, mg, ρ, B⟩ : Ct).R b → H' b = some o) → RgOk ⟨K, mg, ρ, B⟩ H' g' → Q v H'
    | _ => False)
structure OOk (P : Program) (w : World) (K : PySem.W.Frag) (mg : Str → Option Value) (base : Heap) (x : Str) (k : Nat) (D : DDen) : Prop where
  ex : ∃ (f : Addr) (fd : FuncData) (y : Str), mg x = some (.ref f) ∧ PySem.W.keepIn K (.ref f) = true ∧ Binds K fd [y] [] ∧ FnOk P w K mg base (L2.CX P w) k f fd [y] (spO K mg D)
def dDefO (n : Nat) (d : DenS) : DDen := fun ps g => toRes .rep (d (startP n ps) g)
theorem rel_own {c : Ct} {N : List Str} {n : Nat} {p0 : PV} {H : Hp} {g : Rg} {a : Addr} (S : Start c H g) (nb : ¬ c.B a) (o : Own (c.ban1 a) H a p0) (hn : N.length = n) : Rel c [(0, a)] (startP n [p0]) (L2.start N [.ref a]) H g where
  len := start_len hn rfl
  rg := S.rg
  rb := S.rb
  dom := S.dom
  ndk := by simp
  nda := by simp
  wb := fun w h => by
    have : w = (0, a) := by simpa using h
    subst this; exact nb
  val := fun i p h n => by
    cases i with
    | zero => exact absurd (by simp) n
    | succ i =>
      have h := startP_some h
      simp at h
  own := fun w h => by
    have : w = (0, a) := by simpa using h
    subst this
    exact ⟨p0, rfl, rfl, o.ban (c := c.ban1 a) fun b h => by
      rcases h with h | h
      · exact .inl (.inl h)
      · exact .inl (.inr (by simpa using h))⟩
section
variable {P : Program} {w : World} {K : PySem.W.Frag} {mg : Str → Option Value} {base : Heap}
theorem ook_of {x qual y : Str} {st : Stmt} {f : Addr} {fd : FuncData} {N : List Str} {k n : Nat} {d : DenS} (F : Fun K x qual st f fd) (hm : mg x = some (.ref f)) (hb : Binds K fd [y] []) (S : FnScope N [y] (defScope st)) (hn : N.length = n)
    (hbody : ∀ (cdv : Value) (A : Around) (outer : List Env) (s : Shared) (H : Hp) (E : XK), Room k (A.deeper (envOfC qual (defScope st) s.heap.objs.size f cdv)) →
      ∃ Wk', SSs (cxOf (L2.CX P w) P w K mg base N qual (defScope st) f cdv A outer s H E) E [] [0] Wk' .rep (defBody st) d) :
    OOk P w K mg base x (k + 1) (dDefO n d) := by
  refine ⟨f, fd, y, hm, F.kp, hb, ?_⟩
  refine F.okX S (fun vs H Q E h => by obtain ⟨ρ, B, p0, g, a, rfl, _⟩ := h; rfl) fun cdv A outer s H vs Q E hr h => ?_
  obtain ⟨ρ, B, p0, g, a, rfl, nb, St, o, p⟩ := h
  obtain ⟨Wk', t, ht, hs⟩ := hbody cdv A outer s H E hr
  refine ⟨t, ht, ?_⟩
  have R := rel_own (N := N) (n := n) St nb o hn
  refine hs ρ B [(0, a)] _ _ H g _ (fun _ => True) rfl R (fun _ _ _ _ _ => trivial) trivial ?_
  have ew : ∀ {H'}, ExtW ⟨K, mg, ρ, B⟩ [(0, a)] H H' → ∀ b o, H b = some o → b ≠ a → ¬ (⟨K, mg, ρ, B⟩ : Ct).R b → H' b = some o := fun e b o h n r => e b o h r (by simpa using n)
  unfold dDefO at p
  cases hd : d (startP n [p0]) g with
  | next σ' g' =>
    rw [hd] at p
    exact fun W' σc' H' hW e nw R' _ => p .non H' (ew e) R'.rg
  | ret q g' =>
    rw [hd] at p
    exact fun v H' e k hv => p v H' (ew e) k
  | exc kk ns ps' g' => rw [hd] at p; exact p.elim
  | stuck => rw [hd] at p; exact p.elim
end
def dSpoil (i : Nat) (D : DDen) : DenS := fun σ g => match σ[i]? with
  | some (some p) => (match D [p] g with | .ok _ g' => .next (σ.set i none) g' | _ => .stuck)
  | _ => .stuck
section
variable {X : Cx} {E : XK} {fz Wk Wk' : List Nat} {md : Md}
theorem ss_spoil (i : Nat) {x y : Str} {j kk : Nat} {D : DDen} {p0 p1 pos cpos : Pos} (F : OOk X.prog X.w X.K X.mg X.base x j D) (hr : Room kk X.A) (hj : j ≤ kk) (tk : Takes X (WE0 E)) (hi : i ∈ Wk := by decide) (hw : Wk.filter (fun k => k != i) = Wk' := by rfl) (hN : X.N[i]? = some y := by rfl) (hv : Vis X.env.scope y := by first | exact Or.inl rfl | exact Or.inr (Or.inl rfl) | exact Or.inr (Or.inr rfl)) (hd : (y == ("__debug__" : Str)) = false := by decide)
    (hcd : (y == ("__classdict__" : Str)) = false := by decide) (hg : Gl X x := by rfl) (hdb : (x == ("__debug__" : Str)) = false := by decide) (he : starEach [.Name y p1] X.env = (false, eval (.Name y p1) X.env) :: starEach [] X.env := by rfl) (hpl : (backTo cpos (starEach [] X.env)).any (·.1) = false := by rfl)
    (hs : swapsWith (.Call (.Name x p0) [.Name y p1] [] cpos) none pos.line X.env = pure false := by rfl) :
    SS X E fz Wk Wk' md (.Expr (.Call (.Name x p0) [.Name y p1] [] cpos) pos) (dSpoil i D) := by
  obtain ⟨f, fd, y0, hm, hk, hb, F⟩ := F.ex
  refine ⟨_, ps_expr (pe_callS F (hr.mono hj) hg hm hk hb (fun σ => passAt tk σ) (pa_cons (pe_var (pos := p1) (i := i) hN hv hd hcd) pa_nil he) hdb he hpl) hs, fun ρ B W σ σc H g D0 J hW R jc jj p => ?_⟩
  rw [← hW] at hi
  obtain ⟨w, hw', rfl⟩ := List.mem_map.mp hi
  obtain ⟨q, h1, h2, h3⟩ := R.own w hw'
  unfold dSpoil at p
  rw [h1] at p
  simp only [] at p
  cases hD : D [q] g with
  | exc _ _ _ _ => rw [hD] at p; exact p.elim
  | stuck => rw [hD] at p; exact p.elim
  | ok q' g' =>
    rw [hD] at p
    have sub : (W.filter fun k => k.1 != w.1).Sublist W := List.filter_sublist
    have hfil : (W.filter fun k => k.1 != w.1).map (·.1) = Wk' := by
      rw [← hw, ← hW]
      exact filter_keys (fun k => k != w.1) W
    have nin : w.2 ∉ (W.filter fun k => k.1 != w.1).map (·.2) := fun z => by
      obtain ⟨w', hm', e⟩ := List.mem_map.mp z
      have hm2 := (List.mem_filter.mp hm')
      have : w' = w := nodup_inj R.nda hm2.1 hw' e
      subst this
      simpa using hm2.2
    have nB : ¬ ((ct X ρ B).ban (W.filter fun k => k.1 != w.1)).B w.2 := fun z => z.elim (R.wb w hw') nin
    have bsub : ∀ b, ((ct X ρ B).ban (W.filter fun k => k.1 != w.1)).B b → ((ct X ρ B).ban W).B b := fun b h => h.imp id fun h => (sub.map _).mem h
    refine ⟨.ref w.2, h2, ρ, ((ct X ρ B).ban (W.filter fun k => k.1 != w.1)).B, q, g, w.2, by simp, nB, ⟨R.rg, fun b h => .inl (R.rb b h), fun b h => R.wdom b (bsub b h)⟩, h3.ban (c := (ct X ρ B).ban W) (fun b h => .inl (h.elim (bsub b) fun e => e ▸ .inr (List.mem_map.mpr ⟨w, hw', rfl⟩))), ?_⟩
    show match D [q] g with | .ok _ g' => _ | _ => False
    rw [hD]
    intro v H' ext k'
    have ext' : ExtW (ct X ρ B) W H H' := fun b o h nr nw => ext b o h (fun e => nw (e ▸ List.mem_map.mpr ⟨w, hw', rfl⟩)) nr
    have aw : ∀ b o, H b = some o → ¬ ((ct X ρ B).ban W).B b → H' b = some o := fun b o h n => ext b o h (fun e => n (e ▸ .inr (List.mem_map.mpr ⟨w, hw', rfl⟩))) fun r => n (.inl (R.rb _ r))
    refine p _ σc H' hfil ext' (fun b h => .inl ((sub.map _).mem h)) ⟨by simp [R.len], k', R.rb, fun b h => ?_, R.ndk.sublist (sub.map _), R.nda.sublist (sub.map _), fun u hu => R.wb u (sub.mem hu), fun i' p' hp' n' => ?_, fun u hu => ?_⟩ jj
    · by_cases hr' : (ct X ρ B).R b
      · exact RgO.none (c := ct X ρ B) k' hr'
      · cases qb : H b with
        | none => exact absurd qb (R.dom b h)
        | some o => rw [ext b o qb (fun e => R.wb w hw' (e ▸ h)) hr']; exact fun z => nomatch z
    · have hne : w.1 ≠ i' := fun e => by
        subst e
        have : w.1 < σ.length := (List.getElem?_eq_some_iff.mp h1).1
        rw [List.getElem?_set_self this] at hp'
        cases hp'
      rw [List.getElem?_set_ne hne] at hp'
      have ni : i' ∉ W.map (·.1) := fun z => by
        obtain ⟨u, hu, e⟩ := List.mem_map.mp z
        exact n' (List.mem_map.mpr ⟨u, List.mem_filter.mpr ⟨hu, by simp [e]; exact fun z => hne z.symm⟩, e⟩)
      obtain ⟨u, e1, e2⟩ := R.val i' p' hp' ni
      exact ⟨u, e1, Rep.ban (c := (ct X ρ B).ban W) (fun b h => .inl (bsub b h)) (Rep.away (c := (ct X ρ B).ban W) aw e2)⟩
    · have hu' := List.mem_filter.mp hu
      obtain ⟨z, e1, e2, e3⟩ := R.own u hu'.1
      have hne : w.1 ≠ u.1 := fun e => by simpa [e] using hu'.2
      have hne2 : u.2 ≠ w.2 := fun e => hne (by rw [nodup_inj R.nda hu'.1 hw' e])
      refine ⟨z, by rw [List.getElem?_set_ne hne]; exact e1, e2, ?_⟩
      refine Own.ban (c := (ct X ρ B).ban W) (fun b h => .inl (bsub b h)) ?_
      refine Own.away (c := (ct X ρ B).ban W) aw ?_ e3
      cases qb : H u.2 with
      | none => exact absurd qb e3.there
      | some o => exact ext u.2 o qb hne2 fun r => R.wb u hu'.1 (R.rb _ r)
end
end Tr

namespace Tr
open PySem PySem.Spec PyProof.Rows L2
/-- a def that makes lambdas: its code object at c, the table at T -/
structure FunC (K : PySem.W.Frag) (x : Str) (st : Stmt) (f : Addr) (fd : FuncData) (c T : Addr) : Prop where
  ex : ∃ (oc : Value) (od : Option Addr) (kV doc pm : Value) (an : Option Addr) (ct : Value) (osl : Array (Option Value)),
    fd = PySem.W.fnOf x x (defArgs st) (defBody st) (defScope st) .none kV doc pm an (.ref c) ct ∧ K.lookup f = some ⟨oc, od, .func fd, osl⟩ ∧ PySem.W.codeIn K (.ref c) x = true
  kp : PySem.W.keepIn K (.ref f) = true
  tab : tabOf K c = some T
theorem FunC.code {K : PySem.W.Frag} {x : Str} {st : Stmt} {f : Addr} {fd : FuncData} {c T : Addr} (F : FunC K x st f fd c T) : codeOf K f = some c := by
  obtain ⟨oc, od, kV, doc, pm, an, ct, osl, rfl, lk, _⟩ := F.ex
  unfold codeOf
  rw [lk]
section
variable {P : Program} {w : World} {K : PySem.W.Frag} {mg : Str → Option Value} {base : Heap}
theorem cx_qual {x : Str} {st : Stmt} {f : Addr} {cd : Value} {CX : CXT} {N : List Str} {A : Around} {outer : List Env} {s : Shared} {H : Hp} {E : XK} : (cxOf CX P w K mg base N x (defScope st) f cd A outer s H E).env.qual = x ++ ".<locals>." := rfl
theorem FunC.at_ {x : Str} {st : Stmt} {f : Addr} {fd : FuncData} {c T : Addr} {CX : CXT} {N : List Str} {A : Around} {outer : List Env} {s : Shared} {H : Hp} {E : XK} (F : FunC K x st f fd c T) (hn : x ∈ lamNames) (hm : mg x = some (.ref f)) (tb : LamX.TabB base mg c T) : LamAt (cxOf CX P w K mg base N x (defScope st) f (.ref c) A outer s H E) c T := by
  refine ⟨rfl, tb, fun ρ H t => ?_⟩
  rw [cx_qual]
  exact TbO.has (K := K) (mg := mg) t x hn f c T hm F.code F.tab
theorem fok_ofC {x : Str} {st : Stmt} {f c T : Addr} {fd : FuncData} {N ps : List Str} {k n m : Nat} {md : Md} {d : DenS} (F : FunC K x st f fd c T) (hL : x ∈ lamNames) (hm : mg x = some (.ref f)) (tb : LamX.TabB base mg c T) (hb : Binds K fd ps []) (S : FnScope N ps (defScope st)) (hn : N.length = n) (hp : ps.length = m)
    (hbody : ∀ (A : Around) (outer : List Env) (s : Shared) (H : Hp) (E : XK), Room k (A.deeper (envOfC x (defScope st) s.heap.objs.size f (.ref c))) → LamAt (cxOf (L2.CX P w) P w K mg base N x (defScope st) f (.ref c) A outer s H E) c T →
      ∃ Wk', SSs (cxOf (L2.CX P w) P w K mg base N x (defScope st) f (.ref c) A outer s H E) E [] [] Wk' md (defBody st) d) :
    FOk P w K mg base x m (k + 1) md (dDef n md d) := by
  subst hp
  refine ⟨f, fd, ps, hm, F.kp, hb, rfl, ?_⟩
  obtain ⟨oc, od, kV, doc, pm, an, ct', osl, rfl, lk, hcd⟩ := id F.ex
  refine fn_of lk hcd S (fun vs H Q E h => h.1) fun A outer s H vs Q E hr h => ?_
  obtain ⟨hl, ρ, B, qs, g, St, rp, p⟩ := h
  obtain ⟨Wk', t, ht, hs⟩ := hbody A outer s H E hr (F.at_ hL hm tb)
  refine ⟨t, ht, ?_⟩
  have R := rel_start (N := N) St rp hn
  refine hs ρ B [] (startP n qs) (L2.start N vs) H g _ (fun _ => True) rfl R (fun _ _ _ _ _ => trivial) trivial ?_
  have p : PstD ⟨K, mg, ρ, B⟩ H md (toRes md (d (startP n qs) g)) Q E := p
  have ew : ∀ {H'}, ExtW ⟨K, mg, ρ, B⟩ [] H H' → Ext ⟨K, mg, ρ, B⟩ H H' := fun e b o h n => e b o h n (by simp)
  cases hd : d (startP n qs) g with
  | next σ' g' =>
    rw [hd] at p
    intro W' σc' H' hW e nw R' _
    cases md with
    | frs => exact p.elim
    | rep => exact p .non H' (ew e) R'.rg rfl
    | brw => exact p .non H' (ew e) R'.rg (.inl rfl)
  | ret q g' =>
    rw [hd] at p
    intro v H' e k hv
    cases md with
    | frs =>
      obtain ⟨a, rfl, hn', ho, nb⟩ := hv
      exact p _ H' (ew e) k ⟨a, rfl, hn'.resolve_right (by simp), ho⟩
    | rep => exact p v H' (ew e) k hv
    | brw => exact p v H' (ew e) k (.inl hv)
  | exc kk ns ps' g' =>
    rw [hd] at p
    intro cls dd H' e k q
    cases md <;> exact p cls dd H' (ew e) k q
  | stuck =>
    rw [hd] at p
    cases md <;> exact p.elim
end
/-- what is known of the tables, whatever the heap -/
structure TbS (K : PySem.W.Frag) (mg : Str → Option Value) (tb : List (Addr × Str)) : Prop where
  has : ∀ n ∈ lamNames, ∀ f cd T, mg n = some (.ref f) → codeOf K f = some cd → tabOf K cd = some T → (T, lamQ n) ∈ tb
  one : ∀ p ∈ tb, ∀ q ∈ tb, p.1 = q.1 → p.2 = q.2
/-- [list(script), 0, 0, 29] -/
def spSt (K : PySem.W.Frag) : Sp := fun vs H Q E => ∃ (a : Addr) (ns : List Int), vs = [.ref a] ∧ SqL K H a (ns.map V.int) ∧
  ∀ (q p : Addr) (H' : Hp), H q = none → H p = none → p ≠ q → Same H H' → H' p = some (.lst [.ref q, .int 0, .int 0, .int 29]) → H' q = some (.lst (ns.map V.int)) → Q (.ref p) H'
def spLaw (n : Nat) (tb : List (Addr × Str)) (K : PySem.W.Frag) : Sp := fun vs H Q E => ∃ (a : Addr) (ns : List Int), vs = [.ref a] ∧ ns.length ≤ n ∧ SqL K H a (ns.map V.int) ∧ (∀ p ∈ tb, H p.1 = some (.tbl #[])) ∧ ∀ H', Q (.bl true) H'
/-- the slots at a law's start: the script's name is not read again -/
def lawP (n : Nat) : Sl := none :: some .rng :: List.replicate (n - 2) none
section
variable {P : Program} {w : World} {K : PySem.W.Frag} {mg : Str → Option Value} {base : Heap}
theorem start_read {X : Cx} {ns : List Int} {a : Addr} {H : Hp} {σ : L2.St} {Q : VK} (h0 : σ[0]? = some (some (.ref a))) (hs : SqL X.K H a (ns.map V.int)) (p : ∀ (q p : Addr) (H' : Hp), H q = none → H p = none → p ≠ q → Same H H' → H' p = some (.lst [.ref q, .int 0, .int 0, .int 29]) → H' q = some (.lst (ns.map V.int)) → Q (.ref p) H') :
    tLst (tCons (tCB (fun xs H Q => ∃ p ys, xs = [V.ref p] ∧ (SqL X.K H p ys ∨ SqT X.K H p ys) ∧ ∀ l, H l = none → Q (.ref l) (upd H l (.lst ys))) (tCons (tVar 0) tNil)) (tCons (tC (.int 0)) (tCons (tC (.int 0)) (tCons (tC (.int 29)) tNil)))) σ H Q := by
  refine ⟨_, h0, a, _, rfl, .inl hs, fun l hl => ⟨by show 4 ≤ sizeLine; decide, fun pp hp => ?_⟩⟩
  have hne : pp ≠ l := fun e => by subst e; rw [upd_same] at hp; cases hp
  have hp0 : H pp = none := by rw [upd_ne hne] at hp; exact hp
  exact p l pp _ hl hp0 hne (fun b o h => by rw [upd_ne (ne_of_none h hp0), upd_ne (ne_of_none h hl)]; exact h) upd_same (by rw [upd_ne hne.symm]; exact upd_same)
structure StOk (P : Program) (w : World) (K : PySem.W.Frag) (mg : Str → Option Value) (base : Heap) : Prop where
  ex : ∃ (f : Addr) (fd : FuncData), mg "_law_start" = some (.ref f) ∧ PySem.W.keepIn K (.ref f) = true ∧ Binds K fd ["script"] [] ∧ FnOk P w K mg base (L2.CX P w) 1 f fd ["script"] (spSt K)
theorem law_rel {N : List Str} {n : Nat} {a p q : Addr} {ns : List Int} {tb : List (Addr × Str)} {H' : Hp} (hn : N.length = n) (h2 : 2 ≤ n) (hl : ns.length ≤ 63) (hne : p ≠ q) (hp : H' p = some (.lst [.ref q, .int 0, .int 0, .int 29])) (hq : H' q = some (.lst (ns.map V.int))) (ht : ∀ p ∈ tb, H' p.1 = some (.tbl #[])) (S : TbS K mg tb) :
    Rel ⟨K, mg, ⟨some (p, q), tb⟩, fun b => b = p ∨ b = q ∨ b ∈ tb.map (·.1)⟩ [] (lawP n) ((L2.start N [.ref a]).set 1 (some (.ref p))) H' ⟨ns, 0, 0, 29⟩ where
  len := by simp [lawP, L2.start, hn]; omega
  rg := ⟨fun pp h => by
    have h : some (p, q) = some pp := h
    cases h
    exact ⟨hne, ⟨Int.le_refl 0, Int.le_refl 0, by show (0 : Int) ≤ 29; decide, by show (29 : Int) < 2147483647; decide, hl⟩, hp, hq⟩, fun pp h => LamX.TabS.nil (ht pp h), S.has, S.one⟩
  rb := fun b hb => by
    rcases hb with ⟨pp, h, hb⟩ | hb
    · have h : some (p, q) = some pp := h
      cases h
      exact hb.imp id .inl
    · exact .inr (.inr hb)
  dom := fun b h => by
    rcases h with rfl | rfl | h
    · rw [hp]; exact fun z => nomatch z
    · rw [hq]; exact fun z => nomatch z
    · obtain ⟨pp, hpp, rfl⟩ := List.mem_map.mp h
      rw [ht pp hpp]; exact fun z => nomatch z
  ndk := .nil
  nda := .nil
  wb := fun w h => by cases h
  val := fun i pv h _ => by
    match i, h with
    | 0, h => cases h
    | 1, h =>
      cases h
      refine ⟨.ref p, ?_, (p, q), rfl, rfl⟩
      have : 1 < (L2.start N [V.ref a]).length := by simp [L2.start, hn]; omega
      rw [List.getElem?_set_self this]
    | i + 2, h =>
      have h : (List.replicate (n - 2) (none : Option PV))[i]? = some (some pv) := h
      rw [List.getElem?_replicate] at h
      split at h <;> cases h
  own := fun w h => by cases h
theorem law_go {X : Cx} {E : XK} {N : List Str} {n : Nat} {tb : List (Addr × Str)} {rest : List Stmt} {d : DenS} {Wk' : List Nat} {a : Addr} {ns : List Int} {g' : Rg} {Q : VK} {H : Hp} {D : Ends} (hD : D.rt = Q) (hd : SSs X E [] [] Wk' .rep rest d) (hn : N.length = n) (h2 : 2 ≤ n) (hl : ns.length ≤ 63) (hg : d (lawP n) ⟨ns, 0, 0, 29⟩ = .ret (.bl true) g') (ht : ∀ p ∈ tb, H p.1 = some (.tbl #[])) (S : TbS X.K X.mg tb) (hq : ∀ H', Q (.bl true) H') :
    ∃ t, PSs X rest t ∧ ∀ q p H', H q = none → H p = none → p ≠ q → Same H H' → H' p = some (.lst [.ref q, .int 0, .int 0, .int 29]) → H' q = some (.lst (ns.map V.int)) → t D ((L2.start N [.ref a]).set 1 (some (.ref p))) H' := by
  obtain ⟨t, ht', hh⟩ := hd
  refine ⟨t, ht', fun q p H' hq0 hp0 hne sm hp hqq => ?_⟩
  refine hh ⟨some (p, q), tb⟩ (fun b => b = p ∨ b = q ∨ b ∈ tb.map (·.1)) [] (lawP n) _ H' ⟨ns, 0, 0, 29⟩ D (fun _ => True) rfl (law_rel hn h2 hl hne hp hqq (fun pp h => sm _ _ (ht pp h)) S) (fun _ _ _ _ _ => trivial) trivial ?_
  rw [hg]
  intro v H2 e k hv
  have hv : v = .bl true := hv
  subst hv
  have e2 : D.rt (.bl true) H2 = Q (.bl true) H2 := by rw [hD]
  exact e2 ▸ hq H2
end
/-- what is said of the code objects and their tables at the head's heap -/
structure TbH (K : PySem.W.Frag) (mg : Str → Option Value) (h : Heap) (cs : List (Addr × Addr)) (tb : List (Addr × Str)) : Prop where
  st : TbS K mg tb
  sub : ∀ p ∈ tb, ∃ c ∈ cs, c.2 = p.1
  emp : ∀ p ∈ cs, h.get? p.2 = some { cls := .none, data := .fields #[] }
  non : ∀ p ∈ cs, K.lookup p.2 = none
  hd : ∀ p ∈ cs, PySem.W.CodeHd h p.1 p.2
theorem law_walk {l : PySem.W.OpenLaw} (k : Nat) {q : Program} {loose : List Str} {XP : (Str → Option Value) → Heap → Prop} {YP : World → Heap → Prop} {d : DefRec} {K : Params → PySem.W.Frag} (hn : l.most = some 63) (hdf : d.params.defaults = []) (hr : Room k callerA)
    (hY : ∀ (w : World) (h : Heap), YP w h → (K w.params).In h)
    (F : ∀ (w : World) (mg : Str → Option Value) (fa : Addr) (h : Heap), (K w.params).In h → h.Ns mainGlobals mg → mg d.name = some (.ref fa) → (∀ n, ((recsOf q).any fun e => e.name == n) = true → ∀ f, mg n = some (.ref f) → LamX.OwnTab (K w.params) f h) →
      ∃ (fd : FuncData) (cs : List (Addr × Addr)) (tb : List (Addr × Str)), TbH (K w.params) mg h cs tb ∧ (∀ (s : Shared) (v : Value), BindsTo s fd ⟨[v], []⟩ [("script", v)]) ∧
        ∀ base : Heap, (K w.params).In base → base.Ns mainGlobals mg → (∀ p ∈ cs, LamX.TabB base mg p.1 p.2) → FnOk l.prog w (K w.params) mg base (L2.CX l.prog w) k fa fd ["script"] (spLaw 63 tb (K w.params))) :
    PySem.W.WalkO q loose XP YP l.row.toRowW d [] (fun f vs => PySem.call f vs) := by
  refine Att.attach_callB hn hdf fun w s0 s1 mg mb fa o pm cd doc a vs ns G Y ho hd hcd hmg hobj hints hlen hbits hg => ?_
  have KX := hY w _ Y
  have own : ∀ n, ((recsOf q).any fun e => e.name == n) = true → ∀ f, mg n = some (.ref f) → LamX.OwnTab (K w.params) f s1.heap := fun n hr f hf c T o1 fd1 e dd vs1 sl k1 k2 k3 k4 k5 => by
    obtain ⟨dL, hL, hn1⟩ := List.any_eq_true.mp hr
    have hn2 : dL.name = n := beq_iff_eq.mp hn1
    obtain ⟨a1, o2, fd2, c2, T2, h1, h2, h3, h4, h5, h6⟩ := G.T.tab dL hL
    rw [hn2, hf] at h1
    cases h1
    have g1 := KX _ _ k1
    rw [g1] at h2
    cases h2
    rw [k2] at h3
    cases h3
    rw [k3] at h4
    cases h4
    obtain ⟨⟨oc, vc, e1, _, e3, e4⟩, hT⟩ := h6
    have g2 := KX _ _ k4
    rw [g2] at e1
    cases e1
    cases e3
    rw [k5] at e4
    cases e4
    exact hT
  obtain ⟨fd, cs, tb, H1, hb, hF⟩ := F w mg fa _ KX G.T.g hmg own
  refine LamX.law_callTs (sp := spLaw 63 tb (K w.params)) KX G.T.g G.T.b G.T.builtins G.T.nolimit hg H1.emp H1.non H1.hd G.T.bmain hobj hints (Nat.le_trans hlen (by decide)) hr hF hb (fun H hH hS => ⟨a, ns, rfl, hlen, hS, fun p hp => ?_, fun _ => rfl⟩) fun H e s' h => ?_
  · obtain ⟨c, hc, e⟩ := H1.sub p hp
    rw [← e]
    exact hH c hc
  · obtain ⟨_, _, _, _, _, _, _, _, _, _, _, _, z⟩ := h
    exact z
/-- no tables -/
theorem tbH_nil {K : PySem.W.Frag} {mg : Str → Option Value} {h : Heap} (hn : lamNames = []) : TbH K mg h [] [] where
  st := { has := fun n h => by rw [hn] at h; simp at h, one := fun p h => by simp at h }
  sub := fun p h => by simp at h
  emp := fun p h => by simp at h
  non := fun p h => by simp at h
  hd := fun p h => by simp at h
/-- what the written part says of a code object and its table -/
structure TabF (K : PySem.W.Frag) (c T : Addr) : Prop where
  ex : ∃ (e : Value) (dd : Option Addr) (vs : Array Value) (sl : Array (Option Value)) (file : Str) (tf : Tok) (flags : Int) (tg : Tok) (inF : Bool) (text : Int) (tt : Tok), K.lookup c = some ⟨e, dd, .fields vs, sl⟩ ∧ e = .type "code" ∧ vs[11]? = some (.ref T) ∧ vs.getD 11 .none = .ref T ∧
    vs.getD 18 .none = .str file tf ∧ vs.getD 7 .none = .int flags tg ∧ vs.getD 9 .none = .bool inF ∧ vs.getD 10 .none = .int text tt ∧ c ≠ T
  non : K.lookup T = none
theorem TabF.tab {K : PySem.W.Frag} {c T : Addr} (F : TabF K c T) : tabOf K c = some T := by
  obtain ⟨e, dd, vs, sl, _, _, _, _, _, _, _, h1, _, h3, _⟩ := F.ex
  unfold tabOf
  rw [h1]
  simp only [h3]
theorem TabF.hd {K : PySem.W.Frag} {h : Heap} {c T : Addr} (F : TabF K c T) (X : K.In h) : PySem.W.CodeHd h c T := by
  obtain ⟨e, dd, vs, sl, file, tf, flags, tg, inF, text, tt, h1, h2, h3, h4, h5, h6, h7, h8, h9⟩ := F.ex
  exact ⟨_, vs, file, tf, flags, tg, inF, text, tt, X _ _ h1, h2, rfl, h3, h4, h5, h6, h7, h8, h9⟩
/-- the law alone makes lambdas -/
theorem tbH_one {K : PySem.W.Frag} {mg : Str → Option Value} {h : Heap} {n : Str} {f c T : Addr} {o : Obj} {fd : FuncData} (hn : lamNames = [n]) (X : K.In h) (hm : mg n = some (.ref f)) (hc : codeOf K f = some c) (F : TabF K c T) (own : LamX.OwnTab K f h) (lf : K.lookup f = some o) (hd : o.data = .func fd) (hfc : fd.code = .ref c) : TbH K mg h [(c, T)] [(T, lamQ n)] := by
  have hT : h.get? T = some { cls := .none, data := .fields #[] } := by
    obtain ⟨e, dd, vs, sl, _, _, _, _, _, _, _, h1, _, h3, _⟩ := F.ex
    exact own c T o fd e dd vs sl lf hd hfc h1 h3
  refine ⟨⟨fun m hm' f' cd T' h1 h2 h3 => ?_, fun p hp q hq _ => ?_⟩, fun p hp => ⟨(c, T), by simp, ?_⟩, fun p hp => ?_, fun p hp => ?_, fun p hp => ?_⟩
  · rw [hn] at hm'
    have e : m = n := by simpa using hm'
    subst e
    rw [hm] at h1; cases h1
    rw [hc] at h2; cases h2
    rw [F.tab] at h3; cases h3
    simp
  · rw [List.mem_singleton.mp hp, List.mem_singleton.mp hq]
  · rw [List.mem_singleton.mp hp]
  · rw [List.mem_singleton.mp hp]; exact hT
  · rw [List.mem_singleton.mp hp]; exact F.non
  · rw [List.mem_singleton.mp hp]; exact F.hd X
end Tr

namespace Tr
open PySem PySem.Spec PyProof.Rows L2
theorem exm_mk {K : PySem.W.Frag} {C D : Addr} {b : Bool} (h1 : PySem.W.subIn K (.ref D) (.type "BaseException") = some true) (h2 : PySem.W.isClsIn K D = true) (h3 : PySem.W.typeIn K (.ref D) = some (.type "type")) (h4 : PySem.W.subIn K (.ref C) (.ref D) = some b) : PySem.W.exmOne K (.ref C) (.ref D) = some b := by
  have h2' : (PySem.W.clsIn K D).isSome = true := h2
  unfold PySem.W.exmOne PySem.W.kitCls
  rw [if_pos (by rw [h1]; rfl)]
  simp only [h2', h3, Bool.true_and]
  rw [if_pos (by rfl)]
  exact h4
/-- what a code object's row says of its table -/
def tabGB (e : Value) (vs : Array Value) (c T : Addr) : Bool := e == .type "code" && vs[11]? == some (.ref T) && vs.getD 11 .none == .ref T &&
  (match vs.getD 18 .none with | .str _ _ => true | _ => false) && (match vs.getD 7 .none with | .int _ _ => true | _ => false) && (match vs.getD 9 .none with | .bool _ => true | _ => false) && (match vs.getD 10 .none with | .int _ _ => true | _ => false) && decide (c ≠ T)
theorem tabF_mk {K : PySem.W.Frag} {c T : Addr} {e : Value} {dd : Option Addr} {vs : Array Value} {sl : Array (Option Value)} (l : K.lookup c = some ⟨e, dd, .fields vs, sl⟩) (g : tabGB e vs c T = true) (n : PySem.W.typeIn K (.ref T) = none) : TabF K c T := by
  unfold tabGB at g
  simp only [Bool.and_eq_true, beq_iff_eq, decide_eq_true_eq] at g
  obtain ⟨⟨⟨⟨⟨⟨⟨g1, g2⟩, g3⟩, g4⟩, g5⟩, g6⟩, g7⟩, g8⟩ := g
  refine ⟨?_, ?_⟩
  · cases h4 : vs.getD 18 .none with
    | str a b =>
      cases h5 : vs.getD 7 .none with
      | int a2 b2 =>
        cases h6 : vs.getD 9 .none with
        | bool a3 =>
          cases h7 : vs.getD 10 .none with
          | int a4 b4 => exact ⟨e, dd, vs, sl, a, b, a2, b2, a3, a4, b4, l, g1, g2, g3, h4, h5, h6, h7, g8⟩
          | _ => rw [h7] at g7; cases g7
        | _ => rw [h6] at g6; cases g6
      | _ => rw [h5] at g5; cases g5
    | _ => rw [h4] at g4; cases g4
  · unfold PySem.W.typeIn at n
    exact Option.map_eq_none_iff.mp n
theorem Told.nil {K : PySem.W.Frag} {mg : Str → Option Value} {hs : List Cl} : Told K mg hs [] := ⟨fun k w f h => by simp at h⟩
theorem Told.cons {K : PySem.W.Frag} {mg : Str → Option Value} {hs cl : List Cl} {k w f : Str} {C : Addr} (hC : mg k = some (.ref C)) (X : XfC K C) (no : PySem.W.findIn K (.ref C) f = some none) (F : Falls K mg C hs (w, f)) (T : Told K mg hs cl) : Told K mg hs ((k, w, f) :: cl) := ⟨fun k' w' f' h C' hC' => by
  rw [List.lookup_cons] at h
  by_cases e : k' = k
  · subst e
    simp at h
    obtain ⟨rfl, rfl⟩ := h
    rw [hC] at hC'; cases hC'
    exact ⟨X, no, F⟩
  · have e' : (k' == k) = false := by simpa using e
    rw [e'] at h
    exact T.at_ k' w' f' h C' hC'⟩
abbrev DenP := Sl → Rg → Res (List (PV × PV))
def RepPs (c : Ct) (H : Hp) : List (PV × PV) → List (V × V) → Prop
  | [], vs => vs = []
  | p :: ps, vs => ∃ x y r, vs = (x, y) :: r ∧ Rep c H p.1 x ∧ Rep c H p.2 y ∧ RepPs c H ps r
def PstP (c : Ct) (W : Wn) (H : Hp) (n : Nat) (r : Res (List (PV × PV))) (Q : List (V × V) → Hp → Prop) (E : XK) : Prop :=
  match r with
  | .ok p g => ∀ v H', Ext c H H' → RgOk c H' g → RepPs (c.ban W) H' p v → p.length = n → Q v H'
  | .exc k ns ps g => ∀ cls d H', Ext c H H' → RgOk c H' g → RepX (c.ban W) H' k ns ps cls d → E cls d H'
  | .stuck => False
theorem PstP.from {c : Ct} {W : Wn} {H H1 : Hp} {n : Nat} {r : Res (List (PV × PV))} {Q : List (V × V) → Hp → Prop} {E : XK} (e : Ext c H H1) (h : PstP c W H n r Q E) : PstP c W H1 n r Q E := by
  cases r with
  | ok p g' => exact fun v H' e' k' q => h v H' (e.trans e') k' q
  | exc a b cc d => exact fun cls d H' e' k' q => h cls d H' (e.trans e') k' q
  | stuck => exact h
theorem PstP.bind1 {c : Ct} {W : Wn} {H : Hp} {m1 : Md} {n : Nat} {r : Res PV} {f : PV → Rg → Res (List (PV × PV))} {Q : List (V × V) → Hp → Prop} {Q1 : VK} {E : XK} (h : PstP c W H n (r.bind f) Q E)
    (k : ∀ p g1 v H1, r = .ok p g1 → Ext c H H1 → RgOk c H1 g1 → Val (c.ban W) H H1 p v m1 → PstP c W H1 n (f p g1) Q E → Q1 v H1) : Pst c W H m1 r Q1 E := by
  cases r with
  | ok p g1 => exact fun v H1 e k1 q => k p g1 v H1 rfl e k1 q (PstP.from e h)
  | exc a b cc d => exact h
  | stuck => exact h
theorem PstP.bindP {c : Ct} {W : Wn} {H : Hp} {n n1 : Nat} {r : Res (List (PV × PV))} {f : List (PV × PV) → Rg → Res (List (PV × PV))} {Q Q1 : List (V × V) → Hp → Prop} {E : XK} (h : PstP c W H n (r.bind f) Q E)
    (k : ∀ p g1 v H1, Ext c H H1 → RgOk c H1 g1 → RepPs (c.ban W) H1 p v → p.length = n1 → PstP c W H1 n (f p g1) Q E → Q1 v H1) : PstP c W H n1 r Q1 E := by
  cases r with
  | ok p g1 => exact fun v H1 e k1 q l => k p g1 v H1 e k1 q l (PstP.from e h)
  | exc a b cc d => exact h
  | stuck => exact h
section
variable {X : Cx} {Wx : WX} {Wk : List Nat} {pos : Pos}
def SP (X : Cx) (Wx : WX) (Wk : List Nat) (pos : Pos) (ks : List (Option Expr)) (vs : List Expr) (d : DenP) : Prop :=
  ∃ trs, PPs X pos ks vs trs ∧ ∀ (ρ : Rho) (B : Addr → Prop) (W : Wn) (σ : Sl) (σc : L2.St) (H : Hp) (g : Rg) (Q : List (V × V) → Hp → Prop), W.map (·.1) = Wk →
    Rel (ct X ρ B) W σ σc H g → PstP (ct X ρ B) W H ks.length (d σ g) Q (fun cls dd H' => Wx cls dd σc H') → tPairs trs σc H Q
def dPNil : DenP := fun _ g => .ok [] g
def dPCons (dk dv : Den) (ds : DenP) : DenP := fun σ g => (dk σ g).bind fun k g => (dv σ g).bind fun v g => (ds σ g).bind fun ps g => .ok ((k, v) :: ps) g
theorem sp_nil : SP X Wx Wk pos [] [] dPNil := ⟨_, pps_nil, fun ρ B W σ σc H g Q hW R p => p [] H (Ext.refl _ _) R.rg rfl rfl⟩
theorem sp_cons {k v : Expr} {ks : List (Option Expr)} {vs : List Expr} {dk dv : Den} {ds : DenP} (hk : SE X Wx Wk .rep k dk) (hv : SE X Wx Wk .rep v dv) (hr : SP X Wx Wk pos ks vs ds) : SP X Wx Wk pos (some k :: ks) (v :: vs) (dPCons dk dv ds) := by
  obtain ⟨tk, htk, hhk⟩ := hk
  obtain ⟨tv, htv, hhv⟩ := hv
  obtain ⟨tr, htr, hhr⟩ := hr
  refine ⟨_, pps_cons htk htv htr, fun ρ B W σ σc H g Q hW R p => ?_⟩
  refine hhk ρ B W σ σc H g _ hW R (PstP.bind1 p fun x g1 v1 H1 _ e1 k1 q1 p => ?_)
  have R1 := R.ext e1 k1
  refine hhv ρ B W σ σc H1 g1 _ hW R1 (PstP.bind1 p fun y g2 v2 H2 _ e2 k2 q2 p => ?_)
  have R2 := R1.ext e2 k2
  refine hhr ρ B W σ σc H2 g2 _ hW R2 (PstP.bindP p fun ps g3 vs H3 e3 k3 q3 l p => ?_)
  exact p _ H3 (Ext.refl _ _) k3 ⟨v1, v2, vs, rfl, Rep.ext (c := (ct X ρ B).ban W) e3 (Ct.ban_R R.rb) (Rep.ext (c := (ct X ρ B).ban W) e2 (Ct.ban_R R.rb) q1), Rep.ext (c := (ct X ρ B).ban W) e3 (Ct.ban_R R.rb) q2, q3⟩ (by simp [l])
/-- the pairs put in, one behind another -/
def dispP : List (PV × PV) → List Key → List PV → Option (List Key × List PV)
  | [], ks, vs => some (ks, vs)
  | (k, v) :: r, ks, vs => (keyP k).bind fun k => dispP r (putKs ks k) (putVs ks vs k v)
theorem dispP_rep {c : Ct} {H : Hp} : ∀ {l : List (PV × PV)} {ps : List (V × V)} {ks ks' : List Key} {vs vs' : List PV} {us : List V}, RepPs c H l ps → RepL c H vs us → ks.length = us.length → dispP l ks vs = some (ks', vs') →
    ∃ kvs : List (Key × V), ps = kvs.map (fun kv => (kV kv.1, kv.2)) ∧ kvs.length = l.length ∧ ∃ us', RepL c H vs' us' ∧ ks'.length = us'.length ∧ mergeK (ks.zip us) kvs = ks'.zip us'
  | [], ps, ks, ks', vs, vs', us, h, hv, hl, e => by
    have h : ps = [] := h
    subst h
    simp only [dispP, Option.some.injEq, Prod.mk.injEq] at e
    obtain ⟨rfl, rfl⟩ := e
    exact ⟨[], rfl, rfl, us, hv, hl, rfl⟩
  | (k, v) :: r, ps, ks, ks', vs, vs', us, ⟨x, y, r', e1, h1, h2, h3⟩, hv, hl, e => by
    subst e1
    simp only [dispP] at e
    cases ek : keyP k with
    | none => rw [ek] at e; cases e
    | some kk =>
      rw [ek] at e
      simp only [Option.bind_some] at e
      have hx := keyP_rep (.inl h1) ek
      obtain ⟨z1, z2⟩ := putK_zip (ks := ks) (vs := us) kk y hl
      obtain ⟨kvs, e2, e3, us', e4, e5, e6⟩ := dispP_rep h3 (putVs_rep h2 hv) z2 e
      refine ⟨(kk, y) :: kvs, by simp [e2, hx], by simp [e3], us', e4, e5, ?_⟩
      rw [← e6, ← z1]
      rfl
def dDisp (ds : DenP) : Den := fun σ g => (ds σ g).bind fun ps g => match dispP ps [] [] with | some (ks, vs) => .ok (.dct ks vs) g | none => .stuck
theorem se_disp {ks : List (Option Expr)} {vs : List Expr} {ds : DenP} (h : SP X Wx Wk pos ks vs ds) (hall : ks.all (·.isSome) = true := by rfl) (hl : ks.length = vs.length := by rfl) (h0 : ks ≠ [] := by nofun) (h15 : ks.length ≤ 15 := by decide) : SE X Wx Wk .frs (.Dict ks vs pos) (dDisp ds) := by
  obtain ⟨trs, ht, hh⟩ := h
  refine ⟨_, pe_disp ht hall hl h0 h15, fun ρ B W σ σc H g Q hW R p => fun D hD => ?_⟩
  have R1 := R.ban1 (o := .dK []) hD
  have RD : ¬ (ct X ρ B).R D := fun z => (R.dom D (R.rb _ z)) hD
  refine hh ρ ((ct X ρ B).ban1 D).B W σ σc _ g _ hW R1 ?_
  have p : Pst (ct X ρ B) W H .frs ((ds σ g).bind fun ps g => match dispP ps [] [] with | some (ks, vs) => .ok (.dct ks vs) g | none => .stuck) Q (fun cls dd H' => Wx cls dd σc H') := p
  cases ed : ds σ g with
  | stuck => rw [ed] at p; exact p.elim
  | exc a b cc d =>
    rw [ed] at p
    intro cls dd H' e k q
    obtain ⟨C, d', us, h1, h2, h3, h4, h5, h6, h7⟩ := q
    have bsub : ∀ b, ((ct X ρ B).ban W).B b → (((ct X ρ B).ban1 D).ban W).B b ∨ H' b = none := fun b z => .inl (z.elim (fun z => .inl (.inl z)) .inr)
    exact p cls dd H' (fun b o hb hn => e b o (same_new hD _ _ hb) hn) k ⟨C, d', us, h1, h2, h3, fun z => h4 (z.elim (fun z => .inl (.inl z)) .inr), h5, h6, RepL.ban (c := ((ct X ρ B).ban1 D).ban W) bsub h7⟩
  | ok ps g1 =>
    rw [ed] at p
    simp only [Res.bind_ok] at p
    intro v H1 e1 k1 rv hlen
    have e1 : Ext (ct X ρ B) (upd H D (.dK [])) H1 := e1
    have hD1 : H1 D = some (.dK []) := e1 _ _ upd_same RD
    cases edp : dispP ps [] [] with
    | none => rw [edp] at p; exact p.elim
    | some kv =>
      obtain ⟨ks', vs'⟩ := kv
      rw [edp] at p
      obtain ⟨kvs, z1, z2, us', z3, z4, z5⟩ := dispP_rep (ks := []) (vs := []) (us := []) rv rfl rfl edp
      refine ⟨hD1, kvs, z1, by omega, ?_⟩
      have z5 : mergeK [] kvs = ks'.zip us' := z5
      rw [z5]
      have aw : ∀ b u, H1 b = some u → ¬ (((ct X ρ B).ban1 D).ban W).B b → upd H1 D (.dK (ks'.zip us')) b = some u := fun b u hb n => by
        rw [upd_ne (fun e => n (by rw [e]; exact .inl (.inr rfl)))]; exact hb
      refine p _ _ (fun b o hb hn => ?_) (RgO.upd (c := ct X ρ B) k1 RD fun u hu => by rw [hD1] at hu; cases hu; trivial) ⟨D, rfl, hD, us', upd_same, z4, ?_⟩
      · rw [upd_ne (ne_of_none hb hD)]
        exact e1 b o (same_new hD _ _ hb) hn
      · have r := RepL.away (c := ((ct X ρ B).ban1 D).ban W) aw z3
        exact RepL.ban (c := ((ct X ρ B).ban1 D).ban W) (fun b hb => .inl (by
          rcases hb with (hb | hb) | hb
          · exact .inl (.inl hb)
          · exact .inr hb
          · exact .inl (.inr hb))) r
end
end Tr

namespace Tr
open PySem PySem.Spec PyProof.Rows L2
def scal : PV → Bool
  | .non => true
  | .bl _ => true
  | .int _ => true
  | .str _ => true
  | _ => false
def scalR : Res PV → Res PV
  | .ok p g => if scal p = true then .ok p g else .stuck
  | _ => .stuck
def dCallS (D : DDen) (ds : DenL) : Den := fun σ g => (ds σ g).bind fun ps g => scalR (D ps g)
theorem RepB.free {c : Ct} {H : Hp} {p : PV} {v : V} (rb : ∀ b, c.R b → c.B b) (h : RepB c H p v) : Rep { c with B := c.R } H p v := by
  rcases h with h | ⟨a, rfl, n, o⟩
  · exact Rep.ban (c := c) (fun b k => .inl (rb b k)) h
  · exact Own.rep (c := { c with B := c.R }) (Own.ban (c := c) (fun b k => .inl (rb b k)) o) n
theorem RepLB.free {c : Ct} {H : Hp} (rb : ∀ b, c.R b → c.B b) : ∀ {ps : List PV} {vs : List V}, RepLB c H ps vs → RepL { c with B := c.R } H ps vs
  | [], _, h => h
  | p :: ps, _, ⟨v, r, h1, h2, h3⟩ => ⟨v, r, h1, h2.free rb, RepLB.free rb h3⟩
theorem Rep.scal {c : Ct} {B : Addr → Prop} {H : Hp} {p : PV} {v : V} (h : scal p = true) (k : Rep { c with B := B } H p v) : Rep c H p v := by
  cases p with
  | non => exact k
  | bl b => exact k
  | int i => exact k
  | str s => exact k
  | _ => simp [Tr.scal] at h
theorem RepLB.length {c : Ct} {H : Hp} : ∀ {ps : List PV} {vs : List V}, RepLB c H ps vs → ps.length = vs.length
  | [], _, h => by have h : _ = [] := h; subst h; rfl
  | p :: ps, _, ⟨v, r, h1, h2, h3⟩ => by subst h1; simp [RepLB.length h3]
theorem walks_zipT {c : Ct} {H : Hp} {a b : Addr} {l m : List PV} {xs ys : List V} (h : TAt c H a xs) (k : RepL c H l xs) (h' : TAt c H b ys) (k' : RepL c H m ys) : Walks c H (RZ.ItzT c.K a b) (zipP l m) where
  go := fun H' i s hi => by
    have hi : i < l.length ∧ i < m.length := by simp [zipP, List.length_zip] at hi; omega
    obtain ⟨p, v, e1, e2, r⟩ := k.at hi.1
    obtain ⟨p', v', e1', e2', r'⟩ := k'.at hi.2
    exact ⟨xs, ys, v, v', tat_stay h s, tat_stay h' s, e2, e2'⟩
  yld := fun H' i x H2 B' s hi y hd hb => by
    obtain ⟨T, z, z', rfl, hT, rfl, y, y'⟩ := y
    have hi : i < l.length ∧ i < m.length := by simp [zipP, List.length_zip] at hi; omega
    obtain ⟨p, v, e1, e2, r⟩ := k.at hi.1
    obtain ⟨p', v', e1', e2', r'⟩ := k'.at hi.2
    have := y xs (tat_stay h s)
    rw [e2] at this; cases this
    have := y' ys (tat_stay h' s)
    rw [e2'] at this; cases this
    refine ⟨same_new hT, .tup [p, p'], ?_, T, _, rfl, .inl ⟨fun z => hd _ z hT, upd_same⟩, _, _, rfl, repSame (same_new hT) (r.later s hb), _, _, rfl, repSame (same_new hT) (r'.later s hb), rfl⟩
    simp only [zipP, List.getElem?_map]
    rw [List.getElem?_zip_eq_some (z := (p, p')) |>.mpr ⟨e1, e1'⟩]
    rfl
  stop := fun H' i s hi => ⟨xs, ys, tat_stay h s, tat_stay h' s, by
    rw [← k.length, ← k'.length]
    simp [zipP, List.length_zip] at hi
    omega⟩
def dZipA (d : DenL) : DenL := fun σ g => (d σ g).bind fun ps g => match ps with
  | [.lst l, .lst m] => .ok (zipP l m) g
  | [.tup l, .tup m] => .ok (zipP l m) g
  | _ => .stuck
section
variable {X : Cx} {Wx : WX} {Wk : List Nat} {md : Md} {tg : Expr}
def gdTupA (n : Nat) (b : DenGs) : DenG := fun p σ => match p with | .tup l => if l.length = n then b l σ else none | .lst l => if l.length = n then b l σ else none | _ => none
theorem or_pg {e : Expr} {t u : TG} (h : PG X e t) (h' : PG X e u) : PG X e (fun v σ H Q => t v σ H Q ∨ u v σ H Q) := ⟨fun pins s σ H v w Q I r q => q.elim (h.run pins s σ H v w Q I r) (h'.run pins s σ H v w Q I r)⟩
theorem sg_tupA {es : List Expr} {k : Nat} {pos : Pos} {b : DenGs} {n : Nat} {gs : List Nat} (hc : X.calm = true) (h : SGs X Wk gs es b) (hn : (assignEach es X.env).length = n := by rfl) (hst : (assignEach es X.env).findIdx? (·.1) = none := by rfl) : SG X Wk gs (.Tuple es k pos) (gdTupA n b) := by
  obtain ⟨t, ht, hh⟩ := h
  refine ⟨_, or_pg (pg_tup hc ht hn hst) (pg_unl hc ht hn hst), fun ρ B W σ σ' σc H g p v Q hW R h e k => ?_⟩
  cases p with
  | tup l =>
    obtain ⟨a, xs, rfl, h1, h2⟩ := h
    have e : (if l.length = n then b l σ else none) = some σ' := e
    by_cases hl : l.length = n
    · rw [if_pos hl] at e
      exact .inl ⟨a, xs, rfl, h1.sq, by rw [← h2.length]; exact hl, hh ρ B W σ σ' σc H g l xs Q hW R h2 e k⟩
    · rw [if_neg hl] at e; cases e
  | lst l =>
    obtain ⟨a, xs, rfl, h1, h2⟩ := h
    have e : (if l.length = n then b l σ else none) = some σ' := e
    by_cases hl : l.length = n
    · rw [if_pos hl] at e
      exact .inr ⟨a, xs, rfl, h1.sq, by rw [← h2.length]; exact hl, hh ρ B W σ σ' σc H g l xs Q hW R h2 e k⟩
    · rw [if_neg hl] at e; cases e
  | _ => cases e
theorem si_zipA {e e2 : Expr} {elts : List Expr} {kk} {tpos p pos : Pos} {d : DenL} (hm : X.mg "zip" = none) (ha : SA X Wx Wk .rep [e, e2] d) (hg : Gl X "zip" := by rfl) (hs : starEach [e, e2] X.env = (false, eval e X.env) :: starEach [e2] X.env := by rfl) (hpl : (backTo pos (starEach [e2] X.env)).any (·.1) = false := by rfl) :
    SI X Wx Wk (.Tuple elts kk tpos) (.Call (.Name "zip" p) [e, e2] [] pos) (dZipA d) := by
  obtain ⟨t, ht, hh⟩ := ha
  refine ⟨_, RZ.pi_zipA hg hm ht hs hpl, fun ρ B W σ σc H g R hW Rl p => ?_⟩
  refine hh ρ B W σ σc H g _ hW Rl (PstI.bindL p fun ps g1 vs H1 _ e1 k1 q1 l p => ?_)
  split at p
  · obtain ⟨v, r, rfl, ⟨a, xs, rfl, h1, k⟩, v', r', rfl, ⟨b, ys, rfl, h1', k'⟩, h2⟩ := q1
    have h2 : r' = [] := h2
    subst h2
    exact ⟨a, b, xs, ys, rfl, .inl ⟨h1.sq, h1'.sq, p _ H1 (Ext.refl _ _) k1 (walks_zip (c := (ct X ρ B).ban W) h1 k h1' k')⟩⟩
  · obtain ⟨v, r, rfl, ⟨a, xs, rfl, h1, k⟩, v', r', rfl, ⟨b, ys, rfl, h1', k'⟩, h2⟩ := q1
    have h2 : r' = [] := h2
    subst h2
    exact ⟨a, b, xs, ys, rfl, .inr ⟨h1.sq, h1'.sq, p _ H1 (Ext.refl _ _) k1 (walks_zipT (c := (ct X ρ B).ban W) h1 k h1' k')⟩⟩
  · exact p.elim
theorem se_callB1 {x : Str} {n j k : Nat} {D : DDen} {e : Expr} {es : List Expr} {p pos : Pos} {ds : DenL} (F : FOk X.prog X.w X.K X.mg X.base x n j .rep D) (hr : Room k X.A) (hj : j ≤ k) (tk : Takes X Wx) (ha : SA X Wx Wk .brw (e :: es) ds) (hn : (e :: es).length = n := by rfl)
    (hg : Gl X x := by rfl) (hdb : (x == ("__debug__" : Str)) = false := by decide) (he : starEach (e :: es) X.env = (false, eval e X.env) :: starEach es X.env := by rfl) (hpl : (backTo pos (starEach es X.env)).any (·.1) = false := by rfl) :
    SE X Wx Wk .rep (.Call (.Name x p) (e :: es) [] pos) (dCallS D ds) := by
  obtain ⟨f, fd, ps, hm, hk, hb, hl, F⟩ := F.ex
  obtain ⟨t, ht, hs⟩ := ha
  refine ⟨_, pe_callS F (hr.mono hj) hg hm hk hb (fun σ => passAt tk σ) ht hdb he hpl, fun ρ B W σ σc H g Q hW R p => ?_⟩
  refine hs ρ B W σ σc H g _ hW R (p.bindL fun ps g1 vs H1 _ e1 k1 q1 l p => ?_)
  have R1 := R.ext e1 k1
  have q2 := RepLB.free (c := (ct X ρ B).ban W) (Ct.ban_R R.rb) q1
  refine ⟨by rw [← RepLB.length q1, l, hn], ρ, (ct X ρ B).R, ps, g1, ⟨k1, fun b h => h, fun b h => R1.wdom b (.inl (R.rb b h))⟩, q2, ?_⟩
  cases hD : D ps g1 with
  | ok q g2 =>
    rw [hD] at p
    unfold scalR at p
    simp only [] at p
    by_cases hs : Tr.scal q = true
    · rw [if_pos hs] at p
      exact fun v H' e k z => p v H' e k (Rep.scal (c := (ct X ρ B).ban W) hs z)
    · rw [if_neg hs] at p; exact p.elim
  | exc _ _ _ _ => rw [hD] at p; exact p.elim
  | stuck => rw [hD] at p; exact p.elim
end
end Tr

namespace Tr
open PySem PySem.Spec PyProof.Rows L2
set_option maxHeartbeats 4000000 in
theorem enT_new {src : Value} {io : Obj} {Hh : Heap → Prop} (Bg : Begins src io Hh) :
    Meets (Builtin.«enumerate.__new__» ⟨[.type "enumerate", src], []⟩) (fun _ R sh => Hh sh.heap ∧
      R (.ok (.ret (.ref (sh.heap.push io).objs.size))) { sh with heap := (sh.heap.push io).push { cls := .type "enumerate", data := .fields #[.none, .bool false, .ref sh.heap.objs.size, rawInt 0, .none, .none] } }) :=
  .of_wp fun P0 W0 A0 R0 sh hyp => by
    have z0 := sub_enumerate
    obtain ⟨m0, m1, m2, m3, m4⟩ := sh
    obtain ⟨y1, y2⟩ := hyp
    have go : ∀ {Az : Around} {Ez Qz : Value → Shared → Prop}, Qz (.ref m0.objs.size) ⟨m0.push io, m1, m2, m3, m4⟩ → wpAny (model P0 W0) Az (pyIter src) Qz Ez ⟨m0, m1, m2, m3, m4⟩ :=
      fun r => Bg.iter P0 W0 _ _ ⟨m0, m1, m2, m3, m4⟩ _ y1 r
    wp_walk using go
    refine wpAny_stack_any fun _ => wpAny_pure ?_
    split
    · rename_i cz _ _ _ _ _
      cases (cz == Value.type "enumerate") <;> (wp_walk using go; exact ⟨_, rfl, y2⟩)
    · wp_walk using go
      exact ⟨_, rfl, y2⟩
theorem enT_call {P0 : Program} {W0 : World} {A0 : Around} {E0 Q0 : Value → Shared → Prop} {sh : Shared} {t : Addr} {its : Array Value} (ht : sh.heap.IsTuple t its)
    (nx : ∀ m, IsEnum m (sh.heap.objs.size + 1) sh.heap.objs.size 0 .none → m.IsTupleIter sh.heap.objs.size t 0 → m.objs.size = sh.heap.objs.size + 2 → (∀ b o, sh.heap.get? b = some o → m.get? b = some o) → Q0 (.ref (sh.heap.objs.size + 1)) { sh with heap := m }) :
    wpAny (model P0 W0) A0 (call (.type "enumerate") [.ref t]) Q0 E0 sh := by
  refine callType_new F.called_enumerate (by decide) (F.typeCall_enumerate_1 _) (F.newCall_enumerate_1 _) (fun obj => F.args_object_init_2 obj _) F.entry_enumerate_new
    (enT_new (begins_tuple t its)) ⟨ht, ?_⟩
  have hz : (sh.heap.push { cls := .type "tuple_iterator", data := .fields #[.ref t, .int 0 0] }).objs.size = sh.heap.objs.size + 1 := Heap.size_push ..
  show _ ∧ _
  rw [hz]
  have he : IsEnum ((sh.heap.push { cls := .type "tuple_iterator", data := .fields #[.ref t, .int 0 0] }).push { cls := .type "enumerate", data := .fields #[.none, .bool false, .ref sh.heap.objs.size, rawInt 0, .none, .none] }) (sh.heap.objs.size + 1) sh.heap.objs.size 0 .none := by
    have := Heap.get?_push_size (sh.heap.push { cls := .type "tuple_iterator", data := .fields #[.ref t, .int 0 0] }) (o := { cls := .type "enumerate", data := .fields #[.none, .bool false, .ref sh.heap.objs.size, rawInt 0, .none, .none] }) rfl
    rw [hz] at this; exact this
  exact ⟨⟨_, he, rfl⟩, nx _ he ⟨_, Heap.get?_push_of_some _ (Heap.get?_push_size _ rfl), rfl, rfl⟩ (by rw [Heap.size_push, hz]) fun b o x => Heap.get?_push_of_some _ (Heap.get?_push_of_some _ x)⟩
/-- the tuple at a, each item in a new pair -/
def IteT (K : PySem.W.Frag) (a : Addr) : It :=
  ⟨fun i H => ∃ (xs : List V) (x : V), SqT K H a xs ∧ xs[i]? = some x, fun i H v H' => ∃ T x, v = .ref T ∧ H T = none ∧ H' = upd H T (.tup [.int (i : Nat), x]) ∧ ∀ xs, SqT K H a xs → xs[i]? = some x, fun i H => ∃ xs : List V, SqT K H a xs ∧ xs.length ≤ i⟩
theorem turn_enT {P0 : Program} {W0 : World} {K : PySem.W.Frag} {el : List Expr} {kk : Nat} {tp : Pos} (a e it : Addr) (hia : a ≠ it) :
    Turn P0 W0 K (.Tuple el kk tp) (IteT K a) [e, it] e (fun i m => (∃ old, IsEnum m e it ((i : Nat) : Int) old) ∧ m.IsTupleIter it a i ∧ e ≠ it ∧ e ≠ a) where
  mem := by simp
  obj := fun i m st b hb => by
    obtain ⟨⟨_, h1⟩, ⟨o, h2, _, h3⟩, _⟩ := st
    rcases List.mem_cons.mp hb with z | z
    · rw [z]; exact ⟨_, h1, fun v q => nomatch q⟩
    · rw [List.mem_singleton.mp z]; exact ⟨o, h2, fun v q => by rw [h3] at q; cases q⟩
  keep := fun i m m' st k => let ⟨⟨old, h1⟩, h2, h3⟩ := st; ⟨⟨old, k e (by simp) _ h1⟩, h2.at fun o q => k it (by simp) o q, h3⟩
  item := by
    intro X h1 h2 h3 hc i pins s σ H E I hf st hg
    subst h1 h2 h3
    obtain ⟨⟨old, he⟩, hit, hne, hea⟩ := st
    obtain ⟨xs, x, hq, hx⟩ := hg
    obtain ⟨its, rv, pt, _⟩ := I.tuple hq
    obtain ⟨u, hu, ru⟩ := rv.get hx
    have le : e < s.heap.objs.size := Heap.lt_size he
    have li : it < s.heap.objs.size := by obtain ⟨_, q, _⟩ := hit; exact Heap.lt_size q
    have hi : i < its.toArray.size := by
      have := (List.getElem?_eq_some_iff.mp hu).1
      simpa using this
    refine wpAny_pyNext_enum_itemD (Draws.tuple (prog := X.prog) (w := X.w) (A := X.A.in1) (show X.A.in1.handled = none from I.ok.hd hc) it a hia its.toArray) he ⟨hit, pt⟩ hi hne (by simp [hne, hea]) fun y m tk py ho st' hT hsz hk => ?_
    have ey : y = u := by
      have hu' : its.toArray[i]? = some u := by simpa using hu
      exact Option.some.inj (py.symm.trans hu')
    subst ey
    refine ⟨_, rfl, wpAny_letOwnedTupleGo_enum (s := { s with heap := m, toks := tk + 1 }) ho fun m2 he2 sb => ?_⟩
    have hT2 : m2.get? s.heap.objs.size = some { cls := .type "tuple", data := .seq #[.int i tk, y] } := (sb.2 _ (Nat.ne_of_gt le)).trans hT
    have nw : ObjOk X.prog X.w (upd H s.heap.objs.size (.tup [.int (i : Nat), x])) m2 s.heap.objs.size (.tup [.int (i : Nat), x]) :=
      ⟨by show 2 ≤ sizeLine; decide, [.int i tk, y], .cons ⟨_, rfl⟩ (.cons ru .nil), ⟨_, hT2, rfl, _, rfl⟩⟩
    have I1 : Inv X pins σ (upd H s.heap.objs.size (.tup [.int (i : Nat), x])) { s with heap := m2, toks := tk + 1 } :=
      I.turnedNew (ch := [e, it]) (fun b ob hb q => (sb.2 b (fun z => hb (by simp [z]))).trans (hk b ob (fun z => hb (by simp [z])) (fun z => hb (by simp [z])) q)) hf (Nat.le_refl _) nw
    refine ⟨.ref s.heap.objs.size, _, I1, rfl, ⟨_, x, rfl, I.hok.fresh (Nat.le_refl _), rfl, fun ys hy => by rw [I.tuple_inj hy hq]; exact hx⟩, ⟨⟨y, ?_⟩, st'.1.at fun o q => (sb.2 it (Ne.symm hne)).trans q, hne, hea⟩, fun b hb => ?_⟩
    · rw [show ((i + 1 : Nat) : Int) = (i : Int) + 1 by omega]; exact he2
    · have lb : b < s.heap.objs.size := by
        rcases List.mem_cons.mp hb with z | z
        · rw [z]; exact le
        · rw [List.mem_singleton.mp z]; exact li
      rw [upd_ne (Nat.ne_of_lt lb)]
      exact (hf b hb).1
  done := by
    intro X h1 h2 h3 hc i pins s σ H E I hf st hg
    subst h1 h2 h3
    obtain ⟨⟨old, he⟩, hit, hne, hea⟩ := st
    obtain ⟨xs, hq, hx⟩ := hg
    obtain ⟨its, rv, pt, _⟩ := I.tuple hq
    obtain ⟨f0, f1, f2, f3, f4, f5⟩ := hf it (by simp)
    have hl := rv.length
    have De : Draws X.prog X.w X.A.in1 it [it, a] 0 (fun _ _ => True) (fun k m => k = 0 ∧ m.IsTupleIter it a i ∧ m.IsTuple a its.toArray) :=
      { live := fun _ _ z => let ⟨o, ho, _⟩ := z.2.1; ⟨o, ho⟩
        frame := fun _ _ _ z hk => ⟨z.1, z.2.1.at fun o q => hk it (by simp) o q, z.2.2.at fun o q => hk a (by simp) o q⟩
        item := fun j _ _ _ hj => absurd hj (Nat.not_lt_zero j)
        done := fun s Q E z hE => wpAny_nextOf_tuple_end (show X.A.in1.handled = none from I.ok.hd hc) z.2.1 z.2.2 (by simp; omega) hE }
    exact wpAny_pyNext_enum_endD De he ⟨rfl, hit, pt⟩ fun m eb => ⟨rfl, I.turned (t' := s.toks) (fun b o hb q => eb b o hb q) f0 f1 f3 f4 f5⟩
  self := fun A0 i s Q E st h => let ⟨⟨_, he⟩, _⟩ := st; wpAny_pyIter_enum he h
def iEnT (K : PySem.W.Frag) (ta : TA) : TI := fun σ H R => ta σ H fun vs H1 => ∃ a xs, vs = [.ref a] ∧ SqT K H1 a xs ∧ R (IteT K a) H1
theorem pi_enT {X : Cx} {e : Expr} {ta : TA} {p pos tp : Pos} {el : List Expr} {kk : Nat} (hg : Gl X "enumerate") (hm : X.mg "enumerate" = none) (ha : PA X [e] ta) (hs : starEach [e] X.env = [(false, eval e X.env)] := by rfl) :
    PI X (.Tuple el kk tp) (.Call (.Name "enumerate" p) [e] [] pos) (iEnT X.K ta) := by
  refine ⟨fun pins s σ H R I h => ?_⟩
  refine Call_ (ld_blt I hg hm boot_enumerate (PyProof.Rows.callWith_type1 (thn (ha.run pos pins s σ H _ I h) fun us s1 ⟨vs, H1, I1, r1, q1⟩ => ?_) hs rfl))
  obtain ⟨a, xs, rfl, hq, q⟩ := q1
  cases r1 with
  | cons r rr =>
    cases rr
    cases r
    obtain ⟨its, rv, pt, _⟩ := I1.tuple hq
    have la : a < s1.heap.objs.size := by obtain ⟨_, z, _⟩ := pt; exact Heap.lt_size z
    refine enT_call pt fun m he hit hsz hk => wpAny_pyIter_enum he ?_
    have I2 : Inv X pins σ H1 { s1 with heap := m } := I1.kept (t' := s1.toks) hk
    refine ⟨s1.heap.objs.size + 1, [s1.heap.objs.size + 1, s1.heap.objs.size], _, _, H1, rfl, I2, turn_enT a (s1.heap.objs.size + 1) s1.heap.objs.size (Nat.ne_of_lt la), ⟨⟨.none, he⟩, hit, Nat.succ_ne_self _, Nat.ne_of_gt (Nat.lt_succ_of_lt la)⟩, fun b hb => ?_, q⟩
    have hle : s1.heap.objs.size ≤ b := by
      rcases List.mem_cons.mp hb with z | z
      · rw [z]; exact Nat.le_add_right _ _
      · rw [List.mem_singleton.mp z]; exact Nat.le_refl _
    exact I1.fpOk hle (I1.hok.fresh hle)
theorem walks_enT {c : Ct} {H : Hp} {a : Addr} {l : List PV} {xs : List V} (h : TAt c H a xs) (k : RepL c H l xs) : Walks c H (IteT c.K a) (enumP l) where
  go := fun H' i s hi => by
    obtain ⟨p, v, e1, e2, r⟩ := k.at (by simpa [enumP] using hi)
    exact ⟨xs, v, tat_stay h s, e2⟩
  yld := fun H' i x H2 B' s hi y hd hb => by
    obtain ⟨T, z, rfl, hT, rfl, y⟩ := y
    obtain ⟨p, v, e1, e2, r⟩ := k.at (show i < l.length by simpa [enumP] using hi)
    have := y xs (tat_stay h s)
    rw [e2] at this; cases this
    refine ⟨same_new hT, .tup [.int (i : Nat), p], by simp [enumP, e1], T, _, rfl, .inl ⟨fun z => hd _ z hT, upd_same⟩, _, _, rfl, rfl, _, _, rfl, ?_, rfl⟩
    exact repSame (same_new hT) (r.later s hb)
  stop := fun H' i s hi => ⟨xs, tat_stay h s, by rw [← k.length]; simpa [enumP] using hi⟩
def dEnumA (d : DenL) : DenL := fun σ g => (d σ g).bind fun ps g => match ps with
  | [.lst l] => .ok (enumP l) g
  | [.tup l] => .ok (enumP l) g
  | _ => .stuck
section
variable {X : Cx} {Wx : WX} {Wk : List Nat} {md : Md} {tg : Expr}
theorem si_enumA {e : Expr} {el : List Expr} {kk} {tp p pos : Pos} {d : DenL} (hm : X.mg "enumerate" = none) (ha : SA X Wx Wk .rep [e] d) (hg : Gl X "enumerate" := by rfl) (hs : starEach [e] X.env = [(false, eval e X.env)] := by rfl) :
    SI X Wx Wk (.Tuple el kk tp) (.Call (.Name "enumerate" p) [e] [] pos) (dEnumA d) := by
  obtain ⟨t, ht, hh⟩ := ha
  refine ⟨_, or_pi (pi_enum hg hm ht hs) (pi_enT hg hm ht hs), fun ρ B W σ σc H g R hW Rl p => ?_⟩
  cases hd : d σ g with
  | stuck => simp [dEnumA, hd] at p; exact p.elim
  | exc a b cc dd =>
    refine .inl (hh ρ B W σ σc H g _ hW Rl ?_)
    simp only [dEnumA, hd, Res.bind_exc] at p
    rw [hd]
    exact p
  | ok ps g1 =>
    simp only [dEnumA, hd, Res.bind_ok] at p
    split at p
    · refine .inl (hh ρ B W σ σc H g _ hW Rl ?_)
      rw [hd]
      intro vs H1 e1 k1 q1 l
      obtain ⟨v, r, rfl, ⟨a, xs, rfl, h1, k⟩, h2⟩ := q1
      have h2 : r = [] := h2
      subst h2
      exact ⟨a, xs, rfl, h1.sq, p _ H1 e1 k1 (walks_enum (c := (ct X ρ B).ban W) h1 k)⟩
    · refine .inr (hh ρ B W σ σc H g _ hW Rl ?_)
      rw [hd]
      intro vs H1 e1 k1 q1 l
      obtain ⟨v, r, rfl, ⟨a, xs, rfl, h1, k⟩, h2⟩ := q1
      have h2 : r = [] := h2
      subst h2
      exact ⟨a, xs, rfl, h1.sq, p _ H1 e1 k1 (walks_enT (c := (ct X ρ B).ban W) h1 k)⟩
    · exact p.elim
end
end Tr

namespace Tr
open PySem PySem.Spec PyProof.Rows L2
section
variable {X : Cx} {E : XK} {fz Wk Wk' : List Nat} {md : Md}
def dPar3 (i j l : Nat) (da db dc : Den) : DenS := fun σ g => (da σ g).bindS fun p g => (db σ g).bindS fun q g => (dc σ g).bindS fun r g => .next (((σ.set i (some p)).set j (some q)).set l (some r)) g
def dPar3W (i j l : Nat) (da db dc : Den) : DenS := fun σ g => (da σ g).bindS fun p g => (db σ g).bindS fun q g => (dc σ g).bindS fun r g => if l < σ.length then .next (((σ.set i (some p)).set j (some q)).set l (some r)) g else .stuck
theorem ss_par3 (i j l : Nat) {x y z : Str} {a b c : Expr} {da db dc : Den} {px py pz pt pos : Pos} {kt k2 pt2} (hc : X.calm = true) (hN : X.N.Nodup) (ha : SE X (WE0 E) Wk .rep a da) (hb : SE X (WE0 E) Wk .rep b db) (hcc : SE X (WE0 E) Wk .rep c dc) (hwi : i ∉ Wk := by decide) (hwj : j ∉ Wk := by decide) (hwl : l ∉ Wk := by decide) (hzi : i ∉ fz := by decide) (hzj : j ∉ fz := by decide) (hzl : l ∉ fz := by decide)
    (hi : X.N[i]? = some x := by rfl) (hj : X.N[j]? = some y := by rfl) (hl : X.N[l]? = some z := by rfl) (hij : i ≠ j := by decide) (hil : i ≠ l := by decide) (hjl : j ≠ l := by decide) (hx : X.env.scope.names.lookup x = some .local := by rfl) (hy : X.env.scope.names.lookup y = some .local := by rfl) (hz : X.env.scope.names.lookup z = some .local := by rfl)
    (hw : swappedStores [.Tuple [.Name x px, .Name y py, .Name z pz] kt pt] (.Tuple [a, b, c] k2 pt2) X.env = pure (some [x, y, z]) := by rfl)
    (hs : swapsWithSole [.Tuple [.Name x px, .Name y py, .Name z pz] kt pt] (.Tuple [a, b, c] k2 pt2) pos.line X.env = pure false := by rfl)
    (hs1 : starEach [a, b, c] X.env = (false, eval a X.env) :: starEach [b, c] X.env := by rfl) (hs2 : starEach [b, c] X.env = (false, eval b X.env) :: starEach [c] X.env := by rfl) (hs3 : starEach [c] X.env = (false, eval c X.env) :: starEach [] X.env := by rfl) :
    SS X E fz Wk Wk md (.Assign [.Tuple [.Name x px, .Name y py, .Name z pz] kt pt] (.Tuple [a, b, c] k2 pt2) pos) (dPar3 i j l da db dc) := by
  obtain ⟨ta, hta, hha⟩ := ha
  obtain ⟨tb, htb, hhb⟩ := hb
  obtain ⟨tc, htc, hhc⟩ := hcc
  refine ⟨_, ps_par3 hc hN hi hj hl hij hil hjl hx hy hz (pa_cons hta (pa_cons htb (pa_cons htc pa_nil hs3) hs2) hs1) hw hs, fun ρ B W σ σc H g D J hW R jc jj p => ?_⟩
  refine hha ρ B W σ σc H g _ hW R (PstS.bind p fun x g1 v H1 _ e1 k1 q1 p => ?_)
  have R1 := R.ext e1 k1
  refine hhb ρ B W σ σc H1 g1 _ hW R1 (PstS.bind p fun y g2 u H2 _ e2 k2 q2 p => ?_)
  have R2 := R1.ext e2 k2
  refine hhc ρ B W σ σc H2 g2 _ hW R2 (PstS.bind p fun z g3 t H3 _ e3 k3 q3 p => ?_)
  have R3 := R2.ext e3 k3
  have r1 := Rep.ext (c := (ct X ρ B).ban W) e3 (Ct.ban_R R.rb) (Rep.ext (c := (ct X ρ B).ban W) e2 (Ct.ban_R R.rb) q1)
  have r2 := Rep.ext (c := (ct X ρ B).ban W) e3 (Ct.ban_R R.rb) q2
  refine ⟨v, u, t, rfl, ?_⟩
  exact p W _ H3 hW (Ext.refl _ _).w (.refl _ _) (((R3.set (by rw [hW]; exact hwi) r1).set (by rw [hW]; exact hwj) r2).set (by rw [hW]; exact hwl) q3) (jc.set hzl (jc.set hzj (jc.set hzi jj)))
theorem ss_par3W (i j l : Nat) {x y z : Str} {a b c : Expr} {da db dc : Den} {px py pz pt pos : Pos} {kt k2 pt2} (hc : X.calm = true) (hN : X.N.Nodup) (ha : SE X (WE0 E) Wk .rep a da) (hb : SE X (WE0 E) Wk .rep b db) (hcc : SE X (WE0 E) Wk .frs c dc) (hwi : i ∉ Wk := by decide) (hwj : j ∉ Wk := by decide) (hwl : l ∉ Wk := by decide) (hzi : i ∉ fz := by decide) (hzj : j ∉ fz := by decide) (hzl : l ∉ fz := by decide)
    (hi : X.N[i]? = some x := by rfl) (hj : X.N[j]? = some y := by rfl) (hl : X.N[l]? = some z := by rfl) (hij : i ≠ j := by decide) (hil : i ≠ l := by decide) (hjl : j ≠ l := by decide) (hx : X.env.scope.names.lookup x = some .local := by rfl) (hy : X.env.scope.names.lookup y = some .local := by rfl) (hz : X.env.scope.names.lookup z = some .local := by rfl)
    (hw : swappedStores [.Tuple [.Name x px, .Name y py, .Name z pz] kt pt] (.Tuple [a, b, c] k2 pt2) X.env = pure (some [x, y, z]) := by rfl)
    (hs : swapsWithSole [.Tuple [.Name x px, .Name y py, .Name z pz] kt pt] (.Tuple [a, b, c] k2 pt2) pos.line X.env = pure false := by rfl)
    (hs1 : starEach [a, b, c] X.env = (false, eval a X.env) :: starEach [b, c] X.env := by rfl) (hs2 : starEach [b, c] X.env = (false, eval b X.env) :: starEach [c] X.env := by rfl) (hs3 : starEach [c] X.env = (false, eval c X.env) :: starEach [] X.env := by rfl) :
    SS X E fz Wk (l :: Wk) md (.Assign [.Tuple [.Name x px, .Name y py, .Name z pz] kt pt] (.Tuple [a, b, c] k2 pt2) pos) (dPar3W i j l da db dc) := by
  obtain ⟨ta, hta, hha⟩ := ha
  obtain ⟨tb, htb, hhb⟩ := hb
  obtain ⟨tc, htc, hhc⟩ := hcc
  refine ⟨_, ps_par3 hc hN hi hj hl hij hil hjl hx hy hz (pa_cons hta (pa_cons htb (pa_cons htc pa_nil hs3) hs2) hs1) hw hs, fun ρ B W σ σc H g D J hW R jc jj p => ?_⟩
  refine hha ρ B W σ σc H g _ hW R (PstS.bind p fun x g1 v H1 _ e1 k1 q1 p => ?_)
  have R1 := R.ext e1 k1
  refine hhb ρ B W σ σc H1 g1 _ hW R1 (PstS.bind p fun y g2 u H2 _ e2 k2 q2 p => ?_)
  have R2 := R1.ext e2 k2
  refine hhc ρ B W σ σc H2 g2 _ hW R2 ?_
  cases hd : dc σ g2 with
  | stuck => rw [hd] at p; exact p.elim
  | exc _ _ _ _ => rw [hd] at p; exact fun cls dd H' e k1 q => p cls dd H' e.w k1 q.unban
  | ok r g3 =>
    rw [hd] at p
    have p : PstS (ct X ρ B) W H2 (l :: Wk) md (if l < σ.length then .next (((σ.set i (some x)).set j (some y)).set l (some r)) g3 else .stuck) (jD D J) E := p
    by_cases hll : l < σ.length
    · rw [if_pos hll] at p
      rintro t H3 e3 k3 ⟨a3, rfl, n3, o3⟩
      have r1 := Rep.ext (c := (ct X ρ B).ban W) e2 (Ct.ban_R R.rb) q1
      have Rs := (R2.set (by rw [hW]; exact hwi) r1).set (by rw [hW]; exact hwj) q2
      have R3 := Rs.setW e3 k3 (by rw [hW]; exact hwl) (by simpa using hll) n3 o3
      refine ⟨v, u, .ref a3, rfl, ?_⟩
      exact p ((l, a3) :: W) _ H3 (by simp [hW]) e3.w (fun b hb => (List.mem_cons.mp hb).elim (fun e => .inr (by rw [e]; exact n3)) .inl) R3 (jc.set hzl (jc.set hzj (jc.set hzi jj)))
    · rw [if_neg hll] at p; exact p.elim
end
end Tr

namespace Tr
open PySem PySem.Spec PyProof.Rows L2
def oSortS2 : List PV → Option PV
  | [.lst [.str a, .str b]] => if a = b then some (.lst [.str a, .str b]) else if sortedS [a, b] = true ∧ sortedS [b, a] = false then some (.lst [.str a, .str b]) else if sortedS [b, a] = true ∧ sortedS [a, b] = false then some (.lst [.str b, .str a]) else none
  | _ => none
theorem two_perm {a b : Str} {ys : List Str} (h : ys.Perm [a, b]) : ys = [a, b] ∨ ys = [b, a] := by
  match ys, h.length_eq with
  | [c, d], _ =>
    have hc : c ∈ [a, b] := h.mem_iff.mp (by simp)
    simp only [List.mem_cons, List.not_mem_nil, or_false] at hc
    rcases hc with rfl | rfl
    · have := List.Perm.cons_inv h
      exact .inl (by rw [List.perm_singleton.mp this])
    · have := List.Perm.cons_inv (h.trans (.swap _ _ _))
      exact .inr (by rw [List.perm_singleton.mp this])
variable {X : Cx}
theorem cd_sortS2 : CallD X (.builtin "sorted") .frs oSortS2 := ⟨_, cr_sortedS, fun c ps w vs H Q ek _ hd rp ho hq => by
  unfold oSortS2 at ho
  split at ho
  · rename_i a b
    obtain ⟨v, rfl, r⟩ := rp.one
    obtain ⟨p, xs, rfl, h1, k⟩ := r.lst
    obtain ⟨v1, r1, rfl, k1, v2, r2, rfl, k2, k3⟩ := k
    have k3 : r2 = [] := k3
    have k1 : v1 = .str a := k1
    have k2 : v2 = .str b := k2
    subst k1 k2 k3
    refine ⟨p, [a, b], rfl, .inl (.of h1), by show 2 < 64; decide, fun ys z hp hs hz => ?_⟩
    have rl : ∀ l : List Str, RepL c H (l.map PV.str) (l.map V.str) := fun l => by
      induction l with
      | nil => rfl
      | cons s l ih => exact ⟨_, _, rfl, rfl, ih⟩
    have fin : w = .lst (ys.map PV.str) := by
      split at ho
      · rename_i e
        subst e
        cases ho
        rcases two_perm hp with rfl | rfl <;> rfl
      · split at ho
        · rename_i e
          cases ho
          rcases two_perm hp with rfl | rfl
          · rfl
          · rw [e.2] at hs; cases hs
        · split at ho
          · rename_i e
            cases ho
            rcases two_perm hp with rfl | rfl
            · rw [e.2] at hs; cases hs
            · rfl
          · cases ho
    rw [fin] at hq
    exact hq _ _ (same_new hz) (val_lst (rl ys) hz)
  · cases ho⟩
end Tr

namespace Tr
open PySem PySem.Spec PyProof.Rows L2
section
variable {X : Cx}
def rNeRd : R2 := fun x y H Q => ∃ a b ks ls, x = .ref a ∧ y = .ref b ∧ Rd H a (.dK ks) ∧ Rd H b (.dK ls) ∧ ks.length = ls.length ∧ (∀ p ∈ ks, valV ls p.1 = some p.2 ∧ flatB p.2 = true) ∧ Q (.bl false) H
theorem op_ne_rd (hu : X.A.units < cLine) : OpR X (compareOp .NotEq) rNeRd := by
  intro pins s σ H x y v u Q I rx ry h
  obtain ⟨a, b, ks, ls, rfl, rfl, ea, eb, hlen, hp, q⟩ := h
  obtain rfl : v = Value.ref a := rx
  obtain rfl : u = Value.ref b := ry
  obtain ⟨_, ya, va, ra, da⟩ := (show ObjOk X.prog X.w H s.heap a (.dK ks) from ea.ok I.hok)
  obtain ⟨_, yb, vb, rb, db⟩ := (show ObjOk X.prog X.w H s.heap b (.dK ls) from eb.ok I.hok)
  have hl : va.length = vb.length := by rw [← ra.length, ← rb.length]; exact hlen
  exact PySem.W.keq_ne (knd := mixKind X.prog X.w) (r := true) ya yb da db hu (fun _ => hits_all rb ra hp) (fin_bl I q (by simp [hl]))
def pNeDD (p q : PV) : Option Bool := match p, q with
  | .dct ks ps, .dct ls qs => (match intsP ps, intsP qs with
    | some ns, some ms => if ks = ls ∧ ns = ms ∧ ks.Nodup then some false else none
    | _, _ => none)
  | _, _ => none
theorem valV_zip : ∀ (ks : List Key) (vs : List V), ks.Nodup → ∀ p ∈ ks.zip vs, valV (ks.zip vs) p.1 = some p.2
  | [], _, _, p, h => by simp at h
  | _ :: _, [], _, p, h => by simp at h
  | k :: ks, v :: vs, nd, p, h => by
    rw [List.zip_cons_cons] at h ⊢
    rcases List.mem_cons.mp h with rfl | h
    · exact valV_pos rfl
    · have : p.1 ∈ ks := (List.of_mem_zip h).1
      rw [valV_neg (fun e => (List.nodup_cons.mp nd).1 (by rw [show k = p.1 from e]; exact this))]
      exact valV_zip ks vs (List.nodup_cons.mp nd).2 p h
theorem od_neDD {k : Nat} (hr : Room k X.A) : OpD X (compareOp .NotEq) .rep (bo pNeDD) := ⟨_, op_ne_rd (by have := hr.un; omega), fun c p q w v u H Q ek _ hd rp rq ho hq => by
  unfold bo pNeDD at ho
  split at ho
  · rename_i ks ps ls qs
    split at ho
    · rename_i ns ms e1 e2
      split at ho
      · rename_i hc
        obtain ⟨rfl, rfl, nd⟩ := hc
        cases ho
        obtain ⟨a, vs, rfl, h1, l1, r1⟩ := rp.dct
        obtain ⟨b, us, rfl, h2, l2, r2⟩ := rq.dct
        rw [ints_rep e1 r1] at h1 l1
        rw [ints_rep e2 r2] at h2 l2
        refine ⟨a, b, _, _, rfl, rfl, h1, h2, rfl, fun z hz => ⟨valV_zip _ _ nd z hz, ?_⟩, hq _ _ (Same.refl _) rfl⟩
        obtain ⟨i, _, e⟩ := List.mem_map.mp (List.of_mem_zip hz).2
        rw [← e]; rfl
      · cases ho
    · cases ho
  · cases ho⟩
def pNeX (p q : PV) : Option Bool := por (pNeB p q) (pNeDD p q)
theorem od_neX {k : Nat} (hr : Room k X.A) : OpD X (compareOp .NotEq) .rep (bo pNeX) := (od_ne hr).orB (od_neDD hr)
end
theorem still_bin {i : Nat} {a b : Den} {o : PV → PV → Option PV} (h : Still i a) (k : Still i b) : Still i (dBin o a b) := fun σ g p => by
  unfold dBin
  rw [h]
  congr 1
  funext p1 g1
  rw [k]
structure LamOne (K : PySem.W.Frag) (mg : Str → Option Value) (h : Heap) (x : Str × Addr × Addr) : Prop where
  ex : ∃ f, mg x.1 = some (.ref f) ∧ codeOf K f = some x.2.1 ∧ tabOf K x.2.1 = some x.2.2
  emp : h.get? x.2.2 = some { cls := .none, data := .fields #[] }
  non : K.lookup x.2.2 = none
  hd : PySem.W.CodeHd h x.2.1 x.2.2
theorem lam_one {K : PySem.W.Frag} {mg : Str → Option Value} {h : Heap} {n : Str} {f c T : Addr} {o : Obj} {fd : FuncData} (X : K.In h) (hm : mg n = some (.ref f)) (hc : codeOf K f = some c) (F : TabF K c T) (own : LamX.OwnTab K f h) (lf : K.lookup f = some o) (hd : o.data = .func fd) (hfc : fd.code = .ref c) : LamOne K mg h (n, c, T) where
  ex := ⟨f, hm, hc, F.tab⟩
  emp := by
    obtain ⟨e, dd, vs, sl, _, _, _, _, _, _, _, h1, _, h3, _⟩ := F.ex
    exact own c T o fd e dd vs sl lf hd hfc h1 h3
  non := F.non
  hd := F.hd X
theorem inj_nd {α β : Type} {f : α → β} : ∀ {l : List α}, (l.map f).Nodup → ∀ x ∈ l, ∀ y ∈ l, f x = f y → x = y
  | [], _, x, hx, _, _, _ => by simp at hx
  | a :: l, nd, x, hx, y, hy, e => by
    rw [List.map_cons] at nd
    obtain ⟨n1, n2⟩ := List.nodup_cons.mp nd
    rcases List.mem_cons.mp hx with e1 | hx' <;> rcases List.mem_cons.mp hy with e2 | hy'
    · rw [e1, e2]
    · rw [e1] at e; exact (n1 (e ▸ List.mem_map_of_mem hy')).elim
    · rw [e2] at e; exact (n1 (e ▸ List.mem_map_of_mem hx')).elim
    · exact inj_nd n2 x hx' y hy' e
theorem tbH_many {K : PySem.W.Frag} {mg : Str → Option Value} {h : Heap} (L : List (Str × Addr × Addr)) (hn : lamNames = L.map (·.1)) (all : ∀ x ∈ L, LamOne K mg h x) (nd : (L.map (·.2.2)).Nodup) : TbH K mg h (L.map (·.2)) (L.map fun x => (x.2.2, lamQ x.1)) where
  st := {
    has := fun n hm f cd T h1 h2 h3 => by
      rw [hn] at hm
      obtain ⟨x, hx, rfl⟩ := List.mem_map.mp hm
      obtain ⟨f', k1, k2, k3⟩ := (all x hx).ex
      rw [k1] at h1; cases h1
      rw [k2] at h2; cases h2
      rw [k3] at h3; cases h3
      exact List.mem_map.mpr ⟨x, hx, rfl⟩
    one := fun p hp q hq e => by
      obtain ⟨x, hx, rfl⟩ := List.mem_map.mp hp
      obtain ⟨y, hy, rfl⟩ := List.mem_map.mp hq
      rw [inj_nd nd x hx y hy e] }
  sub := fun p hp => by
    obtain ⟨x, hx, rfl⟩ := List.mem_map.mp hp
    exact ⟨x.2, List.mem_map.mpr ⟨x, hx, rfl⟩, rfl⟩
  emp := fun p hp => by obtain ⟨x, hx, rfl⟩ := List.mem_map.mp hp; exact (all x hx).emp
  non := fun p hp => by obtain ⟨x, hx, rfl⟩ := List.mem_map.mp hp; exact (all x hx).non
  hd := fun p hp => by obtain ⟨x, hx, rfl⟩ := List.mem_map.mp hp; exact (all x hx).hd
end Tr

namespace Tr
open PySem PySem.Spec PyProof.Rows L2
section
variable {X : Cx} {Wx : WX} {Wk : List Nat} {md : Md}
def tIfT (t ta tb : TT) : TT := fun σ H Q => t σ H fun c H1 => if c = true then ta σ H1 Q else tb σ H1 Q
theorem pt_ifE {c a b : Expr} {pos : Pos} {t ta tb : TT} (hc : PT X c t) (ha : PT X a ta) (hb : PT X b tb) : PT X (.IfExp c a b pos) (tIfT t ta tb) := by
  refine ⟨fun pins s σ H Q I h => ?_⟩
  show wpAny _ _ (do if ← isTrue c X.env (eval c X.env) then isTrue a X.env (eval a X.env) else isTrue b X.env (eval b X.env)) _ _ s
  refine wpAny_bind (thn (hc.run pins s σ H _ I h) fun d s1 ⟨H1, I1, q1⟩ => ?_)
  cases d with
  | true => exact ha.run pins s1 σ H1 Q I1 q1
  | false => exact hb.run pins s1 σ H1 Q I1 q1
def dIfT (c a b : DenT) : DenT := fun σ g => (c σ g).bind fun t g => if t = true then a σ g else b σ g
theorem st_ifE {c a b : Expr} {pos : Pos} {dc da db : DenT} (hc : ST X Wx Wk c dc) (ha : ST X Wx Wk a da) (hb : ST X Wx Wk b db) : ST X Wx Wk (.IfExp c a b pos) (dIfT dc da db) := by
  obtain ⟨t, ht, hs⟩ := hc
  obtain ⟨ta, pa, sa⟩ := ha
  obtain ⟨tb, pb, sb⟩ := hb
  refine ⟨_, pt_ifE ht pa pb, fun ρ B W σ σc H g Q hW R p => ?_⟩
  refine hs ρ B W σ σc H g _ hW R (PstT.bindT p fun c g1 H1 _ e1 k1 p => ?_)
  cases c with
  | true => exact sa ρ B W σ σc H1 g1 _ hW (R.ext e1 k1) p
  | false => exact sb ρ B W σ σc H1 g1 _ hW (R.ext e1 k1) p
end
section
variable {X : Cx} {Wx : WX} {Wk : List Nat} {tg : Expr}
def rngD (lo : Int) (n : Nat) : List PV := (List.range n).map fun i => .int (lo - (i : Nat))
theorem walks_rngD {c : Ct} {H : Hp} {lo : Int} {n : Nat} : Walks c H (Itc lo (-1) n) (rngD lo n) where
  go := fun H' i s hi => show i < n by simpa [rngD] using hi
  yld := fun H' i x H2 B' s hi y hd hb => by
    obtain ⟨rfl, rfl⟩ := y
    have hi : i < n := by simpa [rngD] using hi
    exact ⟨.refl _, .int (lo - i), by simp [rngD, hi], by show V.int _ = V.int _; congr 1; omega⟩
  stop := fun H' i s hi => show n ≤ i by simpa [rngD] using hi
def dRngD (d : DenL) : DenL := fun σ g => (d σ g).bind fun ps g => match ps with
  | [.int i, .int j, .int c] => if (i ≤ 1000 ∧ -1000 ≤ i ∧ j ≤ 1000 ∧ -1000 ≤ j) ∧ c = -1 then .ok (rngD i (i - j).toNat) g else .stuck
  | _ => .stuck
theorem si_range3 {a b e : Expr} {d : DenL} {p pos : Pos} (hm : X.mg "range" = none) (ha : SA X Wx Wk .brw [a, b, e] d) (hg : Gl X "range" := by rfl) (hs : starEach [a, b, e] X.env = (false, eval a X.env) :: starEach [b, e] X.env := by rfl) (hpl : (backTo pos (starEach [b, e] X.env)).any (·.1) = false := by rfl) : SI X Wx Wk tg (.Call (.Name "range" p) [a, b, e] [] pos) (dRngD d) := by
  obtain ⟨t, ht, hh⟩ := ha
  refine ⟨_, pi_range3 hg hm ht hs hpl, fun ρ B W σ σc H g R hW Rl p => ?_⟩
  refine hh ρ B W σ σc H g _ hW Rl (PstI.bindL p fun ps g1 vs H1 _ e1 k1 q1 l p => ?_)
  by_cases hp : ∃ i j c, ps = [.int i, .int j, .int c]
  · obtain ⟨i, j, c, rfl⟩ := hp
    have p : PstI (ct X ρ B) W H1 (if (i ≤ 1000 ∧ -1000 ≤ i ∧ j ≤ 1000 ∧ -1000 ≤ j) ∧ c = -1 then .ok (rngD i (i - j).toNat) g1 else .stuck) R _ := p
    by_cases hj : (i ≤ 1000 ∧ -1000 ≤ i ∧ j ≤ 1000 ∧ -1000 ≤ j) ∧ c = -1
    · rw [if_pos hj] at p
      have p : PstI (ct X ρ B) W H1 (.ok (rngD i (i - j).toNat) g1) R _ := p
      obtain ⟨hj, hc⟩ := hj
      obtain ⟨v, r, rfl, q, q1⟩ := q1
      obtain ⟨u, z, rfl, q', q''⟩ := RepLB.two q1
      exact ⟨i, j, c, _, by rw [q.int, q'.int, q''.int], by rw [hc]; exact RgC.neg (by omega) (by omega) (by omega) (by omega), p _ H1 (Ext.refl _ _) k1 (by rw [hc]; exact walks_rngD)⟩
    · rw [if_neg hj] at p; exact p.elim
  · exfalso
    split at p
    · exact hp ⟨_, _, _, rfl⟩
    · exact p.elim
end
section
variable {X : Cx} {E : XK} {fz Wk : List Nat} {md : Md}
def dIns (i : Nat) (dk d : Den) : DenS := fun σ g => onLst i σ fun l => (dk σ g).bindS fun q g => (d σ g).bindS fun p g => match q with
  | .int k => if (0 ≤ k ∧ k ≤ 1000) ∧ l.length < sizeLine then .next (σ.set i (some (.lst (l.take k.toNat ++ [p] ++ l.drop k.toNat)))) g else .stuck
  | _ => .stuck
theorem ss_insert (i : Nat) {x : Str} {e0 e : Expr} {px apos cpos pos : Pos} {dk d : Den} (h0 : SE X (WE0 E) Wk .brw e0 dk) (h : SE X (WE0 E) Wk .rep e d) (hi : i ∈ Wk := by decide) (hN : X.N[i]? = some x := by rfl) (hv : Vis X.env.scope x := by first | exact Or.inl rfl | exact Or.inr (Or.inl rfl) | exact Or.inr (Or.inr rfl)) (hd : (x == ("__debug__" : Str)) = false := by decide)
    (hcd : (x == ("__classdict__" : Str)) = false := by decide) (hbase : attributeBase (.Name x px) "insert" X.env (eval (.Name x px) X.env) = eval (.Name x px) X.env := by rfl)
    (hfew : ((backTo cpos (starEach [e0, e] X.env)).all (fun x => !x.1) && (backToKw cpos (keywordEach [] X.env)).all (fun x => x.1.isSome) && decide ([e0, e].length + ([] : List Keyword).length + (if ([] : List Keyword).isEmpty then 0 else 1) < 30)) = true := by rfl)
    (hline : (apos.endLine == cpos.line) = true := by rfl) (hs : starEach [e0, e] X.env = (false, eval e0 X.env) :: starEach [e] X.env := by rfl) (hs2 : starEach [e] X.env = (false, eval e X.env) :: starEach [] X.env := by rfl) (hplain : (backTo cpos (starEach [e] X.env)).any (·.1) = false := by rfl)
    (hsw : swapsWith (.Call (.Attribute (.Name x px) "insert" apos) [e0, e] [] cpos) none pos.line X.env = pure false := by rfl) :
    SS X E fz Wk Wk md (.Expr (.Call (.Attribute (.Name x px) "insert" apos) [e0, e] [] cpos) pos) (dIns i dk d) := by
  obtain ⟨t0, ht0, hh0⟩ := h0
  obtain ⟨t, ht, hh⟩ := h
  refine ⟨_, ps_expr (pe_bm PySem.F.plainAttrs_list PySem.F.slot_list_insert PySem.F.type_list_insert mt_insert (pe_var hN hv hd hcd) (pa_cons ht0 (pa_cons ht pa_nil hs2) hs) hbase hfew hline hs hplain) hsw, fun ρ B W σ σc H g D J hW R jc j p => ?_⟩
  rw [← hW] at hi
  obtain ⟨w, hw, rfl⟩ := List.mem_map.mp hi
  obtain ⟨l, h1, p⟩ := onLst_cases p
  obtain ⟨xs, h2, h4, h5⟩ := own_lst R hw h1
  refine ⟨_, h2, .inl ⟨rfl, xs, .of h4⟩, ?_⟩
  refine hh0 ρ B W σ σc H g _ hW R (PstS.bind p fun q g0 v0 H0 _ e0 k0 q0 p => ?_)
  have R0 := R.ext e0 k0
  have h40 := e0 _ _ h4 (fun z => R.wb w hw (R.rb _ z))
  refine hh ρ B W σ σc H0 g0 _ hW R0 (PstS.bind p fun x g1 v H1 _ e1 k1 q1 p => ?_)
  have R1 := R0.ext e1 k1
  have h6 := e1 _ _ h40 (fun z => R.wb w hw (R.rb _ z))
  cases q with
  | int k =>
    have p : PstS (ct X ρ B) W H1 Wk md (if (0 ≤ k ∧ k ≤ 1000) ∧ l.length < sizeLine then .next (σ.set w.1 (some (.lst (l.take k.toNat ++ [x] ++ l.drop k.toNat)))) g1 else .stuck) (jD D J) E := p
    by_cases hl : (0 ≤ k ∧ k ≤ 1000) ∧ l.length < sizeLine
    · rw [if_pos hl] at p
      have e6 := RepL.ext (c := (ct X ρ B).ban W) e1 (Ct.ban_R R.rb) (RepL.ext (c := (ct X ρ B).ban W) e0 (Ct.ban_R R.rb) h5)
      refine ⟨w.2, xs, k, v, rfl, by rw [q0.int], h6, by rw [← h5.length]; exact hl.2, hl.1.1, by omega, ?_⟩
      exact p W σc _ hW (upd_w hw) (.refl _ _) (new_lst R1 hw (RepL.append (RepL.append (RepL.take k.toNat e6) ⟨v, [], rfl, q1, rfl⟩) (RepL.drop k.toNat e6))) j
    · rw [if_neg hl] at p; exact p.elim
  | _ => exact p.elim
def dAug (f : Int → Int → Int) (i : Nat) (d : Den) : DenS := fun σ g => match σ[i]? with
  | some (some (.int a)) => (d σ g).bindS fun q g => (match q with
    | .int b => .next (σ.set i (some (.int (f a b)))) g
    | _ => .stuck)
  | _ => .stuck
theorem ss_aug {op : Operator} {f : Int → Int → Int} (ho : PIp X op (ipI f)) (i : Nat) {x : Str} {e : Expr} {pos pos' : Pos} {d : Den} (hN : X.N.Nodup) (h : SE X (WE0 E) Wk .brw e d) (hw : i ∉ Wk := by decide) (hz : i ∉ fz := by decide) (hi : X.N[i]? = some x := by rfl) (hx : Loc X.env.scope x := by first | exact Or.inl rfl | exact Or.inr rfl) (hf : X.fn x = true ∨ X.env.scope.names.lookup x = some .local := by first | exact .inl rfl | exact .inr rfl) :
    SS X E fz Wk Wk md (.AugAssign (.Name x pos') op e pos) (dAug f i d) := by
  obtain ⟨t, ht, hh⟩ := h
  refine ⟨_, ps_aug hN hi hx ht ho hf, fun ρ B W σ σc H g D J hW R jc j p => ?_⟩
  by_cases ha : ∃ a, σ[i]? = some (some (.int a))
  · obtain ⟨a, ha⟩ := ha
    have p : PstS (ct X ρ B) W H Wk md ((d σ g).bindS fun q g => (match q with
      | .int b => .next (σ.set i (some (.int (f a b)))) g
      | _ => .stuck)) (jD D J) E := by unfold dAug at p; rw [ha] at p; exact p
    obtain ⟨v, hv, rv⟩ := R.val i (.int a) ha (by rw [hW]; exact hw)
    have rv : v = .int a := rv
    subst rv
    refine ⟨_, hv, ?_⟩
    refine hh ρ B W σ σc H g _ hW R (PstS.bind p fun x g1 v H1 _ e1 k1 q1 p => ?_)
    cases x with
    | int b => exact ⟨a, b, rfl, q1.int, p W _ H1 hW (Ext.refl _ _).w (.refl _ _) ((R.ext e1 k1).set (by rw [hW]; exact hw) rfl) (jc.set hz j)⟩
    | _ => exact p.elim
  · exfalso
    unfold dAug at p
    split at p
    · rename_i a e; exact ha ⟨a, e⟩
    · exact p.elim
end
end Tr

namespace Tr
open PySem PySem.Spec PyProof.Rows L2
abbrev d_law_pick : DDen := dPick
def b_is_integer : DenS := (dSeq (dRet (dAnd (dIsa "int" (dV 0)) (dNot (dIsa "bool" (dV 0))))) dNever)
def d_is_integer : DDen := dDef 1 .rep b_is_integer
def b_is_number : DenS := (dSeq (dRet (dAnd (dCall d_is_integer (dCons (dV 0) dNil)) (dBin (bo pGe) (dV 0) (dC (.int 0))))) dNever)
def d_is_number : DDen := dDef 1 .rep b_is_number
def b_is_list : DenS := (dSeq (dRet (dIsa2 "list" "tuple" (dV 0))) dNever)
def d_is_list : DDen := dDef 1 .rep b_is_list
def b_is_row : DenS := (dSeq (dRet (dAnd (dCall d_is_list (dCons (dV 0) dNil)) (dBin (bo pEqB) (dCB oLen (dCons (dV 0) dNil)) (dV 1)))) dNever)
def d_is_row : DDen := dDef 2 .rep b_is_row
def b_is_pair : DenS := (dSeq (dRet (dCall d_is_row (dCons (dV 0) (dCons (dC (.int 2)) dNil)))) dNever)
def d_is_pair : DDen := dDef 1 .rep b_is_pair
def b_is_text : DenS := (dSeq (dRet (dIsa "str" (dV 0))) dNever)
def d_is_text : DDen := dDef 1 .rep b_is_text
def b_is_length : DenS := (dSeq (dRet (dAnd (dCall d_is_integer (dCons (dV 0) dNil)) (dBin (bo pGt) (dV 0) (dC (.int 0))))) dNever)
def d_is_length : DDen := dDef 1 .rep b_is_length
def b_is_letter : DenS := (dSeq (dRet (dAnd (dCall d_is_text (dCons (dV 0) dNil)) (dBin (bo pInA) (dV 0) (dTup (dCons (dC (.str "m")) (dCons (dC (.str "v")) (dCons (dC (.str "?")) dNil))))))) dNever)
def d_is_letter : DDen := dDef 1 .rep b_is_letter
def b_wrong_lengths : DenS := (dSeq (dIf (dOrT (dNotT (dTr (dCall d_is_list (dCons (dV 0) dNil)))) (dCmp pEqB (dCB oLen (dCons (dV 0) dNil)) (dC (.int 0)))) (dSeq (dRet (dC (.int 0))) dNever) dSkip) (dSeq (dFor (dEnumA (dCons (dV 0) dNil)) (gdTupA 2 (gdCons (gdName 1) (gdCons (gdName 2) gdNil))) (dSeq (dIf (dNotT (dTr (dCall d_is_length (dCons (dV 2) dNil)))) (dSeq (dRet (dV 1)) dNever) dSkip) dSkip)) (dSeq (dRet (dC .non)) dNever)))
def d_wrong_lengths : DDen := dDef 3 .rep b_wrong_lengths
def b_wrong_letters : DenS := (dSeq (dIf (dNotT (dTr (dCall d_is_list (dCons (dV 1) dNil)))) (dSeq (dRet (dC (.int 0))) dNever) dSkip) (dSeq (dFor (dEnumA (dCons (dV 1) dNil)) (gdTupA 2 (gdCons (gdName 2) (gdCons (gdName 3) gdNil))) (dSeq (dIf (dOrT (dCmp pEqB (dV 2) (dV 0)) (dNotT (dTr (dCall d_is_letter (dCons (dV 3) dNil))))) (dSeq (dRet (dV 2)) dNever) dSkip) dSkip)) (dSeq (dRet (dIfE (dCmp pLt (dCB oLen (dCons (dV 1) dNil)) (dV 0)) (dCB oLen (dCons (dV 1) dNil)) (dC .non))) dNever)))
def d_wrong_letters : DDen := dDef 4 .rep b_wrong_letters
def b_Strip_init__ : DenS := (dSeq (dSet 3 (dCall d_wrong_lengths (dCons (dV 1) dNil))) (dSeq (dIf (dCmp pIsnt (dV 3) (dC .non)) (dSeq dNever dNever) dSkip) (dSeq (dSet 3 (dCall d_wrong_letters (dCons (dBin pSub (dCB oLen (dCons (dV 1) dNil)) (dC (.int 1))) (dCons (dV 2) dNil)))) (dSeq (dIf (dCmp pIsnt (dV 3) (dC .non)) (dSeq dNever dNever) dSkip) (dSeq (dFldS 0 "Strip" "_lengths" (dCB oListA (dCons (dV 1) dNil))) (dSeq (dFldS 0 "Strip" "_creases" (dCB oListA (dCons (dV 2) dNil))) dSkip))))))
def d_Strip_init__ : DDen := dInit 4 "Strip" b_Strip_init__
def b_Strip_lengths : DenS := (dSeq (dRet (dCB oListA (dCons (dFld "Strip" "_lengths" (dV 0)) dNil))) dNever)
def d_Strip_lengths : DDen := dDef 1 .frs b_Strip_lengths
def b_Strip_creases : DenS := (dSeq (dRet (dCB oListA (dCons (dFld "Strip" "_creases" (dV 0)) dNil))) dNever)
def d_Strip_creases : DDen := dDef 1 .frs b_Strip_creases
def b_need_strip : DenS := (dSeq (dIf (dNotT (dTr (dIsInG "Strip" (dV 0)))) (dSeq (dRaise "BadStrip" "strip" (dCons (dV 0) dNil)) dNever) dSkip) dSkip)
def d_need_strip : DDen := dDef 1 .rep b_need_strip
def b_are_alike : DenS := (dSeq (dRet (dAnd (dBin (bo pNeB) (dIx (dV 0) (dC (.int 0))) (dC (.str "?"))) (dCB oAll (dCons (dComp (dIt (dV 0)) [1] (gdName 1) dYes (dBin (bo pEqB) (dV 1) (dIx (dV 0) (dC (.int 0))))) dNil)))) dNever)
def d_are_alike : DDen := dDef 2 .rep b_are_alike
def b_is_lock_in : DenS := (dSeq (dIf (dNotT (dCh3 pLe pLe pLe (dC (.int 1)) (dV 2) (dV 3) (dBin pSub (dCB oLen (dCons (dV 0) dNil)) (dC (.int 2))))) (dSeq (dRet (dC (.bl false))) dNever) dSkip) (dSeq (dIf (dNotT (dTr (dCB oAll (dCons (dComp (dIt (dSl pSl (dV 0) (dSome (dV 2)) (dSome (dBin pPlus (dV 3) (dC (.int 1)))))) [4] (gdName 4) dYes (dBin (bo pEqB) (dV 4) (dIx (dV 0) (dV 2)))) dNil)))) (dSeq (dRet (dC (.bl false))) dNever) dSkip) (dSeq (dIf (dOrT (dCmp pLe (dIx (dV 0) (dBin pSub (dV 2) (dC (.int 1)))) (dIx (dV 0) (dV 2))) (dCmp pLe (dIx (dV 0) (dBin pPlus (dV 3) (dC (.int 1)))) (dIx (dV 0) (dV 2)))) (dSeq (dRet (dC (.bl false))) dNever) dSkip) (dSeq (dRet (dCall d_are_alike (dCons (dSl pSl (dV 1) (dSome (dBin pSub (dV 2) (dC (.int 1)))) (dSome (dBin pPlus (dV 3) (dC (.int 1))))) dNil))) dNever))))
def d_is_lock_in : DDen := dDef 5 .rep b_is_lock_in
def b_locks_in : DenS := (dSeq (dSetW 2 (dLst dNil)) (dSeq (dFor (dRng2 (dCons (dC (.int 1)) (dCons (dBin pSub (dCB oLen (dCons (dV 0) dNil)) (dC (.int 1))) dNil))) (gdName 3) (dSeq (dSet 4 (dLR2 (dV 3) (dBin pSub (dCB oLen (dCons (dV 0) dNil)) (dC (.int 1))))) (dSeq (dExt 2 (dComp (dIt (dV 4)) [5] (gdName 5) (dTr (dCall d_is_lock_in (dCons (dV 0) (dCons (dV 1) (dCons (dV 3) (dCons (dV 5) dNil)))))) (dTup (dCons (dV 3) (dCons (dV 5) dNil))))) dSkip))) (dSeq (dRet (dV 2)) dNever)))
def d_locks_in : DDen := dDef 6 .frs b_locks_in
def b_holds_lock : DenS := (dSeq (dIf (dOrT (dNotT (dTr (dCall d_is_pair (dCons (dV 2) dNil)))) (dOrT (dNotT (dTr (dCall d_is_number (dCons (dIx (dV 2) (dC (.int 0))) dNil)))) (dNotT (dTr (dCall d_is_number (dCons (dIx (dV 2) (dC (.int 1))) dNil)))))) (dSeq (dRet (dC (.bl false))) dNever) dSkip) (dSeq (dRet (dCall d_is_lock_in (dCons (dV 0) (dCons (dV 1) (dCons (dIx (dV 2) (dC (.int 0))) (dCons (dIx (dV 2) (dC (.int 1))) dNil)))))) dNever))
def d_holds_lock : DDen := dDef 3 .rep b_holds_lock
def b_is_lock : DenS := (dSeq (dExpr (dCall d_need_strip (dCons (dV 0) dNil))) (dSeq (dRet (dCall d_holds_lock (dCons (dMeth "Strip" "lengths" d_Strip_lengths (dV 0) dNil) (dCons (dMeth "Strip" "creases" d_Strip_creases (dV 0) dNil) (dCons (dV 1) dNil))))) dNever))
def d_is_lock : DDen := dDef 2 .rep b_is_lock
def b_locks : DenS := (dSeq (dExpr (dCall d_need_strip (dCons (dV 0) dNil))) (dSeq (dRet (dCall d_locks_in (dCons (dMeth "Strip" "lengths" d_Strip_lengths (dV 0) dNil) (dCons (dMeth "Strip" "creases" d_Strip_creases (dV 0) dNil) dNil)))) dNever))
def d_locks : DDen := dDef 1 .frs b_locks
def b_law_between : DenS := (dSeq (dRet (dBin pPlus (dV 1) (dCall d_law_pick (dCons (dV 0) (dCons (dBin pPlus (dCB oMax (dCons (dBin pSub (dV 2) (dV 1)) (dCons (dC (.int 0)) dNil))) (dC (.int 1))) dNil))))) dNever)
def d_law_between : DDen := dDef 3 .rep b_law_between
def b_law_one : DenS := (dSeq (dRet (dIx (dV 1) (dCall d_law_pick (dCons (dV 0) (dCons (dCB oLen (dCons (dV 1) dNil)) dNil))))) dNever)
def d_law_one : DDen := dDef 2 .rep b_law_one
def b_law_mixed : DenS := (dSeq (dParW 2 3 (dCB oListA (dCons (dV 1) dNil)) (dLst dNil)) (dSeq (dFor (dRng1 (dCons (dCB oLen (dCons (dV 2) dNil)) dNil)) (gdName 4) (dSeq (dAppPop 3 2 (dCall d_law_pick (dCons (dV 0) (dCons (dCB oLen (dCons (dV 2) dNil)) dNil)))) dSkip)) (dSeq (dRet (dV 3)) dNever)))
def d_law_mixed : DDen := dDef 5 .frs b_law_mixed
def b_law_same (rec_ : DDen) : DenS := (dSeq (dIf (dTr (dIsa2 "list" "tuple" (dV 1))) (dSeq (dIf (dOrT (dCmp pNeB (dIsa "list" (dV 0)) (dIsa "list" (dV 1))) (dCmp pNeB (dIsa "tuple" (dV 0)) (dIsa "tuple" (dV 1)))) (dSeq (dRet (dC (.bl false))) dNever) dSkip) (dSeq (dRet (dAnd (dBin (bo pEqB) (dCB oLen (dCons (dV 0) dNil)) (dCB oLen (dCons (dV 1) dNil))) (dCB oAll (dCons (dComp (dZipA (dCons (dV 0) (dCons (dV 1) dNil))) [3, 4] (gdTupA 2 (gdCons (gdName 3) (gdCons (gdName 4) gdNil))) dYes (dCall rec_ (dCons (dV 3) (dCons (dV 4) dNil)))) dNil)))) dNever)) dSkip) (dSeq (dIf (dTr (dIsa "dict" (dV 1))) (dSeq (dIf (dOrT (dNotT (dTr (dIsa "dict" (dV 0)))) (dNotT (dTr (dCall rec_ (dCons (dCB oListA (dCons (dV 0) dNil)) (dCons (dCB oListA (dCons (dV 1) dNil)) dNil)))))) (dSeq (dRet (dC (.bl false))) dNever) dSkip) (dSeq (dRet (dCB oAll (dCons (dComp (dKeys 1) [2] (gdName 2) dYes (dCall rec_ (dCons (dIx (dV 0) (dV 2)) (dCons (dIx (dV 1) (dV 2)) dNil)))) dNil))) dNever)) dSkip) (dSeq (dIf (dCmp pIs (dV 1) (dC .non)) (dSeq (dRet (dBin (bo pIs) (dV 0) (dC .non))) dNever) dSkip) (dSeq (dIf (dTr (dIsa "bool" (dV 1))) (dSeq (dRet (dAnd (dIsa "bool" (dV 0)) (dBin (bo pEqB) (dV 0) (dV 1)))) dNever) dSkip) (dSeq (dIf (dTr (dIsa "int" (dV 1))) (dSeq (dRet (dAnd (dIsa "int" (dV 0)) (dAnd (dNot (dIsa "bool" (dV 0))) (dBin (bo pEqB) (dV 0) (dV 1))))) dNever) dSkip) (dSeq (dRet (dAnd (dIsa "str" (dV 0)) (dBin (bo pEqB) (dV 0) (dV 1)))) dNever))))))
def d_law_same_ : Nat → DDen
  | 0 => fun _ _ => .stuck
  | n + 1 => dDef 5 .rep (b_law_same (d_law_same_ n))
abbrev d_law_same : DDen := d_law_same_ 8
def b_law_copy (rec_ : DDen) : DenS := (dSeq (dIf (dTr (dIsa "list" (dV 0))) (dSeq (dRet (dComp (dIt (dV 0)) [3] (gdName 3) dYes (dCall rec_ (dCons (dV 3) dNil)))) dNever) dSkip) (dSeq (dIf (dTr (dIsa "tuple" (dV 0))) (dSeq (dRet (dCB oTuple (dCons (dComp (dIt (dV 0)) [3] (gdName 3) dYes (dCall rec_ (dCons (dV 3) dNil))) dNil))) dNever) dSkip) (dSeq (dIf (dTr (dIsa "dict" (dV 0))) (dSeq (dSetW 1 dDNew) (dSeq (dForK 0 (gdName 2) (dSeq (dDPut 1 (dV 2) (dCall rec_ (dCons (dIx (dV 0) (dV 2)) dNil))) dSkip)) (dSeq (dRet (dV 1)) dNever))) dSkip) (dSeq (dRet (dV 0)) dNever))))
def d_law_copy_ : Nat → DDen
  | 0 => fun _ _ => .stuck
  | n + 1 => dDef 4 .rep (b_law_copy (d_law_copy_ n))
abbrev d_law_copy : DDen := d_law_copy_ 8
def b_law_loose (rec_ : DDen) : DenS := (dSeq (dIf (dTr (dIsa2 "list" "tuple" (dV 1))) (dSeq (dSet 2 (dComp (dIt (dV 1)) [5] (gdName 5) dYes (dCall rec_ (dCons (dV 0) (dCons (dV 5) dNil))))) (dSeq (dRet (dIfE (dCmp pEqB (dCall d_law_pick (dCons (dV 0) (dCons (dC (.int 2)) dNil))) (dC (.int 0))) (dV 2) (dCB oTuple (dCons (dV 2) dNil)))) dNever)) dSkip) (dSeq (dIf (dTr (dIsa "dict" (dV 1))) (dSeq (dSetW 3 dDNew) (dSeq (dFor (dIt (dCall d_law_mixed (dCons (dV 0) (dCons (dCB oListA (dCons (dV 1) dNil)) dNil)))) (gdName 4) (dSeq (dDPut 3 (dV 4) (dCall rec_ (dCons (dV 0) (dCons (dIx (dV 1) (dV 4)) dNil)))) dSkip)) (dSeq (dRet (dV 3)) dNever))) dSkip) (dSeq (dRet (dV 1)) dNever)))
def d_law_loose_ : Nat → DDen
  | 0 => fun _ _ => .stuck
  | n + 1 => dDef 6 .rep (b_law_loose (d_law_loose_ n))
abbrev d_law_loose : DDen := d_law_loose_ 8
def b_law_spoil (rec_ : DDen) : DenS := (dSeq (dIf (dTr (dIsa2 "list" "tuple" (dV 0))) (dSeq (dFor (dIt (dCB oListA (dCons (dV 0) dNil))) (gdName 1) (dSeq (dExpr (dCall rec_ (dCons (dV 1) dNil))) dSkip)) dSkip) dSkip) (dSeq (dIf (dTr (dIsa "list" (dV 0))) (dSeq dNever dSkip) dSkip) (dSeq (dIf (dTr (dIsa "dict" (dV 0))) (dSeq dNever (dSeq dNever dSkip)) dSkip) (dSeq (dRet (dV 0)) dNever))))
def d_law_spoil_ : Nat → DDen
  | 0 => fun _ _ => .stuck
  | n + 1 => dDef 3 .rep (b_law_spoil (d_law_spoil_ n))
abbrev d_law_spoil : DDen := d_law_spoil_ 8
def b_law_spoilO : DenS := (dSeq (dIf (dTr (dIsa2 "list" "tuple" (dV 0))) (dSeq (dFor (dIt (dCB oListA (dCons (dV 0) dNil))) (gdName 1) (dSeq (dExpr (dCall d_law_spoil (dCons (dV 1) dNil))) dSkip)) dSkip) dSkip) (dSeq (dIf (dTr (dIsa "list" (dV 0))) (dSeq (dApp 0 (dC (.str "spoilt"))) dSkip) dSkip) (dSeq (dIf (dTr (dIsa "dict" (dV 0))) (dSeq dNever (dSeq dNever dSkip)) dSkip) (dSeq (dRet (dV 0)) dNever))))
def d_law_spoilO : DDen := dDefO 3 b_law_spoilO
def b_law_is_number : DenS := (dSeq (dRet (dAnd (dIsa "int" (dV 0)) (dAnd (dNot (dIsa "bool" (dV 0))) (dBin (bo pGe) (dV 0) (dC (.int 0)))))) dNever)
def d_law_is_number : DDen := dDef 1 .rep b_law_is_number
def b_law_strip_of : DenS := (dSeq (dRet (dMake d_Strip_init__ (dCons (dCB oListA (dCons (dIx (dV 0) (dC (.int 0))) dNil)) (dCons (dCB oListA (dCons (dIx (dV 0) (dC (.int 1))) dNil)) dNil)))) dNever)
def d_law_strip_of : DDen := dDef 1 .frs b_law_strip_of
def b_law_draw_lengths : DenS := (dSeq (dSet 2 (dCall d_law_one (dCons (dV 0) (dCons (dLst (dCons (dC (.int 1)) (dCons (dC (.int 2)) (dCons (dC (.int 3)) (dCons (dC (.int 5)) (dCons (dC (.int 9)) dNil)))))) dNil)))) (dSeq (dSetW 3 (dComp (dRng1 (dCons (dV 1) dNil)) [4] (gdName 4) dYes (dBin pPlus (dC (.int 1)) (dCall d_law_pick (dCons (dV 0) (dCons (dV 2) dNil)))))) (dSeq (dIf (dAndT (dCmp pGt (dV 1) (dC (.int 2))) (dCmp pEqB (dCall d_law_pick (dCons (dV 0) (dCons (dC (.int 3)) dNil))) (dC (.int 0)))) (dSeq (dPut2 3 (dC (.int 0)) (dNeg (dC (.int 1))) (dBin pPlus (dIx (dV 3) (dC (.int 0))) (dV 2)) (dBin pPlus (dIx (dV 3) (dNeg (dC (.int 1)))) (dV 2))) dSkip) dSkip) (dSeq (dRet (dV 3)) dNever))))
def d_law_draw_lengths : DDen := dDef 5 .frs b_law_draw_lengths
def b_law_draw_strip : DenS := (dSeq (dPar 4 5 (dCall d_law_between (dCons (dV 0) (dCons (dV 1) (dCons (dV 2) dNil)))) (dCall d_law_pick (dCons (dV 0) (dCons (dC (.int 3)) dNil)))) (dSeq (dSetW 6 (dLst dNil)) (dSeq (dFor (dRng1 (dCons (dBin pSub (dV 4) (dC (.int 1))) dNil)) (gdName 7) (dSeq (dSet 8 (dIfE (dOrT (dCmp pLt (dV 5) (dC (.int 2))) (dCmp pEqB (dV 6) (dLst dNil))) (dCall d_law_one (dCons (dV 0) (dCons (dLst (dCons (dC (.str "m")) (dCons (dC (.str "v")) dNil))) dNil))) (dIx (dV 6) (dNeg (dC (.int 1)))))) (dSeq (dApp 6 (dIfE (dAndT (dCmp pGt (dV 3) (dC (.int 0))) (dCmp pEqB (dCall d_law_pick (dCons (dV 0) (dCons (dV 3) dNil))) (dC (.int 0)))) (dC (.str "?")) (dV 8))) dSkip))) (dSeq (dRet (dLst (dCons (dCall d_law_draw_lengths (dCons (dV 0) (dCons (dV 4) dNil))) (dCons (dV 6) dNil)))) dNever))))
def d_law_draw_strip : DDen := dDef 9 .frs b_law_draw_strip
def b_law_is_lock : DenS := (dSeq (dAsg (gdTupA 2 (gdCons (gdName 2) (gdCons (gdName 3) gdNil))) (dV 0)) (dSeq (dIf (dOrT (dNotT (dTr (dIsa2 "list" "tuple" (dV 1)))) (dOrT (dCmp pNeB (dCB oLen (dCons (dV 1) dNil)) (dC (.int 2))) (dNotT (dTr (dCB oAll (dCons (dComp (dIt (dV 1)) [7] (gdName 7) dYes (dCall d_law_is_number (dCons (dV 7) dNil))) dNil)))))) (dSeq (dRet (dC (.bl false))) dNever) dSkip) (dSeq (dAsg (gdTupA 2 (gdCons (gdName 4) (gdCons (gdName 5) gdNil))) (dV 1)) (dSeq (dIf (dOrT (dNotT (dCh3 pLe pLe pLe (dC (.int 1)) (dV 4) (dV 5) (dBin pSub (dCB oLen (dCons (dV 2) dNil)) (dC (.int 2))))) (dTr (dCB oAny (dCons (dComp (dRng2 (dCons (dV 4) (dCons (dBin pPlus (dV 5) (dC (.int 1))) dNil))) [6] (gdName 6) dYes (dBin (bo pNeB) (dIx (dV 2) (dV 6)) (dIx (dV 2) (dV 4)))) dNil)))) (dSeq (dRet (dC (.bl false))) dNever) dSkip) (dSeq (dIf (dOrT (dCmp pLe (dIx (dV 2) (dBin pSub (dV 4) (dC (.int 1)))) (dIx (dV 2) (dV 4))) (dCmp pLe (dIx (dV 2) (dBin pPlus (dV 5) (dC (.int 1)))) (dIx (dV 2) (dV 4)))) (dSeq (dRet (dC (.bl false))) dNever) dSkip) (dSeq (dRet (dAnd (dBin (bo pNeB) (dIx (dV 3) (dBin pSub (dV 4) (dC (.int 1)))) (dC (.str "?"))) (dCB oAll (dCons (dComp (dRng2 (dCons (dBin pSub (dV 4) (dC (.int 1))) (dCons (dBin pPlus (dV 5) (dC (.int 1))) dNil))) [6] (gdName 6) dYes (dBin (bo pEqB) (dIx (dV 3) (dV 6)) (dIx (dV 3) (dBin pSub (dV 4) (dC (.int 1)))))) dNil)))) dNever))))))
def d_law_is_lock : DDen := dDef 8 .rep b_law_is_lock
def b_law_locks : DenS := (dSeq (dSetW 1 (dLst dNil)) (dSeq (dFor (dRng2 (dCons (dC (.int 1)) (dCons (dBin pSub (dCB oLen (dCons (dIx (dV 0) (dC (.int 0))) dNil)) (dC (.int 1))) dNil))) (gdName 2) (dSeq (dExt 1 (dComp (dRng2 (dCons (dV 2) (dCons (dBin pSub (dCB oLen (dCons (dIx (dV 0) (dC (.int 0))) dNil)) (dC (.int 1))) dNil))) [3] (gdName 3) (dTr (dCall d_law_is_lock (dCons (dV 0) (dCons (dTup (dCons (dV 2) (dCons (dV 3) dNil))) dNil)))) (dTup (dCons (dV 2) (dCons (dV 3) dNil))))) dSkip)) (dSeq (dRet (dV 1)) dNever)))
def d_law_locks : DDen := dDef 4 .frs b_law_locks
def b_wall : DenS := (dSeq (dWhile 100000 (dTr (dC (.bl true))) (dSeq dSkip dSkip)) dSkip)
def d_wall : DDen := dDef 1 .rep b_wall
def b_Laid_init__ : DenS := (dSeq (dSet 4 (dCB oLen (dCons (dV 1) dNil))) (dSeq (dFldS 0 "Laid" "many" (dV 4)) (dSeq (dEnds "Laid" "many" "ends" (dLst (dCons (dC (.int 0)) dNil)) (dEnumA (dCons (dV 1) dNil)) (gdTupA 2 (gdCons (gdName 5) (gdCons (gdName 6) gdNil))) (dBin pPlus (dIx (dFld "Laid" "ends" (dV 0)) (dV 5)) (dIfE (dCmp pEqB (dBin pMod (dV 5) (dC (.int 2))) (dC (.int 0))) (dV 6) (dNeg (dV 6))))) (dSeq (dFldS 0 "Laid" "joints" (dComp (dRng2 (dCons (dC (.int 1)) (dCons (dV 4) dNil))) [7] (gdName 7) dYes (dTup (dCons (dV 7) (dCons (dBin pSub (dV 7) (dC (.int 1))) (dCons (dV 7) dNil)))))) (dSeq (dFldS 0 "Laid" "signs" (dDComp (dRng2 (dCons (dC (.int 1)) (dCons (dV 4) dNil))) [7] (gdName 7) dYes (dV 7) (dIx (dV 2) (dBin pSub (dV 7) (dC (.int 1)))))) (dSeq (dIf (dTr (dV 3)) (dSeq (dFldS 0 "Laid" "joints" (dBin pPlus (dLst (dCons (dTup (dCons (dC (.int 0)) (dCons (dBin pSub (dV 4) (dC (.int 1))) (dCons (dC (.int 0)) dNil)))) dNil)) (dFld "Laid" "joints" (dV 0)))) (dSeq (dFldS 0 "Laid" "signs" (dDComp (dRng1 (dCons (dV 4) dNil)) [7] (gdName 7) dYes (dV 7) (dIx (dV 2) (dV 7)))) dSkip)) dSkip) dSkip))))))
def d_Laid_init__ : DDen := dInit 8 "Laid" b_Laid_init__
def b_Laid_lowest : DenS := (dSeq (dRet (dCB oMin (dCons (dIx (dFld "Laid" "ends" (dV 0)) (dV 1)) (dCons (dIx (dFld "Laid" "ends" (dV 0)) (dBin pPlus (dV 1) (dC (.int 1)))) dNil)))) dNever)
def d_Laid_lowest : DDen := dDef 2 .rep b_Laid_lowest
def b_Laid_highest : DenS := (dSeq (dRet (dCB oMax (dCons (dIx (dFld "Laid" "ends" (dV 0)) (dV 1)) (dCons (dIx (dFld "Laid" "ends" (dV 0)) (dBin pPlus (dV 1) (dC (.int 1)))) dNil)))) dNever)
def d_Laid_highest : DDen := dDef 2 .rep b_Laid_highest
def b_Laid_has_inside : DenS := (dSeq (dRet (dOfT (dChT pLt pLt (dMeth "Laid" "lowest" d_Laid_lowest (dV 0) (dCons (dV 1) dNil)) (dV 2) (dMeth "Laid" "highest" d_Laid_highest (dV 0) (dCons (dV 1) dNil))))) dNever)
def d_Laid_has_inside : DDen := dDef 3 .rep b_Laid_has_inside
def b_Laid_spot_of : DenS := (dSeq (dRet (dIx (dFld "Laid" "ends" (dV 0)) (dV 1))) dNever)
def d_Laid_spot_of : DDen := dDef 2 .rep b_Laid_spot_of
def b_Laid_is_left : DenS := (dSeq (dRet (dBin (bo pEqB) (dMeth "Laid" "highest" d_Laid_highest (dV 0) (dCons (dIx (dV 1) (dC (.int 1))) dNil)) (dMeth "Laid" "spot_of" d_Laid_spot_of (dV 0) (dCons (dIx (dV 1) (dC (.int 0))) dNil)))) dNever)
def d_Laid_is_left : DDen := dDef 2 .rep b_Laid_is_left
def b_Laid_touches : DenS := (dSeq (dRet (dAnd (dBin (bo pEqB) (dMeth "Laid" "spot_of" d_Laid_spot_of (dV 0) (dCons (dIx (dV 1) (dC (.int 0))) dNil)) (dMeth "Laid" "spot_of" d_Laid_spot_of (dV 0) (dCons (dIx (dV 2) (dC (.int 0))) dNil))) (dBin (bo pEqB) (dMeth "Laid" "is_left" d_Laid_is_left (dV 0) (dCons (dV 1) dNil)) (dMeth "Laid" "is_left" d_Laid_is_left (dV 0) (dCons (dV 2) dNil))))) dNever)
def d_Laid_touches : DDen := dDef 3 .rep b_Laid_touches
def b_places_in : DenS := (dSeq (dRet (dDComp (dEnumA (dCons (dV 0) dNil)) [1, 2] (gdTupA 2 (gdCons (gdName 1) (gdCons (gdName 2) gdNil))) dYes (dV 2) (dV 1))) dNever)
def d_places_in : DDen := dDef 3 .frs b_places_in
def b_lies_so : DenS := (dSeq (dIf (dCmp pEqB (dV 0) (dC (.str "?"))) (dSeq (dRet (dC (.bl true))) dNever) dSkip) (dSeq (dAsg (gdTupA 3 (gdCons (gdName 3) (gdCons (gdName 4) (gdCons (gdName 5) gdNil)))) (dV 1)) (dSeq (dSet 6 (dBin (bo pGt) (dIx (dV 2) (dV 5)) (dIx (dV 2) (dV 4)))) (dSeq (dRet (dBin (bo pEqB) (dBin (bo pEqB) (dV 0) (dC (.str "v"))) (dBin (bo pEqB) (dV 6) (dBin (bo pEqB) (dBin pMod (dV 4) (dC (.int 2))) (dC (.int 0)))))) dNever))))
def d_lies_so : DDen := dDef 7 .rep b_lies_so
def b_is_between : DenS := (dSeq (dSet 3 (dCB oSort (dCons (dLst (dCons (dIx (dV 0) (dIx (dV 2) (dC (.int 1)))) (dCons (dIx (dV 0) (dIx (dV 2) (dC (.int 2)))) dNil))) dNil))) (dSeq (dRet (dOfT (dChT pLt pLt (dIx (dV 3) (dC (.int 0))) (dIx (dV 0) (dV 1)) (dIx (dV 3) (dC (.int 1)))))) dNever))
def d_is_between : DDen := dDef 4 .rep b_is_between
def b_told_fault : DenS := (dSeq (dFor (dIt (dV 1)) (gdName 3) (dSeq (dIf (dNotT (dTr (dCall d_lies_so (dCons (dIx (dFld "Laid" "signs" (dV 0)) (dIx (dV 3) (dC (.int 0)))) (dCons (dV 3) (dCons (dV 2) dNil)))))) (dSeq (dRet (dTup (dCons (dC (.str "told")) (dCons (dIx (dV 3) (dC (.int 0))) dNil)))) dNever) dSkip) dSkip)) (dSeq (dRet (dC .non)) dNever))
def d_told_fault : DDen := dDef 4 .rep b_told_fault
def b_pass_fault : DenS := (dSeq (dFor (dIt (dV 1)) (gdName 4) (dSeq (dFor (dIt (dV 2)) (gdName 5) (dSeq (dIf (dAndT (dTr (dMeth "Laid" "has_inside" d_Laid_has_inside (dV 0) (dCons (dV 5) (dCons (dMeth "Laid" "spot_of" d_Laid_spot_of (dV 0) (dCons (dIx (dV 4) (dC (.int 0))) dNil)) dNil)))) (dTr (dCall d_is_between (dCons (dV 3) (dCons (dV 5) (dCons (dV 4) dNil)))))) (dSeq (dRet (dTup (dCons (dC (.str "pass")) (dCons (dIx (dV 4) (dC (.int 0))) (dCons (dV 5) dNil))))) dNever) dSkip) dSkip)) dSkip)) (dSeq (dRet (dC .non)) dNever))
def d_pass_fault : DDen := dDef 6 .rep b_pass_fault
def b_nest_fault : DenS := (dSeq (dFor (dEnumA (dCons (dV 1) dNil)) (gdTupA 2 (gdCons (gdName 3) (gdCons (gdName 4) gdNil))) (dSeq (dFor (dIt (dSl pSl (dV 1) (dSome (dBin pPlus (dV 3) (dC (.int 1)))) dNo)) (gdName 5) (dSeq (dIf (dTr (dMeth "Laid" "touches" d_Laid_touches (dV 0) (dCons (dV 4) (dCons (dV 5) dNil)))) (dSeq (dIf (dCmp pNeB (dCall d_is_between (dCons (dV 2) (dCons (dIx (dV 5) (dC (.int 1))) (dCons (dV 4) dNil)))) (dCall d_is_between (dCons (dV 2) (dCons (dIx (dV 5) (dC (.int 2))) (dCons (dV 4) dNil))))) (dSeq (dRet (dTup (dCons (dC (.str "nest")) (dCons (dIx (dV 4) (dC (.int 0))) (dCons (dIx (dV 5) (dC (.int 0))) dNil))))) dNever) dSkip) dSkip) dSkip) dSkip)) dSkip)) (dSeq (dRet (dC .non)) dNever))
def d_nest_fault : DDen := dDef 6 .rep b_nest_fault
def b_fault_among : DenS := (dSeq (dSet 4 (dCall d_places_in (dCons (dV 3) dNil))) (dSeq (dSet 5 (dCall d_told_fault (dCons (dV 0) (dCons (dV 1) (dCons (dV 4) dNil))))) (dSeq (dIf (dCmp pIs (dV 5) (dC .non)) (dSeq (dSet 5 (dCall d_pass_fault (dCons (dV 0) (dCons (dV 1) (dCons (dV 2) (dCons (dV 4) dNil)))))) dSkip) dSkip) (dSeq (dIf (dCmp pIs (dV 5) (dC .non)) (dSeq (dSet 5 (dCall d_nest_fault (dCons (dV 0) (dCons (dV 1) (dCons (dV 4) dNil))))) dSkip) dSkip) (dSeq (dRet (dV 5)) dNever)))))
def d_fault_among : DDen := dDef 6 .rep b_fault_among
def b_order_fault : DenS := (dSeq (dRet (dCall d_fault_among (dCons (dV 0) (dCons (dFld "Laid" "joints" (dV 0)) (dCons (dLR1 (dFld "Laid" "many" (dV 0))) (dCons (dV 1) dNil)))))) dNever)
def d_order_fault : DDen := dDef 2 .rep b_order_fault
def b_is_order_of : DenS := (dSeq (dIf (dOrT (dNotT (dTr (dCall d_is_list (dCons (dV 1) dNil)))) (dOrT (dCmp pNeB (dCB oLen (dCons (dV 1) dNil)) (dV 0)) (dNotT (dTr (dCB oAll (dCons (dComp (dIt (dV 1)) [2] (gdName 2) dYes (dCall d_is_number (dCons (dV 2) dNil))) dNil)))))) (dSeq (dRet (dC (.bl false))) dNever) dSkip) (dSeq (dRet (dBin (bo pEqB) (dCB oSort (dCons (dCB oListA (dCons (dV 1) dNil)) dNil)) (dLR1 (dV 0)))) dNever))
def d_is_order_of : DDen := dDef 3 .rep b_is_order_of
def b_need_order : DenS := (dSeq (dIf (dNotT (dTr (dCall d_is_order_of (dCons (dV 0) (dCons (dV 1) dNil))))) (dSeq (dRaise "BadOrder" "order" (dCons (dV 1) dNil)) dNever) dSkip) dSkip)
def d_need_order : DDen := dDef 2 .rep b_need_order
def b_laid_strip : DenS := (dSeq (dRet (dMake d_Laid_init__ (dCons (dMeth "Strip" "lengths" d_Strip_lengths (dV 0) dNil) (dCons (dMeth "Strip" "creases" d_Strip_creases (dV 0) dNil) (dCons (dC (.bl false)) dNil))))) dNever)
def d_laid_strip : DDen := dDef 1 .frs b_laid_strip
def b_is_order : DenS := (dSeq (dExpr (dCall d_need_strip (dCons (dV 0) dNil))) (dSeq (dRet (dCall d_is_order_of (dCons (dCB oLen (dCons (dMeth "Strip" "lengths" d_Strip_lengths (dV 0) dNil) dNil)) (dCons (dV 1) dNil)))) dNever))
def d_is_order : DDen := dDef 2 .rep b_is_order
def b_folding_fault : DenS := (dSeq (dExpr (dCall d_need_strip (dCons (dV 0) dNil))) (dSeq (dExpr (dCall d_need_order (dCons (dCB oLen (dCons (dMeth "Strip" "lengths" d_Strip_lengths (dV 0) dNil) dNil)) (dCons (dV 1) dNil)))) (dSeq (dRet (dCall d_order_fault (dCons (dCall d_laid_strip (dCons (dV 0) dNil)) (dCons (dV 1) dNil)))) dNever)))
def d_folding_fault : DDen := dDef 2 .rep b_folding_fault
def b_is_folding : DenS := (dSeq (dRet (dBin (bo pIs) (dCall d_folding_fault (dCons (dV 0) (dCons (dV 1) dNil))) (dC .non))) dNever)
def d_is_folding : DDen := dDef 2 .rep b_is_folding
def b_law_ends : DenS := (dSeq (dSetW 1 (dLst (dCons (dC (.int 0)) dNil))) (dSeq (dFor (dRng1 (dCons (dCB oLen (dCons (dV 0) dNil)) dNil)) (gdName 2) (dSeq (dApp 1 (dBin pPlus (dIx (dV 1) (dV 2)) (dIfE (dCmp pEqB (dBin pMod (dV 2) (dC (.int 2))) (dC (.int 0))) (dIx (dV 0) (dV 2)) (dNeg (dIx (dV 0) (dV 2)))))) dSkip)) (dSeq (dRet (dV 1)) dNever)))
def d_law_ends : DDen := dDef 3 .frs b_law_ends
def b_law_cover : DenS := (dSeq (dSet 2 (dCall d_law_ends (dCons (dV 0) dNil))) (dSeq (dRet (dTup (dCons (dCB oMin (dCons (dIx (dV 2) (dV 1)) (dCons (dIx (dV 2) (dBin pPlus (dV 1) (dC (.int 1)))) dNil))) (dCons (dCB oMax (dCons (dIx (dV 2) (dV 1)) (dCons (dIx (dV 2) (dBin pPlus (dV 1) (dC (.int 1)))) dNil))) dNil)))) dNever))
def d_law_cover : DDen := dDef 3 .rep b_law_cover
def b_law_joints : DenS := (dSeq (dSet 2 (dCB oLen (dCons (dIx (dV 0) (dC (.int 0))) dNil))) (dSeq (dIf (dTr (dV 1)) (dSeq (dRet (dComp (dRng1 (dCons (dV 2) dNil)) [3] (gdName 3) dYes (dTup (dCons (dV 3) (dCons (dBin pMod (dBin pSub (dV 3) (dC (.int 1))) (dV 2)) (dCons (dV 3) (dCons (dIx (dIx (dV 0) (dC (.int 1))) (dV 3)) dNil))))))) dNever) dSkip) (dSeq (dRet (dComp (dRng2 (dCons (dC (.int 1)) (dCons (dV 2) dNil))) [3] (gdName 3) dYes (dTup (dCons (dV 3) (dCons (dBin pSub (dV 3) (dC (.int 1))) (dCons (dV 3) (dCons (dIx (dIx (dV 0) (dC (.int 1))) (dBin pSub (dV 3) (dC (.int 1)))) dNil))))))) dNever)))
def d_law_joints : DDen := dDef 4 .frs b_law_joints
def b_law_lies_so : DenS := (dSeq (dIf (dCmp pEqB (dV 0) (dC (.str "?"))) (dSeq (dRet (dC (.bl true))) dNever) dSkip) (dSeq (dRet (dBin (bo pEqB) (dBin (bo pEqB) (dV 0) (dC (.str "v"))) (dBin (bo pEqB) (dV 2) (dBin (bo pEqB) (dBin pMod (dV 1) (dC (.int 2))) (dC (.int 0)))))) dNever))
def d_law_lies_so : DDen := dDef 3 .rep b_law_lies_so
def b_law_lies_between : DenS := (dSeq (dSet 4 (dCB oSort (dCons (dLst (dCons (dIdx (dV 0) (dV 2)) (dCons (dIdx (dV 0) (dV 3)) dNil))) dNil))) (dSeq (dRet (dOfT (dChT pLt pLt (dIx (dV 4) (dC (.int 0))) (dIdx (dV 0) (dV 1)) (dIx (dV 4) (dC (.int 1)))))) dNever))
def d_law_lies_between : DDen := dDef 5 .rep b_law_lies_between
def b_law_joint_faults : DenS := (dSeq (dFor (dIt (dV 2)) (gdTupA 4 (gdCons (gdName 3) (gdCons (gdName 4) (gdCons (gdName 5) (gdCons (gdName 6) gdNil))))) (dSeq (dIf (dNotT (dTr (dCall d_law_lies_so (dCons (dV 6) (dCons (dV 4) (dCons (dBin (bo pGt) (dIdx (dV 1) (dV 5)) (dIdx (dV 1) (dV 4))) dNil)))))) (dSeq (dRet (dTup (dCons (dC (.str "told")) (dCons (dV 3) dNil)))) dNever) dSkip) dSkip)) (dSeq (dRet (dC .non)) dNever))
def d_law_joint_faults : DDen := dDef 7 .rep b_law_joint_faults
def b_law_fault_among : DenS := (dSeq (dPar 4 5 (dCall d_law_joint_faults (dCons (dV 0) (dCons (dV 1) (dCons (dV 2) dNil)))) (dCall d_law_ends (dCons (dIx (dV 0) (dC (.int 0))) dNil))) (dSeq (dIf (dCmp pIsnt (dV 4) (dC .non)) (dSeq (dRet (dV 4)) dNever) dSkip) (dSeq (dFor (dIt (dV 2)) (gdTupA 4 (gdCons (gdName 6) (gdCons (gdName 7) (gdCons (gdName 8) (gdCons (gdName 9) gdNil))))) (dSeq (dFor (dIt (dV 3)) (gdName 11) (dSeq (dAsg (gdTupA 2 (gdCons (gdName 16) (gdCons (gdName 17) gdNil))) (dCall d_law_cover (dCons (dIx (dV 0) (dC (.int 0))) (dCons (dV 11) dNil)))) (dSeq (dIf (dAndT (dChT pLt pLt (dV 16) (dIx (dV 5) (dV 6)) (dV 17)) (dTr (dCall d_law_lies_between (dCons (dV 1) (dCons (dV 11) (dCons (dV 7) (dCons (dV 8) dNil))))))) (dSeq (dRet (dTup (dCons (dC (.str "pass")) (dCons (dV 6) (dCons (dV 11) dNil))))) dNever) dSkip) dSkip))) dSkip)) (dSeq (dFor (dRng1 (dCons (dCB oLen (dCons (dV 2) dNil)) dNil)) (gdName 10) (dSeq (dAsg (gdTupA 4 (gdCons (gdName 6) (gdCons (gdName 7) (gdCons (gdName 8) (gdCons (gdName 9) gdNil))))) (dIx (dV 2) (dV 10))) (dSeq (dFor (dIt (dSl pSl (dV 2) (dSome (dBin pPlus (dV 10) (dC (.int 1)))) dNo)) (gdTupA 4 (gdCons (gdName 12) (gdCons (gdName 13) (gdCons (gdName 14) (gdCons (gdName 15) gdNil))))) (dSeq (dIf (dAndT (dCmp pEqB (dIx (dV 5) (dV 12)) (dIx (dV 5) (dV 6))) (dCmp pEqB (dBin (bo pEqB) (dIx (dCall d_law_cover (dCons (dIx (dV 0) (dC (.int 0))) (dCons (dV 13) dNil))) (dC (.int 1))) (dIx (dV 5) (dV 12))) (dBin (bo pEqB) (dIx (dCall d_law_cover (dCons (dIx (dV 0) (dC (.int 0))) (dCons (dV 7) dNil))) (dC (.int 1))) (dIx (dV 5) (dV 6))))) (dSeq (dIf (dCmp pNeB (dCall d_law_lies_between (dCons (dV 1) (dCons (dV 13) (dCons (dV 7) (dCons (dV 8) dNil))))) (dCall d_law_lies_between (dCons (dV 1) (dCons (dV 14) (dCons (dV 7) (dCons (dV 8) dNil)))))) (dSeq (dRet (dTup (dCons (dC (.str "nest")) (dCons (dV 6) (dCons (dV 12) dNil))))) dNever) dSkip) dSkip) dSkip) dSkip)) dSkip))) (dSeq (dRet (dC .non)) dNever)))))
def d_law_fault_among : DDen := dDef 18 .rep b_law_fault_among
def b_law_fault : DenS := (dSeq (dRet (dCall d_law_fault_among (dCons (dV 0) (dCons (dV 1) (dCons (dCall d_law_joints (dCons (dV 0) (dCons (dC (.bl false)) dNil))) (dCons (dLR1 (dCB oLen (dCons (dIx (dV 0) (dC (.int 0))) dNil))) dNil)))))) dNever)
def d_law_fault : DDen := dDef 2 .rep b_law_fault
def b_law_foldings : DenS := (dSeq (dSet 1 (dLst (dCons (dLst (dCons (dC (.int 0)) dNil)) dNil))) (dSeq (dFor (dRng2 (dCons (dC (.int 1)) (dCons (dCB oLen (dCons (dIx (dV 0) (dC (.int 0))) dNil)) dNil))) (gdName 2) (dSeq (dParW 3 4 (dLst (dCons (dSl pSl (dIx (dV 0) (dC (.int 0))) dNo (dSome (dBin pPlus (dV 2) (dC (.int 1))))) (dCons (dSl pSl (dIx (dV 0) (dC (.int 1))) dNo (dSome (dV 2))) dNil))) (dLst dNil)) (dSeq (dFor (dIt (dV 1)) (gdName 5) (dSeq (dFor (dRng1 (dCons (dBin pPlus (dCB oLen (dCons (dV 5) dNil)) (dC (.int 1))) dNil)) (gdName 6) (dSeq (dSet 7 (dBin pPlus (dBin pPlus (dSl pSl (dV 5) dNo (dSome (dV 6))) (dLst (dCons (dV 2) dNil))) (dSl pSl (dV 5) (dSome (dV 6)) dNo))) (dSeq (dIf (dCmp pIs (dCall d_law_fault (dCons (dV 3) (dCons (dV 7) dNil))) (dC .non)) (dSeq (dApp 4 (dV 7)) dSkip) dSkip) dSkip))) dSkip)) (dSeq (dSet 1 (dV 4)) dSkip)))) (dSeq (dRet (dV 1)) dNever)))
def d_law_foldings : DDen := dDef 8 .rep b_law_foldings
def b_law_is_order : DenS := (dSeq (dIf (dOrT (dNotT (dTr (dIsa2 "list" "tuple" (dV 1)))) (dOrT (dCmp pNeB (dCB oLen (dCons (dV 1) dNil)) (dV 0)) (dNotT (dTr (dCB oAll (dCons (dComp (dIt (dV 1)) [2] (gdName 2) dYes (dCall d_law_is_number (dCons (dV 2) dNil))) dNil)))))) (dSeq (dRet (dC (.bl false))) dNever) dSkip) (dSeq (dRet (dBin (bo pEqB) (dCB oSort (dCons (dCB oListA (dCons (dV 1) dNil)) dNil)) (dLR1 (dV 0)))) dNever))
def d_law_is_order : DDen := dDef 3 .rep b_law_is_order
def b_law_odd_orders : DenS := (dSeq (dSet 1 (dLst (dCons (dC .non) (dCons (dC (.int 5)) (dCons (dC (.str "order")) (dCons (dLst dNil) (dCons (dLR1 (dBin pPlus (dV 0) (dC (.int 1)))) (dCons (dSl pSl (dLR1 (dV 0)) dNo (dSome (dNeg (dC (.int 1))))) (dCons (dBin pTimes (dLst (dCons (dC .non) dNil)) (dV 0)) (dCons (dBin pPlus (dLst (dCons (dNeg (dC (.int 1))) dNil)) (dLR2 (dC (.int 1)) (dV 0))) (dCons dDNew (dCons (dC (.bl true)) (dCons (dBin pPlus (dLst (dCons (dV 0) dNil)) (dLR2 (dC (.int 1)) (dV 0))) dNil))))))))))))) (dSeq (dRet (dBin pCat (dV 1) (dIfE (dCmp pGt (dV 0) (dC (.int 1))) (dLst (dCons (dBin pTimes (dLst (dCons (dC (.int 0)) dNil)) (dV 0)) (dCons (dBin pPlus (dLR1 (dBin pSub (dV 0) (dC (.int 1)))) (dLst (dCons (dC (.int 0)) dNil))) (dCons (dBin pPlus (dLst (dCons (dC (.int 1)) dNil)) (dLR2 (dC (.int 1)) (dV 0))) dNil)))) (dLst (dCons (dLst (dCons (dC (.bl true)) dNil)) (dCons (dLst (dCons (dC (.bl false)) dNil)) (dCons (dLst (dCons (dC (.str "0")) dNil)) dNil))))))) dNever))
def d_law_odd_orders : DDen := dDef 2 .frs b_law_odd_orders
def b_law_some_orders : DenS := (dSeq (dSet 2 (dCB oLen (dCons (dIx (dV 1) (dC (.int 0))) dNil))) (dSeq (dSetW 3 (dComp (dRng1 (dCons (dC (.int 4)) dNil)) [5] (gdName 5) dYes (dCall d_law_mixed (dCons (dV 0) (dCons (dLR1 (dV 2)) dNil))))) (dSeq (dIf (dCmp pLt (dV 2) (dC (.int 7))) (dSeq (dSet 4 (dCall d_law_foldings (dCons (dV 1) dNil))) (dSeq (dFor (dRng1 (dCons (dIfE (dCmp pNeB (dV 4) (dLst dNil)) (dC (.int 3)) (dC (.int 0))) dNil)) (gdName 5) (dSeq (dSetW 6 (dCB oListA (dCons (dCall d_law_one (dCons (dV 0) (dCons (dV 4) dNil))) dNil))) (dSeq (dApp 3 (dCB oListA (dCons (dV 6) dNil))) (dSeq (dPar 7 8 (dCall d_law_pick (dCons (dV 0) (dCons (dV 2) dNil))) (dCall d_law_pick (dCons (dV 0) (dCons (dV 2) dNil)))) (dSeq (dPut2 6 (dV 7) (dV 8) (dIx (dV 6) (dV 8)) (dIx (dV 6) (dV 7))) (dSeq (dApp 3 (dV 6)) dSkip)))))) dSkip)) dSkip) (dSeq (dRet (dV 3)) dNever))))
def d_law_some_orders : DDen := dDef 9 .frs b_law_some_orders
def b_can_crimp : DenS := (dSeq (dIf (dOrT (dCmp pGt (dIx (dV 0) (dV 2)) (dIx (dV 0) (dBin pSub (dV 2) (dC (.int 1))))) (dCmp pGt (dIx (dV 0) (dV 2)) (dIx (dV 0) (dBin pPlus (dV 2) (dC (.int 1)))))) (dSeq (dRet (dC (.bl false))) dNever) dSkip) (dSeq (dSet 3 (dTup (dCons (dIx (dV 1) (dBin pSub (dV 2) (dC (.int 1)))) (dCons (dIx (dV 1) (dV 2)) dNil)))) (dSeq (dRet (dAnd (dBin (bo pNinA) (dC (.str "?")) (dV 3)) (dBin (bo pNeB) (dIx (dV 3) (dC (.int 0))) (dIx (dV 3) (dC (.int 1)))))) dNever)))
def d_can_crimp : DDen := dDef 4 .rep b_can_crimp
def b_steps_of : DenS := (dSeq (dSet 2 (dCB oLen (dCons (dV 0) dNil))) (dSeq (dSetW 3 (dLst dNil)) (dSeq (dIf (dAndT (dCmp pGt (dV 2) (dC (.int 1))) (dCmp pLe (dIx (dV 0) (dC (.int 0))) (dIx (dV 0) (dC (.int 1))))) (dSeq (dApp 3 (dTup (dCons (dC (.str "end")) (dCons (dC (.int 0)) dNil)))) dSkip) dSkip) (dSeq (dIf (dAndT (dCmp pGt (dV 2) (dC (.int 1))) (dCmp pLe (dIx (dV 0) (dBin pSub (dV 2) (dC (.int 1)))) (dIx (dV 0) (dBin pSub (dV 2) (dC (.int 2)))))) (dSeq (dApp 3 (dTup (dCons (dC (.str "end")) (dCons (dBin pSub (dV 2) (dC (.int 1))) dNil)))) dSkip) dSkip) (dSeq (dRet (dBin pCat (dV 3) (dComp (dRng2 (dCons (dC (.int 1)) (dCons (dBin pSub (dV 2) (dC (.int 1))) dNil))) [4] (gdName 4) (dTr (dCall d_can_crimp (dCons (dV 0) (dCons (dV 1) (dCons (dV 4) dNil))))) (dTup (dCons (dC (.str "crimp")) (dCons (dV 4) dNil)))))) dNever)))))
def d_steps_of : DDen := dDef 5 .frs b_steps_of
def b_steps : DenS := (dSeq (dExpr (dCall d_need_strip (dCons (dV 0) dNil))) (dSeq (dRet (dCall d_steps_of (dCons (dMeth "Strip" "lengths" d_Strip_lengths (dV 0) dNil) (dCons (dMeth "Strip" "creases" d_Strip_creases (dV 0) dNil) dNil)))) dNever))
def d_steps : DDen := dDef 1 .frs b_steps
def b_step_in : DenS := (dSeq (dIf (dOrT (dNotT (dTr (dCall d_is_row (dCons (dV 2) (dCons (dC (.int 2)) dNil))))) (dNotT (dTr (dCall d_is_number (dCons (dIx (dV 2) (dC (.int 1))) dNil))))) (dSeq (dRet (dC .non)) dNever) dSkip) (dSeq (dFor (dIt (dCall d_steps_of (dCons (dV 0) (dCons (dV 1) dNil)))) (gdName 3) (dSeq (dIf (dAndT (dCmp pEqB (dIx (dV 2) (dC (.int 0))) (dIx (dV 3) (dC (.int 0)))) (dCmp pEqB (dIx (dV 2) (dC (.int 1))) (dIx (dV 3) (dC (.int 1))))) (dSeq (dRet (dV 3)) dNever) dSkip) dSkip)) (dSeq (dRet (dC .non)) dNever)))
def d_step_in : DDen := dDef 4 .rep b_step_in
def b_parts_after : DenS := (dSeq (dAsg (gdTupA 2 (gdCons (gdName 3) (gdCons (gdName 4) gdNil))) (dV 2)) (dSeq (dIf (dAndT (dCmp pEqB (dV 3) (dC (.str "end"))) (dCmp pEqB (dV 4) (dC (.int 0)))) (dSeq (dRet (dTup (dCons (dSl pSl (dV 0) (dSome (dC (.int 1))) dNo) (dCons (dSl pSl (dV 1) (dSome (dC (.int 1))) dNo) dNil)))) dNever) dSkip) (dSeq (dIf (dCmp pEqB (dV 3) (dC (.str "end"))) (dSeq (dRet (dTup (dCons (dSl pSl (dV 0) dNo (dSome (dNeg (dC (.int 1))))) (dCons (dSl pSl (dV 1) dNo (dSome (dNeg (dC (.int 1))))) dNil)))) dNever) dSkip) (dSeq (dSet 5 (dBin pPlus (dBin pSub (dIx (dV 0) (dBin pSub (dV 4) (dC (.int 1)))) (dIx (dV 0) (dV 4))) (dIx (dV 0) (dBin pPlus (dV 4) (dC (.int 1)))))) (dSeq (dRet (dTup (dCons (dBin pPlus (dBin pPlus (dSl pSl (dV 0) dNo (dSome (dBin pSub (dV 4) (dC (.int 1))))) (dLst (dCons (dV 5) dNil))) (dSl pSl (dV 0) (dSome (dBin pPlus (dV 4) (dC (.int 2)))) dNo)) (dCons (dBin pPlus (dSl pSl (dV 1) dNo (dSome (dBin pSub (dV 4) (dC (.int 1))))) (dSl pSl (dV 1) (dSome (dBin pPlus (dV 4) (dC (.int 1)))) dNo)) dNil)))) dNever)))))
def d_parts_after : DDen := dDef 6 .rep b_parts_after
def b_after : DenS := (dSeq (dExpr (dCall d_need_strip (dCons (dV 0) dNil))) (dSeq (dSet 2 (dCall d_step_in (dCons (dMeth "Strip" "lengths" d_Strip_lengths (dV 0) dNil) (dCons (dMeth "Strip" "creases" d_Strip_creases (dV 0) dNil) (dCons (dV 1) dNil))))) (dSeq (dIf (dCmp pIs (dV 2) (dC .non)) (dSeq (dRaise "BadStep" "step" (dCons (dV 1) dNil)) dNever) dSkip) (dSeq (dAsg (gdTupA 2 (gdCons (gdName 3) (gdCons (gdName 4) gdNil))) (dCall d_parts_after (dCons (dMeth "Strip" "lengths" d_Strip_lengths (dV 0) dNil) (dCons (dMeth "Strip" "creases" d_Strip_creases (dV 0) dNil) (dCons (dV 2) dNil))))) (dSeq (dRet (dMake d_Strip_init__ (dCons (dV 3) (dCons (dV 4) dNil)))) dNever)))))
def d_after : DDen := dDef 5 .frs b_after
def b_law_steps : DenS := (dSeq (dPar3W 1 2 3 (dIx (dV 0) (dC (.int 0))) (dIx (dV 0) (dC (.int 1))) (dLst dNil)) (dSeq (dSet 4 (dCB oLen (dCons (dV 1) dNil))) (dSeq (dIf (dAndT (dCmp pGt (dV 4) (dC (.int 1))) (dCmp pLe (dIx (dV 1) (dC (.int 0))) (dIx (dV 1) (dC (.int 1))))) (dSeq (dApp 3 (dTup (dCons (dC (.str "end")) (dCons (dC (.int 0)) dNil)))) dSkip) dSkip) (dSeq (dIf (dAndT (dCmp pGt (dV 4) (dC (.int 1))) (dCmp pLe (dIx (dV 1) (dNeg (dC (.int 1)))) (dIx (dV 1) (dNeg (dC (.int 2)))))) (dSeq (dApp 3 (dTup (dCons (dC (.str "end")) (dCons (dBin pSub (dV 4) (dC (.int 1))) dNil)))) dSkip) dSkip) (dSeq (dFor (dRng2 (dCons (dC (.int 1)) (dCons (dBin pSub (dV 4) (dC (.int 1))) dNil))) (gdName 5) (dSeq (dIf (dAndT (dCmp pLe (dIx (dV 1) (dV 5)) (dCB oMin (dCons (dIx (dV 1) (dBin pSub (dV 5) (dC (.int 1)))) (dCons (dIx (dV 1) (dBin pPlus (dV 5) (dC (.int 1)))) dNil)))) (dCmp pEqB (dCB oSortS2 (dCons (dLst (dCons (dIx (dV 2) (dBin pSub (dV 5) (dC (.int 1)))) (dCons (dIx (dV 2) (dV 5)) dNil))) dNil)) (dLst (dCons (dC (.str "m")) (dCons (dC (.str "v")) dNil))))) (dSeq (dApp 3 (dTup (dCons (dC (.str "crimp")) (dCons (dV 5) dNil)))) dSkip) dSkip) dSkip)) (dSeq (dRet (dV 3)) dNever))))))
def d_law_steps : DDen := dDef 6 .frs b_law_steps
def b_law_after : DenS := (dSeq (dAsg (gdTupA 2 (gdCons (gdName 2) (gdCons (gdName 3) gdNil))) (dV 0)) (dSeq (dAsg (gdTupA 2 (gdCons (gdName 4) (gdCons (gdName 5) gdNil))) (dV 1)) (dSeq (dIf (dCmp pEqB (dV 4) (dC (.str "end"))) (dSeq (dRet (dIfE (dCmp pEqB (dV 5) (dC (.int 0))) (dLst (dCons (dSl pSl (dV 2) (dSome (dC (.int 1))) dNo) (dCons (dSl pSl (dV 3) (dSome (dC (.int 1))) dNo) dNil))) (dLst (dCons (dSl pSl (dV 2) dNo (dSome (dNeg (dC (.int 1))))) (dCons (dSl pSl (dV 3) dNo (dSome (dNeg (dC (.int 1))))) dNil))))) dNever) dSkip) (dSeq (dSet 6 (dBin pPlus (dBin pSub (dIx (dV 2) (dBin pSub (dV 5) (dC (.int 1)))) (dIx (dV 2) (dV 5))) (dIx (dV 2) (dBin pPlus (dV 5) (dC (.int 1)))))) (dSeq (dRet (dLst (dCons (dBin pPlus (dBin pPlus (dSl pSl (dV 2) dNo (dSome (dBin pSub (dV 5) (dC (.int 1))))) (dLst (dCons (dV 6) dNil))) (dSl pSl (dV 2) (dSome (dBin pPlus (dV 5) (dC (.int 2)))) dNo)) (dCons (dBin pPlus (dSl pSl (dV 3) dNo (dSome (dBin pSub (dV 5) (dC (.int 1))))) (dSl pSl (dV 3) (dSome (dBin pPlus (dV 5) (dC (.int 1)))) dNo)) dNil)))) dNever)))))
def d_law_after : DDen := dDef 7 .frs b_law_after
def b_law_odd_steps : DenS := (dSeq (dAsg (gdTupA 2 (gdCons (gdName 2) (gdCons (gdName 3) gdNil))) (dTup (dCons (dCB oLen (dCons (dIx (dV 1) (dC (.int 0))) dNil)) (dCons (dCall d_law_steps (dCons (dV 1) dNil)) dNil)))) (dSeq (dSetW 4 (dLst (dCons (dC .non) (dCons (dC (.int 5)) (dCons (dC (.str "end")) (dCons (dLst dNil) (dCons (dTup (dCons (dC (.str "end")) dNil)) (dCons (dTup (dCons (dC (.str "end")) (dCons (dC (.int 0)) (dCons (dC (.int 0)) dNil)))) (dCons (dTup (dCons (dC (.str "End")) (dCons (dC (.int 0)) dNil))) (dCons (dTup (dCons (dC (.str "end")) (dCons (dNeg (dC (.int 1))) dNil))) (dCons (dTup (dCons (dC (.str "end")) (dCons (dC .non) dNil))) (dCons (dTup (dCons (dC (.str "end")) (dCons (dC (.bl true)) dNil))) (dCons (dTup (dCons (dC (.str "crimp")) (dCons (dC (.int 0)) dNil))) (dCons (dTup (dCons (dC (.str "crimp")) (dCons (dBin pSub (dV 2) (dC (.int 1))) dNil))) (dCons (dLst (dCons (dC (.str "crimp")) dNil)) (dCons dDNew (dCons (dTup (dCons (dC (.int 0)) (dCons (dC (.str "end")) dNil))) dNil))))))))))))))))) (dSeq (dFor (dRng1 (dCons (dBin pPlus (dV 2) (dC (.int 1))) dNil)) (gdName 5) (dSeq (dExt 4 (dComp (dIt (dTup (dCons (dTup (dCons (dC (.str "end")) (dCons (dV 5) dNil))) (dCons (dTup (dCons (dC (.str "crimp")) (dCons (dV 5) dNil))) dNil)))) [6] (gdName 6) (dCmp pNinA (dV 6) (dV 3)) (dV 6))) dSkip)) (dSeq (dRet (dV 4)) dNever))))
def d_law_odd_steps : DDen := dDef 7 .frs b_law_odd_steps
def b_told_creases : DenS := (dSeq (dRet (dComp (dEnumA (dCons (dMeth "Strip" "creases" d_Strip_creases (dV 0) dNil) dNil)) [1, 2] (gdTupA 2 (gdCons (gdName 1) (gdCons (gdName 2) gdNil))) (dCmp pNeB (dV 2) (dC (.str "?"))) (dBin pPlus (dV 1) (dC (.int 1))))) dNever)
def d_told_creases : DDen := dDef 3 .frs b_told_creases
def b_check_told : DenS := (dSeq (dSet 2 (dCall d_told_creases (dCons (dV 0) dNil))) (dSeq (dIf (dOrT (dNotT (dTr (dCall d_is_list (dCons (dV 1) dNil)))) (dNotT (dTr (dCB oAll (dCons (dComp (dIt (dV 1)) [3] (gdName 3) dYes (dAnd (dCall d_is_number (dCons (dV 3) dNil)) (dBin (bo pInA) (dV 3) (dV 2)))) dNil))))) (dSeq (dRaise "BadFreed" "some" (dCons (dV 1) dNil)) dNever) dSkip) (dSeq (dIf (dCmp pNeB (dCB oLen (dCons (dDComp (dIt (dV 1)) [3] (gdName 3) dYes (dV 3) (dC (.bl true))) dNil)) (dCB oLen (dCons (dV 1) dNil))) (dSeq (dRaise "BadFreed" "some" (dCons (dV 1) dNil)) dNever) dSkip) dSkip)))
def d_check_told : DDen := dDef 4 .rep b_check_told
def b_with_free : DenS := (dSeq (dSetW 2 (dMeth "Strip" "creases" d_Strip_creases (dV 0) dNil)) (dSeq (dFor (dIt (dV 1)) (gdName 3) (dSeq (dPut 2 (dBin pSub (dV 3) (dC (.int 1))) (dC (.str "?"))) dSkip)) (dSeq (dRet (dMake d_Strip_init__ (dCons (dMeth "Strip" "lengths" d_Strip_lengths (dV 0) dNil) (dCons (dV 2) dNil)))) dNever)))
def d_with_free : DDen := dDef 4 .frs b_with_free
def b_freed_at : DenS := (dSeq (dExpr (dCall d_need_strip (dCons (dV 0) dNil))) (dSeq (dExpr (dCall d_check_told (dCons (dV 0) (dCons (dV 1) dNil)))) (dSeq (dRet (dCall d_with_free (dCons (dV 0) (dCons (dV 1) dNil)))) dNever)))
def d_freed_at : DDen := dDef 2 .frs b_freed_at
def b_turned_at : DenS := (dSeq (dExpr (dCall d_need_strip (dCons (dV 0) dNil))) (dSeq (dExpr (dCall d_check_told (dCons (dV 0) (dCons (dV 1) dNil)))) (dSeq (dSetW 2 (dMeth "Strip" "creases" d_Strip_creases (dV 0) dNil)) (dSeq (dFor (dIt (dV 1)) (gdName 3) (dSeq (dPut 2 (dBin pSub (dV 3) (dC (.int 1))) (dIfE (dCmp pEqB (dIx (dV 2) (dBin pSub (dV 3) (dC (.int 1)))) (dC (.str "m"))) (dC (.str "v")) (dC (.str "m")))) dSkip)) (dSeq (dRet (dMake d_Strip_init__ (dCons (dMeth "Strip" "lengths" d_Strip_lengths (dV 0) dNil) (dCons (dV 2) dNil)))) dNever)))))
def d_turned_at : DDen := dDef 4 .frs b_turned_at
def b_law_letters_at : DenS := (dSeq (dSetW 3 (dCB oListA (dCons (dIx (dV 0) (dC (.int 1))) dNil))) (dSeq (dFor (dIt (dV 1)) (gdName 4) (dSeq (dPut 3 (dBin pSub (dV 4) (dC (.int 1))) (dV 2)) dSkip)) (dSeq (dRet (dLst (dCons (dIx (dV 0) (dC (.int 0))) (dCons (dV 3) dNil)))) dNever)))
def d_law_letters_at : DDen := dDef 5 .frs b_law_letters_at
def b_law_turn_at : DenS := (dSeq (dSetW 2 (dCB oListA (dCons (dIx (dV 0) (dC (.int 1))) dNil))) (dSeq (dFor (dIt (dV 1)) (gdName 3) (dSeq (dPut 2 (dBin pSub (dV 3) (dC (.int 1))) (dIfE (dCmp pEqB (dIx (dV 2) (dBin pSub (dV 3) (dC (.int 1)))) (dC (.str "m"))) (dC (.str "v")) (dC (.str "m")))) dSkip)) (dSeq (dRet (dLst (dCons (dIx (dV 0) (dC (.int 0))) (dCons (dV 2) dNil)))) dNever)))
def d_law_turn_at : DDen := dDef 4 .frs b_law_turn_at
def b_law_free_at : DenS := (dSeq (dRet (dComp (dRng1 (dCons (dCB oLen (dCons (dIx (dV 0) (dC (.int 1))) dNil)) dNil)) [1] (gdName 1) (dCmp pEqB (dIx (dIx (dV 0) (dC (.int 1))) (dV 1)) (dC (.str "?"))) (dBin pPlus (dV 1) (dC (.int 1))))) dNever)
def d_law_free_at : DDen := dDef 2 .frs b_law_free_at
def b_law_tells : DenS := (dSeq (dRet (dAnd (dIsInG "Strip" (dV 0)) (dAnd (dCall d_law_same (dCons (dMeth "Strip" "lengths" d_Strip_lengths (dV 0) dNil) (dCons (dCB oListA (dCons (dIx (dV 1) (dC (.int 0))) dNil)) dNil))) (dCall d_law_same (dCons (dMeth "Strip" "creases" d_Strip_creases (dV 0) dNil) (dCons (dCB oListA (dCons (dIx (dV 1) (dC (.int 1))) dNil)) dNil)))))) dNever)
def d_law_tells : DDen := dDef 2 .rep b_law_tells
def b_parts_done : DenS := (dSeq (dIf (dNotT (dTr (dCall d_is_list (dCons (dV 2) dNil)))) (dSeq (dRet (dTup (dCons (dC .non) (dCons (dC .non) (dCons (dC (.int 0)) dNil))))) dNever) dSkip) (dSeq (dFor (dEnumA (dCons (dV 2) dNil)) (gdTupA 2 (gdCons (gdName 3) (gdCons (gdName 4) gdNil))) (dSeq (dSet 5 (dCall d_step_in (dCons (dV 0) (dCons (dV 1) (dCons (dV 4) dNil))))) (dSeq (dIf (dCmp pIs (dV 5) (dC .non)) (dSeq (dRet (dTup (dCons (dC .non) (dCons (dC .non) (dCons (dV 3) dNil))))) dNever) dSkip) (dSeq (dAsg (gdTupA 2 (gdCons (gdName 0) (gdCons (gdName 1) gdNil))) (dCall d_parts_after (dCons (dV 0) (dCons (dV 1) (dCons (dV 5) dNil))))) dSkip)))) (dSeq (dRet (dTup (dCons (dV 0) (dCons (dV 1) (dCons (dC .non) dNil))))) dNever)))
def d_parts_done : DDen := dDef 6 .rep b_parts_done
def b_done : DenS := (dSeq (dExpr (dCall d_need_strip (dCons (dV 0) dNil))) (dSeq (dAsg (gdTupA 3 (gdCons (gdName 2) (gdCons (gdName 3) (gdCons (gdName 4) gdNil)))) (dCall d_parts_done (dCons (dMeth "Strip" "lengths" d_Strip_lengths (dV 0) dNil) (dCons (dMeth "Strip" "creases" d_Strip_creases (dV 0) dNil) (dCons (dV 1) dNil))))) (dSeq (dIf (dCmp pIsnt (dV 4) (dC .non)) (dSeq (dRaise "BadSteps" "index" (dCons (dV 4) dNil)) dNever) dSkip) (dSeq (dRet (dMake d_Strip_init__ (dCons (dV 2) (dCons (dV 3) dNil)))) dNever))))
def d_done : DDen := dDef 5 .frs b_done
def b_law_done : DenS := (dSeq (dIf (dNotT (dTr (dIsa2 "list" "tuple" (dV 1)))) (dSeq (dRet (dTup (dCons (dC .non) (dCons (dC (.int 0)) dNil)))) dNever) dSkip) (dSeq (dFor (dRng1 (dCons (dCB oLen (dCons (dV 1) dNil)) dNil)) (gdName 2) (dSeq (dSet 3 (dIx (dV 1) (dV 2))) (dSeq (dIf (dOrT (dNotT (dTr (dIsa2 "list" "tuple" (dV 3)))) (dOrT (dCmp pNeB (dCB oLen (dCons (dV 3) dNil)) (dC (.int 2))) (dOrT (dNotT (dTr (dIsa "str" (dIx (dV 3) (dC (.int 0)))))) (dNotT (dTr (dCall d_law_is_number (dCons (dIx (dV 3) (dC (.int 1))) dNil))))))) (dSeq (dRet (dTup (dCons (dC .non) (dCons (dV 2) dNil)))) dNever) dSkip) (dSeq (dIf (dCmp pNinA (dTup (dCons (dIx (dV 3) (dC (.int 0))) (dCons (dIx (dV 3) (dC (.int 1))) dNil))) (dCall d_law_steps (dCons (dV 0) dNil))) (dSeq (dRet (dTup (dCons (dC .non) (dCons (dV 2) dNil)))) dNever) dSkip) (dSeq (dSet 0 (dCall d_law_after (dCons (dV 0) (dCons (dTup (dCons (dIx (dV 3) (dC (.int 0))) (dCons (dIx (dV 3) (dC (.int 1))) dNil))) dNil)))) dSkip))))) (dSeq (dRet (dTup (dCons (dV 0) (dCons (dC .non) dNil)))) dNever)))
def d_law_done : DDen := dDef 4 .rep b_law_done
def b_law_down : DenS := (dSeq (dSetW 2 (dLst dNil)) (dSeq (dWhile 100000 (dCmp pNeB (dCall d_law_steps (dCons (dV 1) dNil)) (dLst dNil)) (dSeq (dApp 2 (dCall d_law_one (dCons (dV 0) (dCons (dCall d_law_steps (dCons (dV 1) dNil)) dNil)))) (dSeq (dSet 1 (dCall d_law_after (dCons (dV 1) (dCons (dIx (dV 2) (dNeg (dC (.int 1)))) dNil)))) dSkip))) (dSeq (dRet (dTup (dCons (dV 2) (dCons (dV 1) dNil)))) dNever)))
def d_law_down : DDen := dDef 3 .rep b_law_down
def b_Laid_have_common : DenS := (dSeq (dRet (dBin (bo pLt) (dCB oMax (dCons (dMeth "Laid" "lowest" d_Laid_lowest (dV 0) (dCons (dV 1) dNil)) (dCons (dMeth "Laid" "lowest" d_Laid_lowest (dV 0) (dCons (dV 2) dNil)) dNil))) (dCB oMin (dCons (dMeth "Laid" "highest" d_Laid_highest (dV 0) (dCons (dV 1) dNil)) (dCons (dMeth "Laid" "highest" d_Laid_highest (dV 0) (dCons (dV 2) dNil)) dNil))))) dNever)
def d_Laid_have_common : DDen := dDef 3 .rep b_Laid_have_common
def b_pairs_over : DenS := (dSeq (dSetW 2 (dLst dNil)) (dSeq (dFor (dEnumA (dCons (dV 1) dNil)) (gdTupA 2 (gdCons (gdName 3) (gdCons (gdName 4) gdNil))) (dSeq (dExt 2 (dComp (dIt (dSl pSl (dV 1) (dSome (dBin pPlus (dV 3) (dC (.int 1)))) dNo)) [5] (gdName 5) (dTr (dMeth "Laid" "have_common" d_Laid_have_common (dV 0) (dCons (dV 4) (dCons (dV 5) dNil)))) (dTup (dCons (dV 4) (dCons (dV 5) dNil))))) dSkip)) (dSeq (dRet (dCB oSort (dCons (dV 2) dNil))) dNever)))
def d_pairs_over : DDen := dDef 6 .frs b_pairs_over
def b_lies_over : DenS := (dSeq (dExpr (dCall d_need_strip (dCons (dV 0) dNil))) (dSeq (dExpr (dCall d_need_order (dCons (dCB oLen (dCons (dMeth "Strip" "lengths" d_Strip_lengths (dV 0) dNil) dNil)) (dCons (dV 1) dNil)))) (dSeq (dRet (dCall d_pairs_over (dCons (dCall d_laid_strip (dCons (dV 0) dNil)) (dCons (dV 1) dNil)))) dNever)))
def d_lies_over : DDen := dDef 2 .frs b_lies_over
def b_same_folding : DenS := (dSeq (dExpr (dCall d_need_strip (dCons (dV 0) dNil))) (dSeq (dExpr (dCall d_need_order (dCons (dCB oLen (dCons (dMeth "Strip" "lengths" d_Strip_lengths (dV 0) dNil) dNil)) (dCons (dV 1) dNil)))) (dSeq (dIf (dNotT (dTr (dCall d_is_order_of (dCons (dCB oLen (dCons (dMeth "Strip" "lengths" d_Strip_lengths (dV 0) dNil) dNil)) (dCons (dV 2) dNil))))) (dSeq (dRaise "BadOther" "other" (dCons (dV 2) dNil)) dNever) dSkip) (dSeq (dSet 3 (dCall d_laid_strip (dCons (dV 0) dNil))) (dSeq (dRet (dBin (bo pEqB) (dCall d_pairs_over (dCons (dV 3) (dCons (dV 1) dNil))) (dCall d_pairs_over (dCons (dV 3) (dCons (dV 2) dNil))))) dNever)))))
def d_same_folding : DDen := dDef 4 .rep b_same_folding
def b_law_overlap : DenS := (dSeq (dPar 3 4 (dCall d_law_cover (dCons (dV 0) (dCons (dV 1) dNil))) (dCall d_law_cover (dCons (dV 0) (dCons (dV 2) dNil)))) (dSeq (dRet (dBin (bo pLt) (dCB oMax (dCons (dIx (dV 3) (dC (.int 0))) (dCons (dIx (dV 4) (dC (.int 0))) dNil))) (dCB oMin (dCons (dIx (dV 3) (dC (.int 1))) (dCons (dIx (dV 4) (dC (.int 1))) dNil))))) dNever))
def d_law_overlap : DDen := dDef 5 .rep b_law_overlap
def b_law_over : DenS := (dSeq (dSetW 2 (dLst dNil)) (dSeq (dFor (dRng1 (dCons (dCB oLen (dCons (dV 1) dNil)) dNil)) (gdName 3) (dSeq (dExt 2 (dComp (dIt (dSl pSl (dV 1) (dSome (dBin pPlus (dV 3) (dC (.int 1)))) dNo)) [4] (gdName 4) (dTr (dCall d_law_overlap (dCons (dIx (dV 0) (dC (.int 0))) (dCons (dIx (dV 1) (dV 3)) (dCons (dV 4) dNil))))) (dTup (dCons (dIx (dV 1) (dV 3)) (dCons (dV 4) dNil))))) dSkip)) (dSeq (dRet (dCB oSort (dCons (dV 2) dNil))) dNever)))
def d_law_over : DDen := dDef 5 .frs b_law_over
def b_law_loosened : DenS := (dSeq (dSetW 3 (dCB oListA (dCons (dV 2) dNil))) (dSeq (dFor (dRng1 (dCons (dC (.int 8)) dNil)) (gdName 4) (dSeq (dSet 5 (dCall d_law_pick (dCons (dV 0) (dCons (dCB oLen (dCons (dV 3) dNil)) dNil)))) (dSeq (dIf (dAndT (dCmp pLt (dBin pPlus (dV 5) (dC (.int 1))) (dCB oLen (dCons (dV 3) dNil))) (dNotT (dTr (dCall d_law_overlap (dCons (dIx (dV 1) (dC (.int 0))) (dCons (dIx (dV 3) (dV 5)) (dCons (dIx (dV 3) (dBin pPlus (dV 5) (dC (.int 1)))) dNil))))))) (dSeq (dPut2 3 (dV 5) (dBin pPlus (dV 5) (dC (.int 1))) (dIx (dV 3) (dBin pPlus (dV 5) (dC (.int 1)))) (dIx (dV 3) (dV 5))) dSkip) dSkip) dSkip))) (dSeq (dRet (dV 3)) dNever)))
def d_law_loosened : DDen := dDef 6 .frs b_law_loosened
def b_law_orders : DenS := (dSeq (dSet 1 (dLst (dCons (dLst dNil) dNil))) (dSeq (dFor (dRng1 (dCons (dV 0) dNil)) (gdName 2) (dSeq (dSetW 3 (dLst dNil)) (dSeq (dFor (dIt (dV 1)) (gdName 4) (dSeq (dExt 3 (dComp (dRng1 (dCons (dBin pPlus (dCB oLen (dCons (dV 4) dNil)) (dC (.int 1))) dNil)) [5] (gdName 5) dYes (dBin pPlus (dBin pPlus (dSl pSl (dV 4) dNo (dSome (dV 5))) (dLst (dCons (dV 2) dNil))) (dSl pSl (dV 4) (dSome (dV 5)) dNo)))) dSkip)) (dSeq (dSet 1 (dV 3)) dSkip)))) (dSeq (dRet (dV 1)) dNever)))
def d_law_orders : DDen := dDef 6 .rep b_law_orders
def b_is_above : DenS := (dSeq (dIf (dCmp pEqB (dV 0) (dC (.str "?"))) (dSeq (dRet (dC (.bl true))) dNever) dSkip) (dSeq (dSet 4 (dDisp (dPCons (dV 1) (dC (.int 0)) (dPCons (dV 2) (dC (.int 1)) dPNil)))) (dSeq (dSet 5 (dCall d_lies_so (dCons (dV 0) (dCons (dTup (dCons (dV 2) (dCons (dV 1) (dCons (dV 2) dNil)))) (dCons (dV 4) dNil))))) (dSeq (dRet (dBin (bo pEqB) (dV 5) (dBin (bo pEqB) (dV 3) (dV 2)))) dNever))))
def d_is_above : DDen := dDef 6 .rep b_is_above
def b_put_beside : DenS := (dSeq (dSet 4 (dBin pPlus (dIdx (dV 0) (dV 2)) (dIfE (dTr (dV 3)) (dC (.int 1)) (dC (.int 0))))) (dSeq (dRet (dBin pCat (dBin pPlus (dSl pSl (dV 0) dNo (dSome (dV 4))) (dLst (dCons (dV 1) dNil))) (dSl pSl (dV 0) (dSome (dV 4)) dNo))) dNever))
def d_put_beside : DDen := dDef 5 .frs b_put_beside
def b_grown_end : DenS := (dSeq (dIf (dCmp pEqB (dV 2) (dC (.int 0))) (dSeq (dSet 4 (dComp (dIt (dRev (dV 3))) [5] (gdName 5) dYes (dBin pPlus (dV 5) (dC (.int 1))))) (dSeq (dRet (dCall d_put_beside (dCons (dV 4) (dCons (dC (.int 0)) (dCons (dC (.int 1)) (dCons (dCall d_is_above (dCons (dIx (dV 0) (dC (.int 0))) (dCons (dC (.int 0)) (dCons (dC (.int 1)) (dCons (dC (.int 0)) dNil))))) dNil)))))) dNever)) dSkip) (dSeq (dRet (dCall d_put_beside (dCons (dCB oListA (dCons (dV 3) dNil)) (dCons (dV 2) (dCons (dBin pSub (dV 2) (dC (.int 1))) (dCons (dCall d_is_above (dCons (dIx (dV 0) (dBin pSub (dV 1) (dC (.int 2)))) (dCons (dBin pSub (dV 2) (dC (.int 1))) (dCons (dV 2) (dCons (dV 2) dNil))))) dNil)))))) dNever))
def d_grown_end : DDen := dDef 6 .frs b_grown_end
def b_grown_crimp : DenS := (dSeq (dSet 3 (dLst (dCons (dBin pSub (dV 1) (dC (.int 1))) (dCons (dV 1) (dCons (dBin pPlus (dV 1) (dC (.int 1))) dNil))))) (dSeq (dIf (dNotT (dTr (dCall d_is_above (dCons (dIx (dV 0) (dBin pSub (dV 1) (dC (.int 1)))) (dCons (dBin pSub (dV 1) (dC (.int 1))) (dCons (dV 1) (dCons (dV 1) dNil))))))) (dSeq (dSet 3 (dRev (dV 3))) dSkip) dSkip) (dSeq (dSetW 4 (dLst dNil)) (dSeq (dFor (dIt (dV 2)) (gdName 5) (dSeq (dIf (dCmp pEqB (dV 5) (dBin pSub (dV 1) (dC (.int 1)))) (dSeq (dExt 4 (dV 3)) dSkip) (dSeq (dApp 4 (dIfE (dCmp pLt (dV 5) (dV 1)) (dV 5) (dBin pPlus (dV 5) (dC (.int 2))))) dSkip)) dSkip)) (dSeq (dRet (dV 4)) dNever)))))
def d_grown_crimp : DDen := dDef 6 .frs b_grown_crimp
def b_need_step : DenS := (dSeq (dExpr (dCall d_need_strip (dCons (dV 0) dNil))) (dSeq (dSet 2 (dCall d_step_in (dCons (dMeth "Strip" "lengths" d_Strip_lengths (dV 0) dNil) (dCons (dMeth "Strip" "creases" d_Strip_creases (dV 0) dNil) (dCons (dV 1) dNil))))) (dSeq (dIf (dCmp pIs (dV 2) (dC .non)) (dSeq (dRaise "BadStep" "step" (dCons (dV 1) dNil)) dNever) dSkip) (dSeq (dRet (dV 2)) dNever))))
def d_need_step : DDen := dDef 3 .rep b_need_step
def b_grown_by : DenS := (dSeq (dIf (dCmp pEqB (dIx (dV 2) (dC (.int 0))) (dC (.str "end"))) (dSeq (dRet (dCall d_grown_end (dCons (dV 1) (dCons (dCB oLen (dCons (dV 0) dNil)) (dCons (dIx (dV 2) (dC (.int 1))) (dCons (dV 3) dNil)))))) dNever) dSkip) (dSeq (dRet (dCall d_grown_crimp (dCons (dV 1) (dCons (dIx (dV 2) (dC (.int 1))) (dCons (dV 3) dNil))))) dNever))
def d_grown_by : DDen := dDef 4 .frs b_grown_by
def b_grown : DenS := (dSeq (dSet 3 (dCall d_need_step (dCons (dV 0) (dCons (dV 1) dNil)))) (dSeq (dExpr (dCall d_need_order (dCons (dBin pSub (dCB oLen (dCons (dMeth "Strip" "lengths" d_Strip_lengths (dV 0) dNil) dNil)) (dIfE (dCmp pEqB (dIx (dV 3) (dC (.int 0))) (dC (.str "end"))) (dC (.int 1)) (dC (.int 2)))) (dCons (dV 2) dNil)))) (dSeq (dRet (dCall d_grown_by (dCons (dMeth "Strip" "lengths" d_Strip_lengths (dV 0) dNil) (dCons (dMeth "Strip" "creases" d_Strip_creases (dV 0) dNil) (dCons (dV 3) (dCons (dV 2) dNil)))))) dNever)))
def d_grown : DDen := dDef 4 .frs b_grown
def b_law_put : DenS := (dSeq (dSet 4 (dBin pPlus (dIdx (dV 0) (dV 2)) (dIfE (dTr (dV 3)) (dC (.int 1)) (dC (.int 0))))) (dSeq (dRet (dBin pCat (dBin pPlus (dSl pSl (dV 0) dNo (dSome (dV 4))) (dLst (dCons (dV 1) dNil))) (dSl pSl (dV 0) (dSome (dV 4)) dNo))) dNever))
def d_law_put : DDen := dDef 5 .frs b_law_put
def b_law_grown : DenS := (dSeq (dAsg (gdTupA 2 (gdCons (gdName 3) (gdCons (gdName 4) gdNil))) (dV 0)) (dSeq (dAsg (gdTupA 2 (gdCons (gdName 5) (gdCons (gdName 6) gdNil))) (dV 1)) (dSeq (dIf (dAndT (dCmp pEqB (dV 5) (dC (.str "end"))) (dCmp pEqB (dV 6) (dC (.int 0)))) (dSeq (dSet 10 (dComp (dIt (dRev (dV 2))) [9] (gdName 9) dYes (dBin pPlus (dV 9) (dC (.int 1))))) (dSeq (dRet (dCall d_law_put (dCons (dV 10) (dCons (dC (.int 0)) (dCons (dC (.int 1)) (dCons (dOr (dBin (bo pEqB) (dIx (dV 4) (dC (.int 0))) (dC (.str "?"))) (dNot (dCall d_law_lies_so (dCons (dIx (dV 4) (dC (.int 0))) (dCons (dC (.int 0)) (dCons (dC (.bl true)) dNil)))))) dNil)))))) dNever)) dSkip) (dSeq (dIf (dCmp pEqB (dV 5) (dC (.str "end"))) (dSeq (dRet (dCall d_law_put (dCons (dCB oListA (dCons (dV 2) dNil)) (dCons (dV 6) (dCons (dBin pSub (dV 6) (dC (.int 1))) (dCons (dOr (dBin (bo pEqB) (dIx (dV 4) (dBin pSub (dV 6) (dC (.int 1)))) (dC (.str "?"))) (dCall d_law_lies_so (dCons (dIx (dV 4) (dBin pSub (dV 6) (dC (.int 1)))) (dCons (dBin pSub (dV 6) (dC (.int 1))) (dCons (dC (.bl true)) dNil))))) dNil)))))) dNever) dSkip) (dSeq (dSet 7 (dIfE (dTr (dCall d_law_lies_so (dCons (dIx (dV 4) (dBin pSub (dV 6) (dC (.int 1)))) (dCons (dBin pSub (dV 6) (dC (.int 1))) (dCons (dC (.bl true)) dNil))))) (dLst (dCons (dBin pSub (dV 6) (dC (.int 1))) (dCons (dV 6) (dCons (dBin pPlus (dV 6) (dC (.int 1))) dNil)))) (dLst (dCons (dBin pPlus (dV 6) (dC (.int 1))) (dCons (dV 6) (dCons (dBin pSub (dV 6) (dC (.int 1))) dNil)))))) (dSeq (dSetW 8 (dLst dNil)) (dSeq (dFor (dIt (dV 2)) (gdName 9) (dSeq (dExt 8 (dIfE (dCmp pEqB (dV 9) (dBin pSub (dV 6) (dC (.int 1)))) (dV 7) (dLst (dCons (dIfE (dCmp pLt (dV 9) (dV 6)) (dV 9) (dBin pPlus (dV 9) (dC (.int 2)))) dNil)))) dSkip)) (dSeq (dRet (dV 8)) dNever))))))))
def d_law_grown : DDen := dDef 11 .frs b_law_grown
def b_is_folding_of : DenS := (dSeq (dRet (dAnd (dCall d_is_order_of (dCons (dCB oLen (dCons (dMeth "Strip" "lengths" d_Strip_lengths (dV 0) dNil) dNil)) (dCons (dV 1) dNil))) (dBin (bo pIs) (dCall d_order_fault (dCons (dCall d_laid_strip (dCons (dV 0) dNil)) (dCons (dV 1) dNil))) (dC .non)))) dNever)
def d_is_folding_of : DDen := dDef 2 .rep b_is_folding_of
def b_need_folding : DenS := (dSeq (dExpr (dCall d_need_strip (dCons (dV 0) dNil))) (dSeq (dIf (dNotT (dTr (dCall d_is_folding_of (dCons (dV 0) (dCons (dV 1) dNil))))) (dSeq (dRaise "BadOrder" "order" (dCons (dV 1) dNil)) dNever) dSkip) (dSeq (dRet (dCB oListA (dCons (dV 1) dNil))) dNever)))
def d_need_folding : DDen := dDef 2 .frs b_need_folding
def b_is_wholly : DenS := (dSeq (dRet (dIfE (dTr (dV 3)) (dBin (bo pLe) (dMeth "Laid" "highest" d_Laid_highest (dV 0) (dCons (dV 1) dNil)) (dV 2)) (dBin (bo pGe) (dMeth "Laid" "lowest" d_Laid_lowest (dV 0) (dCons (dV 1) dNil)) (dV 2)))) dNever)
def d_is_wholly : DDen := dDef 4 .rep b_is_wholly
def b_parted : DenS := (dSeq (dSet 4 (dComp (dIt (dV 1)) [5] (gdName 5) (dTr (dCall d_is_wholly (dCons (dV 0) (dCons (dV 5) (dCons (dV 2) (dCons (dV 3) dNil)))))) (dV 5))) (dSeq (dRet (dTup (dCons (dComp (dIt (dV 1)) [5] (gdName 5) (dCmp pNinA (dV 5) (dV 4)) (dV 5)) (dCons (dV 4) dNil)))) dNever))
def d_parted : DDen := dDef 6 .rep b_parted
def b_shrunk_crimp : DenS := (dSeq (dSet 3 (dCB oSort (dCons (dLst (dCons (dIdx (dV 2) (dBin pSub (dV 1) (dC (.int 1)))) (dCons (dIdx (dV 2) (dBin pPlus (dV 1) (dC (.int 1)))) dNil))) dNil))) (dSeq (dSet 4 (dIdx (dV 2) (dV 1))) (dSeq (dPar 5 6 (dIx (dV 2) (dIx (dV 3) (dC (.int 0)))) (dIx (dV 2) (dIx (dV 3) (dC (.int 1))))) (dSeq (dSet 7 (dMeth "Laid" "spot_of" d_Laid_spot_of (dV 0) (dCons (dCB oMax (dCons (dV 5) (dCons (dV 1) dNil))) dNil))) (dSeq (dSet 8 (dMeth "Laid" "spot_of" d_Laid_spot_of (dV 0) (dCons (dCB oMax (dCons (dV 6) (dCons (dV 1) dNil))) dNil))) (dSeq (dSet 9 (dBin (bo pEqB) (dMeth "Laid" "highest" d_Laid_highest (dV 0) (dCons (dV 1) dNil)) (dV 7))) (dSeq (dAsg (gdTupA 2 (gdCons (gdName 10) (gdCons (gdName 11) gdNil))) (dCall d_parted (dCons (dV 0) (dCons (dSl pSl (dV 2) (dSome (dBin pPlus (dIx (dV 3) (dC (.int 0))) (dC (.int 1)))) (dSome (dV 4))) (dCons (dV 7) (dCons (dV 9) dNil)))))) (dSeq (dAsg (gdTupA 2 (gdCons (gdName 12) (gdCons (gdName 13) gdNil))) (dCall d_parted (dCons (dV 0) (dCons (dSl pSl (dV 2) (dSome (dBin pPlus (dV 4) (dC (.int 1)))) (dSome (dIx (dV 3) (dC (.int 1))))) (dCons (dV 8) (dCons (dBin (bo pNeB) (dMeth "Laid" "highest" d_Laid_highest (dV 0) (dCons (dV 1) dNil)) (dV 8)) dNil)))))) (dSeq (dSet 14 (dBin pPlus (dBin pPlus (dBin pPlus (dBin pPlus (dBin pPlus (dBin pPlus (dSl pSl (dV 2) dNo (dSome (dIx (dV 3) (dC (.int 0))))) (dV 10)) (dV 12)) (dLst (dCons (dBin pSub (dV 1) (dC (.int 1))) dNil))) (dV 11)) (dV 13)) (dSl pSl (dV 2) (dSome (dBin pPlus (dIx (dV 3) (dC (.int 1))) (dC (.int 1)))) dNo))) (dSeq (dRet (dComp (dIt (dV 14)) [15] (gdName 15) dYes (dIfE (dCmp pLt (dV 15) (dV 1)) (dV 15) (dBin pSub (dV 15) (dC (.int 2)))))) dNever))))))))))
def d_shrunk_crimp : DDen := dDef 16 .frs b_shrunk_crimp
def b_shrunk : DenS := (dSeq (dSet 3 (dCall d_need_step (dCons (dV 0) (dCons (dV 1) dNil)))) (dSeq (dSet 4 (dCall d_need_folding (dCons (dV 0) (dCons (dV 2) dNil)))) (dSeq (dAsg (gdTupA 2 (gdCons (gdName 5) (gdCons (gdName 6) gdNil))) (dV 3)) (dSeq (dIf (dCmp pEqB (dV 5) (dC (.str "crimp"))) (dSeq (dRet (dCall d_shrunk_crimp (dCons (dCall d_laid_strip (dCons (dV 0) dNil)) (dCons (dV 6) (dCons (dV 4) dNil))))) dNever) dSkip) (dSeq (dSet 7 (dComp (dIt (dV 4)) [8] (gdName 8) (dCmp pNeB (dV 8) (dV 6)) (dV 8))) (dSeq (dRet (dIfE (dCmp pEqB (dV 6) (dC (.int 0))) (dComp (dIt (dRev (dV 7))) [8] (gdName 8) dYes (dBin pSub (dV 8) (dC (.int 1)))) (dV 7))) dNever))))))
def d_shrunk : DDen := dDef 9 .rep b_shrunk
def b_law_parted : DenS := (dSeq (dSet 4 (dComp (dIt (dV 1)) [5] (gdName 5) (dIfT (dTr (dV 3)) (dCmp pLe (dIx (dCall d_law_cover (dCons (dIx (dV 0) (dC (.int 0))) (dCons (dV 5) dNil))) (dC (.int 1))) (dV 2)) (dCmp pGe (dIx (dCall d_law_cover (dCons (dIx (dV 0) (dC (.int 0))) (dCons (dV 5) dNil))) (dC (.int 0))) (dV 2))) (dV 5))) (dSeq (dRet (dTup (dCons (dComp (dIt (dV 1)) [5] (gdName 5) (dCmp pNinA (dV 5) (dV 4)) (dV 5)) (dCons (dV 4) dNil)))) dNever))
def d_law_parted : DDen := dDef 6 .rep b_law_parted
def b_law_shrunk : DenS := (dSeq (dAsg (gdTupA 2 (gdCons (gdName 3) (gdCons (gdName 4) gdNil))) (dV 1)) (dSeq (dIf (dCmp pEqB (dV 3) (dC (.str "end"))) (dSeq (dSet 12 (dComp (dIt (dV 2)) [17] (gdName 17) (dCmp pNeB (dV 17) (dV 4)) (dV 17))) (dSeq (dRet (dIfE (dCmp pEqB (dV 4) (dC (.int 0))) (dComp (dIt (dRev (dV 12))) [17] (gdName 17) dYes (dBin pSub (dV 17) (dC (.int 1)))) (dV 12))) dNever)) dSkip) (dSeq (dPar 5 6 (dCall d_law_ends (dCons (dIx (dV 0) (dC (.int 0))) dNil)) (dLst (dCons (dIdx (dV 2) (dBin pSub (dV 4) (dC (.int 1)))) (dCons (dIdx (dV 2) (dV 4)) (dCons (dIdx (dV 2) (dBin pPlus (dV 4) (dC (.int 1)))) dNil))))) (dSeq (dIf (dCmp pLt (dIx (dV 6) (dC (.int 0))) (dIx (dV 6) (dC (.int 2)))) (dSeq (dAsg (gdTupA 4 (gdCons (gdName 13) (gdCons (gdName 14) (gdCons (gdName 15) (gdCons (gdName 16) gdNil))))) (dTup (dCons (dIx (dV 5) (dV 4)) (dCons (dIx (dV 5) (dBin pPlus (dV 4) (dC (.int 1)))) (dCons (dIx (dV 6) (dC (.int 0))) (dCons (dIx (dV 6) (dC (.int 2))) dNil)))))) dSkip) (dSeq (dAsg (gdTupA 4 (gdCons (gdName 13) (gdCons (gdName 14) (gdCons (gdName 15) (gdCons (gdName 16) gdNil))))) (dTup (dCons (dIx (dV 5) (dBin pPlus (dV 4) (dC (.int 1)))) (dCons (dIx (dV 5) (dV 4)) (dCons (dIx (dV 6) (dC (.int 2))) (dCons (dIx (dV 6) (dC (.int 0))) dNil)))))) dSkip)) (dSeq (dAsg (gdTupA 2 (gdCons (gdName 7) (gdCons (gdName 8) gdNil))) (dCall d_law_parted (dCons (dV 0) (dCons (dSl pSl (dV 2) (dSome (dBin pPlus (dV 15) (dC (.int 1)))) (dSome (dIx (dV 6) (dC (.int 1))))) (dCons (dV 13) (dCons (dBin (bo pEqB) (dIx (dCall d_law_cover (dCons (dIx (dV 0) (dC (.int 0))) (dCons (dV 4) dNil))) (dC (.int 1))) (dV 13)) dNil)))))) (dSeq (dAsg (gdTupA 2 (gdCons (gdName 9) (gdCons (gdName 10) gdNil))) (dCall d_law_parted (dCons (dV 0) (dCons (dSl pSl (dV 2) (dSome (dBin pPlus (dIx (dV 6) (dC (.int 1))) (dC (.int 1)))) (dSome (dV 16))) (dCons (dV 14) (dCons (dBin (bo pNeB) (dIx (dCall d_law_cover (dCons (dIx (dV 0) (dC (.int 0))) (dCons (dV 4) dNil))) (dC (.int 1))) (dV 14)) dNil)))))) (dSeq (dSet 11 (dBin pPlus (dBin pPlus (dBin pPlus (dBin pPlus (dBin pPlus (dBin pPlus (dSl pSl (dV 2) dNo (dSome (dV 15))) (dV 7)) (dV 9)) (dLst (dCons (dBin pSub (dV 4) (dC (.int 1))) dNil))) (dV 8)) (dV 10)) (dSl pSl (dV 2) (dSome (dBin pPlus (dV 16) (dC (.int 1)))) dNo))) (dSeq (dRet (dComp (dIt (dV 11)) [17] (gdName 17) dYes (dIfE (dCmp pLt (dV 17) (dV 4)) (dV 17) (dBin pSub (dV 17) (dC (.int 2)))))) dNever))))))))
def d_law_shrunk : DDen := dDef 18 .rep b_law_shrunk
def b_steps_down : DenS := (dSeq (dSetW 2 (dLst dNil)) (dSeq (dWhile 100000 (dCmp pNeB (dCall d_steps_of (dCons (dV 0) (dCons (dV 1) dNil))) (dLst dNil)) (dSeq (dSet 3 (dIx (dCall d_steps_of (dCons (dV 0) (dCons (dV 1) dNil))) (dC (.int 0)))) (dSeq (dApp 2 (dTup (dCons (dV 3) (dCons (dV 0) (dCons (dV 1) dNil))))) (dSeq (dAsg (gdTupA 2 (gdCons (gdName 0) (gdCons (gdName 1) gdNil))) (dCall d_parts_after (dCons (dV 0) (dCons (dV 1) (dCons (dV 3) dNil))))) dSkip)))) (dSeq (dRet (dTup (dCons (dV 2) (dCons (dV 0) (dCons (dV 1) dNil))))) dNever)))
def d_steps_down : DDen := dDef 4 .rep b_steps_down
def b_answer_of : DenS := (dSeq (dAsg (gdTupA 3 (gdCons (gdName 2) (gdCons (gdName 3) (gdCons (gdName 4) gdNil)))) (dCall d_steps_down (dCons (dV 0) (dCons (dV 1) dNil)))) (dSeq (dIf (dCmp pGt (dCB oLen (dCons (dV 3) dNil)) (dC (.int 1))) (dSeq (dRet (dTup (dCons (dC (.str "lock")) (dCons (dComp (dIt (dV 2)) [6, 7, 8] (gdTupA 3 (gdCons (gdName 6) (gdCons (gdName 7) (gdCons (gdName 8) gdNil)))) dYes (dV 6)) (dCons (dIx (dCall d_locks_in (dCons (dV 3) (dCons (dV 4) dNil))) (dC (.int 0))) dNil))))) dNever) dSkip) (dSeq (dSet 5 (dLst (dCons (dC (.int 0)) dNil))) (dSeq (dFor (dIt (dRev (dV 2))) (gdTupA 3 (gdCons (gdName 6) (gdCons (gdName 7) (gdCons (gdName 8) gdNil)))) (dSeq (dSet 5 (dCall d_grown_by (dCons (dV 7) (dCons (dV 8) (dCons (dV 6) (dCons (dV 5) dNil)))))) dSkip)) (dSeq (dRet (dTup (dCons (dC (.str "layers")) (dCons (dV 5) dNil)))) dNever)))))
def d_answer_of : DDen := dDef 9 .rep b_answer_of
def b_need_told : DenS := (dSeq (dExpr (dCall d_need_strip (dCons (dV 0) dNil))) (dSeq (dIf (dCmp pInA (dC (.str "?")) (dMeth "Strip" "creases" d_Strip_creases (dV 0) dNil)) (dSeq (dRaise "NotTold" "strip" (dCons (dV 0) dNil)) dNever) dSkip) dSkip))
def d_need_told : DDen := dDef 1 .rep b_need_told
def b_fold_answer : DenS := (dSeq (dExpr (dCall d_need_told (dCons (dV 0) dNil))) (dSeq (dRet (dCall d_answer_of (dCons (dMeth "Strip" "lengths" d_Strip_lengths (dV 0) dNil) (dCons (dMeth "Strip" "creases" d_Strip_creases (dV 0) dNil) dNil)))) dNever))
def d_fold_answer : DDen := dDef 1 .rep b_fold_answer
def b_folds_told : DenS := (dSeq (dRet (dBin (bo pEqB) (dCB oLen (dCons (dIx (dCall d_steps_down (dCons (dMeth "Strip" "lengths" d_Strip_lengths (dV 0) dNil) (dCons (dMeth "Strip" "creases" d_Strip_creases (dV 0) dNil) dNil))) (dC (.int 1))) dNil)) (dC (.int 1)))) dNever)
def d_folds_told : DDen := dDef 1 .rep b_folds_told
def b_can_fold : DenS := (dSeq (dExpr (dCall d_need_told (dCons (dV 0) dNil))) (dSeq (dRet (dCall d_folds_told (dCons (dV 0) dNil))) dNever))
def d_can_fold : DDen := dDef 1 .rep b_can_fold
def b_law_barred : DenS := (dSeq (dAsg (gdTupA 2 (gdCons (gdName 3) (gdCons (gdName 4) gdNil))) (dCall d_law_done (dCons (dV 0) (dCons (dV 1) dNil)))) (dSeq (dRet (dAnd (dBin (bo pIs) (dV 4) (dC .non)) (dCall d_law_is_lock (dCons (dV 3) (dCons (dV 2) dNil))))) dNever))
def d_law_barred : DDen := dDef 5 .rep b_law_barred
def b_law_wide_strip : DenS := (dSeq (dPar 2 3 (dLst (dCons (dBin pPlus (dC (.int 1)) (dCall d_law_pick (dCons (dV 0) (dCons (dC (.int 30)) dNil)))) dNil)) (dLst dNil)) (dSeq (dWhile 100000 (dAndT (dCmp pLt (dCB oLen (dCons (dV 2) dNil)) (dV 1)) (dCmp pGt (dCall d_law_pick (dCons (dV 0) (dCons (dC (.int 12)) dNil))) (dC (.int 0)))) (dSeq (dSet 4 (dCall d_law_pick (dCons (dV 0) (dCons (dBin pPlus (dCB oLen (dCons (dV 2) dNil)) (dC (.int 2))) dNil)))) (dSeq (dIf (dCmp pEqB (dV 4) (dC (.int 0))) (dSeq (dPar 2 3 (dBin pPlus (dLst (dCons (dBin pPlus (dC (.int 1)) (dCall d_law_pick (dCons (dV 0) (dCons (dIx (dV 2) (dC (.int 0))) dNil)))) dNil)) (dV 2)) (dBin pPlus (dLst (dCons (dCall d_law_one (dCons (dV 0) (dCons (dLst (dCons (dC (.str "m")) (dCons (dC (.str "v")) dNil))) dNil))) dNil)) (dV 3))) dSkip) (dSeq (dIf (dCmp pEqB (dV 4) (dBin pPlus (dCB oLen (dCons (dV 2) dNil)) (dC (.int 1)))) (dSeq (dPar 2 3 (dBin pPlus (dV 2) (dLst (dCons (dBin pPlus (dC (.int 1)) (dCall d_law_pick (dCons (dV 0) (dCons (dIx (dV 2) (dNeg (dC (.int 1)))) dNil)))) dNil))) (dBin pPlus (dV 3) (dLst (dCons (dCall d_law_one (dCons (dV 0) (dCons (dLst (dCons (dC (.str "m")) (dCons (dC (.str "v")) dNil))) dNil))) dNil)))) dSkip) (dSeq (dIf (dCmp pLe (dBin pPlus (dCB oLen (dCons (dV 2) dNil)) (dC (.int 2))) (dV 1)) (dSeq (dPar 5 6 (dBin pSub (dV 4) (dC (.int 1))) (dCall d_law_one (dCons (dV 0) (dCons (dLst (dCons (dC (.str "m")) (dCons (dC (.str "v")) dNil))) dNil)))) (dSeq (dSet 7 (dIx (dV 2) (dV 5))) (dSeq (dSet 8 (dBin pPlus (dC (.int 1)) (dCall d_law_pick (dCons (dV 0) (dCons (dV 7) dNil))))) (dSeq (dSet 9 (dBin pPlus (dC (.int 1)) (dCall d_law_pick (dCons (dV 0) (dCons (dV 8) dNil))))) (dSeq (dSet 10 (dBin pPlus (dBin pSub (dV 7) (dV 8)) (dV 9))) (dSeq (dIf (dCmp pGe (dV 10) (dV 9)) (dSeq (dSet 2 (dBin pPlus (dBin pPlus (dSl pSl (dV 2) dNo (dSome (dV 5))) (dLst (dCons (dV 8) (dCons (dV 9) (dCons (dV 10) dNil))))) (dSl pSl (dV 2) (dSome (dBin pPlus (dV 5) (dC (.int 1)))) dNo))) (dSeq (dSet 3 (dBin pPlus (dBin pPlus (dSl pSl (dV 3) dNo (dSome (dV 5))) (dLst (dCons (dV 6) (dCons (dIfE (dCmp pEqB (dV 6) (dC (.str "m"))) (dC (.str "v")) (dC (.str "m"))) dNil)))) (dSl pSl (dV 3) (dSome (dV 5)) dNo))) dSkip)) dSkip) dSkip)))))) dSkip) dSkip)) dSkip)) dSkip))) (dSeq (dRet (dLst (dCons (dV 2) (dCons (dV 3) dNil)))) dNever)))
def d_law_wide_strip : DDen := dDef 11 .frs b_law_wide_strip
def b_law_answer_right : DenS := (dSeq (dIf (dOrT (dNotT (dTr (dIsa "tuple" (dV 1)))) (dOrT (dCmp pLt (dCB oLen (dCons (dV 1) dNil)) (dC (.int 2))) (dNotT (dTr (dIsa "list" (dIx (dV 1) (dC (.int 1)))))))) (dSeq (dRet (dC (.bl false))) dNever) dSkip) (dSeq (dIf (dTr (dCall d_law_same (dCons (dIx (dV 1) (dC (.int 0))) (dCons (dC (.str "layers")) dNil)))) (dSeq (dRet (dAnd (dBin (bo pEqB) (dCB oLen (dCons (dV 1) dNil)) (dC (.int 2))) (dAnd (dCall d_law_is_order (dCons (dCB oLen (dCons (dIx (dV 0) (dC (.int 0))) dNil)) (dCons (dIx (dV 1) (dC (.int 1))) dNil))) (dBin (bo pIs) (dCall d_law_fault (dCons (dV 0) (dCons (dIx (dV 1) (dC (.int 1))) dNil))) (dC .non))))) dNever) dSkip) (dSeq (dIf (dOrT (dNotT (dTr (dCall d_law_same (dCons (dIx (dV 1) (dC (.int 0))) (dCons (dC (.str "lock")) dNil))))) (dOrT (dCmp pNeB (dCB oLen (dCons (dV 1) dNil)) (dC (.int 3))) (dNotT (dTr (dIsa "tuple" (dIx (dV 1) (dC (.int 2)))))))) (dSeq (dRet (dC (.bl false))) dNever) dSkip) (dSeq (dRet (dAnd (dCB oAll (dCons (dComp (dIt (dIx (dV 1) (dC (.int 1)))) [2] (gdName 2) dYes (dIsa "tuple" (dV 2))) dNil)) (dCall d_law_barred (dCons (dV 0) (dCons (dIx (dV 1) (dC (.int 1))) (dCons (dIx (dV 1) (dC (.int 2))) dNil)))))) dNever))))
def d_law_answer_right : DDen := dDef 3 .rep b_law_answer_right
def b_law_all_grown : DenS := (dSeq (dSetW 3 (dLst (dCons (dV 0) dNil))) (dSeq (dFor (dIt (dV 1)) (gdName 4) (dSeq (dApp 3 (dCall d_law_after (dCons (dIx (dV 3) (dNeg (dC (.int 1)))) (dCons (dV 4) dNil)))) dSkip)) (dSeq (dFor (dRngD (dCons (dBin pSub (dCB oLen (dCons (dV 1) dNil)) (dC (.int 1))) (dCons (dNeg (dC (.int 1))) (dCons (dNeg (dC (.int 1))) dNil)))) (gdName 5) (dSeq (dSet 2 (dCall d_law_grown (dCons (dIx (dV 3) (dV 5)) (dCons (dIx (dV 1) (dV 5)) (dCons (dV 2) dNil))))) dSkip)) (dSeq (dRet (dV 2)) dNever))))
def d_law_all_grown : DDen := dDef 6 .rep b_law_all_grown
def b_need_lock : DenS := (dSeq (dExpr (dCall d_need_strip (dCons (dV 0) dNil))) (dSeq (dIf (dNotT (dTr (dCall d_holds_lock (dCons (dMeth "Strip" "lengths" d_Strip_lengths (dV 0) dNil) (dCons (dMeth "Strip" "creases" d_Strip_creases (dV 0) dNil) (dCons (dV 1) dNil)))))) (dSeq (dRaise "BadLock" "lock" (dCons (dV 1) dNil)) dNever) dSkip) dSkip))
def d_need_lock : DDen := dDef 2 .rep b_need_lock
def b_lock_fault : DenS := (dSeq (dExpr (dCall d_need_lock (dCons (dV 0) (dCons (dV 1) dNil)))) (dSeq (dExpr (dCall d_need_order (dCons (dCB oLen (dCons (dMeth "Strip" "lengths" d_Strip_lengths (dV 0) dNil) dNil)) (dCons (dV 2) dNil)))) (dSeq (dAsg (gdTupA 2 (gdCons (gdName 3) (gdCons (gdName 4) gdNil))) (dV 1)) (dSeq (dSet 5 (dCall d_laid_strip (dCons (dV 0) dNil))) (dSeq (dSet 6 (dComp (dIt (dFld "Laid" "joints" (dV 5))) [7] (gdName 7) (dChT pLe pLe (dV 3) (dIx (dV 7) (dC (.int 0))) (dBin pPlus (dV 4) (dC (.int 1)))) (dV 7))) (dSeq (dRet (dCall d_fault_among (dCons (dV 5) (dCons (dV 6) (dCons (dLR2 (dBin pSub (dV 3) (dC (.int 1))) (dBin pPlus (dV 4) (dC (.int 2)))) (dCons (dV 2) dNil)))))) dNever))))))
def d_lock_fault : DDen := dDef 8 .rep b_lock_fault
def b_goes_inward : DenS := (dSeq (dExpr (dCall d_need_lock (dCons (dV 0) (dCons (dV 1) dNil)))) (dSeq (dExpr (dCall d_need_order (dCons (dCB oLen (dCons (dMeth "Strip" "lengths" d_Strip_lengths (dV 0) dNil) dNil)) (dCons (dV 2) dNil)))) (dSeq (dAsg (gdTupA 2 (gdCons (gdName 3) (gdCons (gdName 4) gdNil))) (dV 1)) (dSeq (dSet 5 (dCall d_places_in (dCons (dV 2) dNil))) (dSeq (dSet 6 (dC (.int 0))) (dSeq (dFor (dRng2 (dCons (dBin pPlus (dV 3) (dC (.int 1))) (dCons (dBin pPlus (dV 4) (dC (.int 2))) dNil))) (gdName 7) (dSeq (dSet 8 (dCB oSort (dCons (dLst (dCons (dIx (dV 5) (dBin pSub (dV 7) (dC (.int 2)))) (dCons (dIx (dV 5) (dBin pSub (dV 7) (dC (.int 1)))) dNil))) dNil))) (dSeq (dIf (dNotT (dChT pLt pLt (dIx (dV 8) (dC (.int 0))) (dIx (dV 5) (dV 7)) (dIx (dV 8) (dC (.int 1))))) (dSeq (dRet (dV 6)) dNever) dSkip) (dSeq (dAug (fun i j => i + j) 6 (dC (.int 1))) dSkip)))) (dSeq (dRet (dV 6)) dNever)))))))
def d_goes_inward : DDen := dDef 9 .rep b_goes_inward
def b_law_inward_order : DenS := (dSeq (dAsg (gdTupA 2 (gdCons (gdName 3) (gdCons (gdName 4) gdNil))) (dV 2)) (dSeq (dSetW 5 (dIfE (dTr (dCall d_law_lies_so (dCons (dIx (dIx (dV 1) (dC (.int 1))) (dBin pSub (dV 3) (dC (.int 1)))) (dCons (dBin pSub (dV 3) (dC (.int 1))) (dCons (dC (.bl true)) dNil))))) (dLst (dCons (dBin pSub (dV 3) (dC (.int 1))) (dCons (dV 3) dNil))) (dLst (dCons (dV 3) (dCons (dBin pSub (dV 3) (dC (.int 1))) dNil))))) (dSeq (dFor (dRng2 (dCons (dBin pPlus (dV 3) (dC (.int 1))) (dCons (dBin pPlus (dV 4) (dC (.int 2))) dNil))) (gdName 6) (dSeq (dSet 7 (dCB oSort (dCons (dLst (dCons (dIdx (dV 5) (dBin pSub (dV 6) (dC (.int 2)))) (dCons (dIdx (dV 5) (dBin pSub (dV 6) (dC (.int 1)))) dNil))) dNil))) (dSeq (dIns 5 (dIx (dV 7) (dC (.int 1))) (dV 6)) dSkip))) (dSeq (dFor (dIt (dComp (dRng1 (dCons (dCB oLen (dCons (dIx (dV 1) (dC (.int 0))) dNil)) dNil)) [8] (gdName 8) (dNotT (dChT pLe pLe (dBin pSub (dV 3) (dC (.int 1))) (dV 8) (dBin pPlus (dV 4) (dC (.int 1))))) (dV 8))) (gdName 6) (dSeq (dIns 5 (dCall d_law_pick (dCons (dV 0) (dCons (dBin pPlus (dCB oLen (dCons (dV 5) dNil)) (dC (.int 1))) dNil))) (dV 6)) dSkip)) (dSeq (dRet (dV 5)) dNever)))))
def d_law_inward_order : DDen := dDef 9 .frs b_law_inward_order
def b_law_number_inward : DenS := (dSeq (dFor (dRng2 (dCons (dBin pPlus (dIx (dV 0) (dC (.int 0))) (dC (.int 1))) (dCons (dBin pPlus (dIx (dV 0) (dC (.int 1))) (dC (.int 2))) dNil))) (gdName 2) (dSeq (dIf (dNotT (dTr (dCall d_law_lies_between (dCons (dV 1) (dCons (dV 2) (dCons (dBin pSub (dV 2) (dC (.int 2))) (dCons (dBin pSub (dV 2) (dC (.int 1))) dNil))))))) (dSeq (dRet (dBin pSub (dBin pSub (dV 2) (dIx (dV 0) (dC (.int 0)))) (dC (.int 1)))) dNever) dSkip) dSkip)) (dSeq (dRet (dBin pSub (dBin pPlus (dIx (dV 0) (dC (.int 1))) (dC (.int 1))) (dIx (dV 0) (dC (.int 0))))) dNever))
def d_law_number_inward : DDen := dDef 3 .rep b_law_number_inward
def b_refuting : DenS := (dSeq (dExpr (dCall d_need_strip (dCons (dV 0) dNil))) (dSeq (dAsg (gdTupA 3 (gdCons (gdName 4) (gdCons (gdName 5) (gdCons (gdName 6) gdNil)))) (dCall d_parts_done (dCons (dMeth "Strip" "lengths" d_Strip_lengths (dV 0) dNil) (dCons (dMeth "Strip" "creases" d_Strip_creases (dV 0) dNil) (dCons (dV 1) dNil))))) (dSeq (dIf (dCmp pIsnt (dV 6) (dC .non)) (dSeq (dRaise "BadSteps" "index" (dCons (dV 6) dNil)) dNever) dSkip) (dSeq (dIf (dNotT (dTr (dCall d_holds_lock (dCons (dV 4) (dCons (dV 5) (dCons (dV 2) dNil)))))) (dSeq (dRaise "BadLock" "lock" (dCons (dV 2) dNil)) dNever) dSkip) (dSeq (dExpr (dCall d_need_order (dCons (dCB oLen (dCons (dMeth "Strip" "lengths" d_Strip_lengths (dV 0) dNil) dNil)) (dCons (dV 3) dNil)))) (dSeq (dRet (dCall d_order_fault (dCons (dCall d_laid_strip (dCons (dV 0) dNil)) (dCons (dV 3) dNil)))) dNever))))))
def d_refuting : DDen := dDef 7 .rep b_refuting
def b_bars : DenS := (dSeq (dAsg (gdTupA 3 (gdCons (gdName 4) (gdCons (gdName 5) (gdCons (gdName 6) gdNil)))) (dCall d_parts_done (dCons (dV 0) (dCons (dV 1) (dCons (dV 2) dNil))))) (dSeq (dRet (dAnd (dBin (bo pIs) (dV 6) (dC .non)) (dCall d_holds_lock (dCons (dV 4) (dCons (dV 5) (dCons (dV 3) dNil)))))) dNever))
def d_bars : DDen := dDef 7 .rep b_bars
def b_is_step_form : DenS := (dSeq (dIf (dOrT (dNotT (dTr (dCall d_is_pair (dCons (dV 0) dNil)))) (dNotT (dTr (dCall d_is_text (dCons (dIx (dV 0) (dC (.int 0))) dNil))))) (dSeq (dRet (dC (.bl false))) dNever) dSkip) (dSeq (dRet (dAnd (dBin (bo pInA) (dIx (dV 0) (dC (.int 0))) (dTup (dCons (dC (.str "end")) (dCons (dC (.str "crimp")) dNil)))) (dCall d_is_number (dCons (dIx (dV 0) (dC (.int 1))) dNil)))) dNever))
def d_is_step_form : DDen := dDef 1 .rep b_is_step_form
def b_is_lock_form : DenS := (dSeq (dIf (dOrT (dNotT (dTr (dCall d_is_list (dCons (dV 0) dNil)))) (dNotT (dTr (dCB oAll (dCons (dComp (dIt (dV 0)) [2] (gdName 2) dYes (dCall d_is_step_form (dCons (dV 2) dNil))) dNil))))) (dSeq (dRet (dC (.bl false))) dNever) dSkip) (dSeq (dRet (dAnd (dCall d_is_pair (dCons (dV 1) dNil)) (dAnd (dCall d_is_number (dCons (dIx (dV 1) (dC (.int 0))) dNil)) (dCall d_is_number (dCons (dIx (dV 1) (dC (.int 1))) dNil))))) dNever))
def d_is_lock_form : DDen := dDef 3 .rep b_is_lock_form
def b_is_why : DenS := (dSeq (dIf (dOrT (dNotT (dTr (dCall d_is_list (dCons (dV 0) dNil)))) (dOrT (dCmp pEqB (dCB oLen (dCons (dV 0) dNil)) (dC (.int 0))) (dNotT (dTr (dCall d_is_text (dCons (dIx (dV 0) (dC (.int 0))) dNil)))))) (dSeq (dRet (dC (.bl false))) dNever) dSkip) (dSeq (dIf (dCmp pEqB (dIx (dV 0) (dC (.int 0))) (dC (.str "free"))) (dSeq (dRet (dAnd (dBin (bo pEqB) (dCB oLen (dCons (dV 0) dNil)) (dC (.int 4))) (dCB oAll (dCons (dComp (dIt (dSl pSl (dV 0) (dSome (dC (.int 1))) dNo)) [1] (gdName 1) dYes (dCall d_is_number (dCons (dV 1) dNil))) dNil)))) dNever) dSkip) (dSeq (dRet (dAnd (dBin (bo pEqB) (dIx (dV 0) (dC (.int 0))) (dC (.str "lock"))) (dAnd (dCall d_is_row (dCons (dV 0) (dCons (dC (.int 3)) dNil))) (dCall d_is_lock_form (dCons (dIx (dV 0) (dC (.int 1))) (dCons (dIx (dV 0) (dC (.int 2))) dNil)))))) dNever)))
def d_is_why : DDen := dDef 2 .rep b_is_why
def b_is_case_form : DenS := (dSeq (dIf (dOrT (dNotT (dTr (dCall d_is_pair (dCons (dV 1) dNil)))) (dOrT (dNotT (dTr (dCall d_is_list (dCons (dIx (dV 1) (dC (.int 0))) dNil)))) (dCmp pNeB (dCB oLen (dCons (dIx (dV 1) (dC (.int 0))) dNil)) (dV 0)))) (dSeq (dRet (dC (.bl false))) dNever) dSkip) (dSeq (dIf (dNotT (dTr (dCB oAll (dCons (dComp (dIt (dIx (dV 1) (dC (.int 0)))) [2] (gdName 2) dYes (dAnd (dCall d_is_text (dCons (dV 2) dNil)) (dBin (bo pInA) (dV 2) (dTup (dCons (dC (.str "m")) (dCons (dC (.str "v")) (dCons (dC (.str "?")) dNil))))))) dNil)))) (dSeq (dRet (dC (.bl false))) dNever) dSkip) (dSeq (dRet (dCall d_is_why (dCons (dIx (dV 1) (dC (.int 1))) dNil))) dNever)))
def d_is_case_form : DDen := dDef 3 .rep b_is_case_form
def b_told_at : DenS := (dSeq (dRet (dBin pCat (dBin pPlus (dSl pSl (dV 0) dNo (dSome (dBin pSub (dV 1) (dC (.int 1))))) (dLst (dCons (dV 2) dNil))) (dSl pSl (dV 0) (dSome (dV 1)) dNo))) dNever)
def d_told_at : DDen := dDef 3 .frs b_told_at
def b_is_case_right : DenS := (dSeq (dPar 3 4 (dCB oListA (dCons (dIx (dIx (dV 1) (dV 2)) (dC (.int 0))) dNil)) (dIx (dIx (dV 1) (dV 2)) (dC (.int 1)))) (dSeq (dIf (dCmp pEqB (dIx (dV 4) (dC (.int 0))) (dC (.str "lock"))) (dSeq (dRet (dCall d_bars (dCons (dV 0) (dCons (dV 3) (dCons (dIx (dV 4) (dC (.int 1))) (dCons (dIx (dV 4) (dC (.int 2))) dNil)))))) dNever) dSkip) (dSeq (dAsg (gdTupA 4 (gdCons (gdName 5) (gdCons (gdName 6) (gdCons (gdName 7) (gdCons (gdName 8) gdNil))))) (dV 4)) (dSeq (dIf (dOrT (dNotT (dChT pLe pLe (dC (.int 1)) (dV 6) (dCB oLen (dCons (dV 3) dNil)))) (dCmp pNeB (dIx (dV 3) (dBin pSub (dV 6) (dC (.int 1)))) (dC (.str "?")))) (dSeq (dRet (dC (.bl false))) dNever) dSkip) (dSeq (dIf (dOrT (dNotT (dChT pLt pLt (dV 2) (dV 7) (dCB oLen (dCons (dV 1) dNil)))) (dNotT (dChT pLt pLt (dV 2) (dV 8) (dCB oLen (dCons (dV 1) dNil))))) (dSeq (dRet (dC (.bl false))) dNever) dSkip) (dSeq (dIf (dCmp pNeB (dCB oListA (dCons (dIx (dIx (dV 1) (dV 7)) (dC (.int 0))) dNil)) (dCall d_told_at (dCons (dV 3) (dCons (dV 6) (dCons (dC (.str "m")) dNil))))) (dSeq (dRet (dC (.bl false))) dNever) dSkip) (dSeq (dRet (dBin (bo pEqB) (dCB oListA (dCons (dIx (dIx (dV 1) (dV 8)) (dC (.int 0))) dNil)) (dCall d_told_at (dCons (dV 3) (dCons (dV 6) (dCons (dC (.str "v")) dNil)))))) dNever)))))))
def d_is_case_right : DDen := dDef 9 .rep b_is_case_right
def b_fault_of_cases : DenS := (dSeq (dIf (dOrT (dNotT (dTr (dCall d_is_list (dCons (dV 1) dNil)))) (dCmp pEqB (dCB oLen (dCons (dV 1) dNil)) (dC (.int 0)))) (dSeq (dRet (dTup (dCons (dC (.str "form")) (dCons (dC (.int 0)) dNil)))) dNever) dSkip) (dSeq (dPar 2 3 (dMeth "Strip" "lengths" d_Strip_lengths (dV 0) dNil) (dMeth "Strip" "creases" d_Strip_creases (dV 0) dNil)) (dSeq (dFor (dEnumA (dCons (dV 1) dNil)) (gdTupA 2 (gdCons (gdName 4) (gdCons (gdName 5) gdNil))) (dSeq (dIf (dNotT (dTr (dCall d_is_case_form (dCons (dCB oLen (dCons (dV 3) dNil)) (dCons (dV 5) dNil))))) (dSeq (dRet (dTup (dCons (dC (.str "form")) (dCons (dV 4) dNil)))) dNever) dSkip) dSkip)) (dSeq (dIf (dCmp pNeB (dCB oListA (dCons (dIx (dIx (dV 1) (dC (.int 0))) (dC (.int 0))) dNil)) (dV 3)) (dSeq (dRet (dTup (dCons (dC (.str "row")) (dCons (dC (.int 0)) dNil)))) dNever) dSkip) (dSeq (dFor (dRng1 (dCons (dCB oLen (dCons (dV 1) dNil)) dNil)) (gdName 4) (dSeq (dIf (dNotT (dTr (dCall d_is_case_right (dCons (dV 2) (dCons (dV 1) (dCons (dV 4) dNil)))))) (dSeq (dRet (dTup (dCons (dC (.str "row")) (dCons (dV 4) dNil)))) dNever) dSkip) dSkip)) (dSeq (dRet (dC .non)) dNever))))))
def d_fault_of_cases : DDen := dDef 6 .rep b_fault_of_cases
def b_locked : DenS := (dSeq (dAsg (gdTupA 3 (gdCons (gdName 2) (gdCons (gdName 3) (gdCons (gdName 4) gdNil)))) (dCall d_steps_down (dCons (dV 0) (dCons (dV 1) dNil)))) (dSeq (dSet 5 (dCall d_locks_in (dCons (dV 3) (dCons (dV 4) dNil)))) (dSeq (dRet (dIfE (dCmp pEqB (dV 5) (dLst dNil)) (dC .non) (dTup (dCons (dComp (dIt (dV 2)) [6, 7, 8] (gdTupA 3 (gdCons (gdName 6) (gdCons (gdName 7) (gdCons (gdName 8) gdNil)))) dYes (dV 6)) (dCons (dIx (dV 5) (dC (.int 0))) dNil))))) dNever)))
def d_locked : DDen := dDef 9 .rep b_locked
def b_moved_on : DenS := (dSeq (dSetW 2 (dLst dNil)) (dSeq (dFor (dIt (dV 0)) (gdTupA 2 (gdCons (gdName 3) (gdCons (gdName 4) gdNil))) (dSeq (dIf (dCmp pEqB (dIx (dV 4) (dC (.int 0))) (dC (.str "free"))) (dSeq (dSet 4 (dTup (dCons (dC (.str "free")) (dCons (dIx (dV 4) (dC (.int 1))) (dCons (dBin pPlus (dIx (dV 4) (dC (.int 2))) (dV 1)) (dCons (dBin pPlus (dIx (dV 4) (dC (.int 3))) (dV 1)) dNil)))))) dSkip) dSkip) (dSeq (dApp 2 (dTup (dCons (dV 3) (dCons (dV 4) dNil)))) dSkip))) (dSeq (dRet (dV 2)) dNever)))
def d_moved_on : DDen := dDef 5 .frs b_moved_on
def b_case_for : DenS := (dSeq (dExpr (dCall d_need_strip (dCons (dV 0) dNil))) (dSeq (dIf (dCmp pIsnt (dCall d_fault_of_cases (dCons (dV 0) (dCons (dV 1) dNil))) (dC .non)) (dSeq (dRaise "BadCases" "rows" (dCons (dV 1) dNil)) dNever) dSkip) (dSeq (dExpr (dCall d_need_order (dCons (dCB oLen (dCons (dMeth "Strip" "lengths" d_Strip_lengths (dV 0) dNil) dNil)) (dCons (dV 2) dNil)))) (dSeq (dSet 3 (dCall d_places_in (dCons (dV 2) dNil))) (dSeq (dSetW 4 (dLst (dCons (dC (.int 0)) dNil))) (dSeq (dWhile 100000 (dCmp pEqB (dIx (dIx (dIx (dV 1) (dIx (dV 4) (dNeg (dC (.int 1))))) (dC (.int 1))) (dC (.int 0))) (dC (.str "free"))) (dSeq (dAsg (gdTupA 4 (gdCons (gdName 5) (gdCons (gdName 6) (gdCons (gdName 7) (gdCons (gdName 8) gdNil))))) (dIx (dIx (dV 1) (dIx (dV 4) (dNeg (dC (.int 1))))) (dC (.int 1)))) (dSeq (dApp 4 (dIfE (dTr (dCall d_lies_so (dCons (dC (.str "m")) (dCons (dTup (dCons (dV 6) (dCons (dBin pSub (dV 6) (dC (.int 1))) (dCons (dV 6) dNil)))) (dCons (dV 3) dNil))))) (dV 7) (dV 8))) dSkip))) (dSeq (dRet (dV 4)) dNever)))))))
def d_case_for : DDen := dDef 9 .frs b_case_for
def b_law_is_case_row : DenS := (dSeq (dIf (dOrT (dNotT (dTr (dIsa2 "list" "tuple" (dV 1)))) (dOrT (dCmp pNeB (dCB oLen (dCons (dV 1) dNil)) (dC (.int 2))) (dOrT (dNotT (dTr (dIsa2 "list" "tuple" (dIx (dV 1) (dC (.int 0)))))) (dCmp pNeB (dCB oLen (dCons (dIx (dV 1) (dC (.int 0))) dNil)) (dV 0))))) (dSeq (dRet (dC (.bl false))) dNever) dSkip) (dSeq (dIf (dNotT (dTr (dCB oAll (dCons (dComp (dIt (dIx (dV 1) (dC (.int 0)))) [4] (gdName 4) dYes (dAnd (dIsa "str" (dV 4)) (dBin (bo pInA) (dV 4) (dTup (dCons (dC (.str "m")) (dCons (dC (.str "v")) (dCons (dC (.str "?")) dNil))))))) dNil)))) (dSeq (dRet (dC (.bl false))) dNever) dSkip) (dSeq (dSet 2 (dIx (dV 1) (dC (.int 1)))) (dSeq (dIf (dOrT (dNotT (dTr (dIsa2 "list" "tuple" (dV 2)))) (dOrT (dCmp pNinA (dCB oLen (dCons (dV 2) dNil)) (dTup (dCons (dC (.int 3)) (dCons (dC (.int 4)) dNil)))) (dNotT (dTr (dIsa "str" (dIx (dV 2) (dC (.int 0)))))))) (dSeq (dRet (dC (.bl false))) dNever) dSkip) (dSeq (dIf (dCmp pEqB (dCB oLen (dCons (dV 2) dNil)) (dC (.int 4))) (dSeq (dRet (dAnd (dBin (bo pEqB) (dIx (dV 2) (dC (.int 0))) (dC (.str "free"))) (dCB oAll (dCons (dComp (dIt (dSl pSl (dV 2) (dSome (dC (.int 1))) dNo)) [5] (gdName 5) dYes (dCall d_law_is_number (dCons (dV 5) dNil))) dNil)))) dNever) dSkip) (dSeq (dIf (dOrT (dCmp pNeB (dIx (dV 2) (dC (.int 0))) (dC (.str "lock"))) (dOrT (dNotT (dTr (dIsa2 "list" "tuple" (dIx (dV 2) (dC (.int 1)))))) (dNotT (dTr (dIsa2 "list" "tuple" (dIx (dV 2) (dC (.int 2)))))))) (dSeq (dRet (dC (.bl false))) dNever) dSkip) (dSeq (dFor (dIt (dIx (dV 2) (dC (.int 1)))) (gdName 3) (dSeq (dIf (dOrT (dNotT (dTr (dIsa2 "list" "tuple" (dV 3)))) (dOrT (dCmp pNeB (dCB oLen (dCons (dV 3) dNil)) (dC (.int 2))) (dOrT (dNotT (dTr (dIsa "str" (dIx (dV 3) (dC (.int 0)))))) (dNotT (dTr (dCall d_law_is_number (dCons (dIx (dV 3) (dC (.int 1))) dNil))))))) (dSeq (dRet (dC (.bl false))) dNever) dSkip) dSkip)) (dSeq (dRet (dAnd (dCB oAll (dCons (dComp (dIt (dIx (dV 2) (dC (.int 1)))) [3] (gdName 3) dYes (dBin (bo pInA) (dIx (dV 3) (dC (.int 0))) (dTup (dCons (dC (.str "end")) (dCons (dC (.str "crimp")) dNil))))) dNil)) (dAnd (dBin (bo pEqB) (dCB oLen (dCons (dIx (dV 2) (dC (.int 2))) dNil)) (dC (.int 2))) (dCB oAll (dCons (dComp (dIt (dIx (dV 2) (dC (.int 2)))) [5] (gdName 5) dYes (dCall d_law_is_number (dCons (dV 5) dNil))) dNil))))) dNever))))))))
def d_law_is_case_row : DDen := dDef 6 .rep b_law_is_case_row
def b_law_cases_fault : DenS := (dSeq (dIf (dOrT (dNotT (dTr (dIsa2 "list" "tuple" (dV 1)))) (dCmp pEqB (dCB oLen (dCons (dV 1) dNil)) (dC (.int 0)))) (dSeq (dRet (dTup (dCons (dC (.str "form")) (dCons (dC (.int 0)) dNil)))) dNever) dSkip) (dSeq (dFor (dRng1 (dCons (dCB oLen (dCons (dV 1) dNil)) dNil)) (gdName 2) (dSeq (dIf (dNotT (dTr (dCall d_law_is_case_row (dCons (dCB oLen (dCons (dIx (dV 0) (dC (.int 1))) dNil)) (dCons (dIx (dV 1) (dV 2)) dNil))))) (dSeq (dRet (dTup (dCons (dC (.str "form")) (dCons (dV 2) dNil)))) dNever) dSkip) dSkip)) (dSeq (dIf (dCmp pNeB (dCB oListA (dCons (dIx (dIx (dV 1) (dC (.int 0))) (dC (.int 0))) dNil)) (dIx (dV 0) (dC (.int 1)))) (dSeq (dRet (dTup (dCons (dC (.str "row")) (dCons (dC (.int 0)) dNil)))) dNever) dSkip) (dSeq (dFor (dRng1 (dCons (dCB oLen (dCons (dV 1) dNil)) dNil)) (gdName 2) (dSeq (dPar 3 4 (dCB oListA (dCons (dIx (dIx (dV 1) (dV 2)) (dC (.int 0))) dNil)) (dIx (dIx (dV 1) (dV 2)) (dC (.int 1)))) (dSeq (dIf (dCmp pEqB (dIx (dV 4) (dC (.int 0))) (dC (.str "lock"))) (dSeq (dSet 5 (dCall d_law_barred (dCons (dLst (dCons (dIx (dV 0) (dC (.int 0))) (dCons (dV 3) dNil))) (dCons (dIx (dV 4) (dC (.int 1))) (dCons (dIx (dV 4) (dC (.int 2))) dNil))))) dSkip) (dSeq (dPar 6 7 (dIx (dV 4) (dC (.int 1))) (dCB oListA (dCons (dSl pSl (dV 4) (dSome (dC (.int 2))) dNo) dNil))) (dSeq (dSet 5 (dAnd (dOfT (dChT pLe pLe (dC (.int 1)) (dV 6) (dCB oLen (dCons (dV 3) dNil)))) (dAnd (dBin (bo pEqB) (dIx (dV 3) (dBin pSub (dV 6) (dC (.int 1)))) (dC (.str "?"))) (dCB oAll (dCons (dComp (dIt (dV 7)) [9] (gdName 9) dYes (dOfT (dChT pLt pLt (dV 2) (dV 9) (dCB oLen (dCons (dV 1) dNil))))) dNil))))) (dSeq (dFor (dRng1 (dCons (dIfE (dTr (dV 5)) (dC (.int 2)) (dC (.int 0))) dNil)) (gdName 8) (dSeq (dSet 5 (dAnd (dV 5) (dBin (bo pEqB) (dCB oListA (dCons (dIx (dIx (dV 1) (dIx (dV 7) (dV 8))) (dC (.int 0))) dNil)) (dBin pPlus (dBin pPlus (dSl pSl (dV 3) dNo (dSome (dBin pSub (dV 6) (dC (.int 1))))) (dLst (dCons (dIx (dC (.str "mv")) (dV 8)) dNil))) (dSl pSl (dV 3) (dSome (dV 6)) dNo))))) dSkip)) dSkip)))) (dSeq (dIf (dNotT (dTr (dV 5))) (dSeq (dRet (dTup (dCons (dC (.str "row")) (dCons (dV 2) dNil)))) dNever) dSkip) dSkip)))) (dSeq (dRet (dC .non)) dNever)))))
def d_law_cases_fault : DDen := dDef 10 .rep b_law_cases_fault
def b_law_stuck_strip : DenS := (dSeq (dSet 1 (dBin pPlus (dC (.int 3)) (dCall d_law_pick (dCons (dV 0) (dCons (dC (.int 4)) dNil))))) (dSeq (dAsg (gdTupA 2 (gdCons (gdName 2) (gdCons (gdName 3) gdNil))) (dTup (dCons (dBin pPlus (dC (.int 1)) (dCall d_law_pick (dCons (dV 0) (dCons (dC (.int 2)) dNil)))) (dCons (dCall d_law_one (dCons (dV 0) (dCons (dLst (dCons (dC (.str "m")) (dCons (dC (.str "v")) dNil))) dNil))) dNil)))) (dSeq (dSet 4 (dComp (dRng1 (dCons (dV 1) dNil)) [5] (gdName 5) dYes (dBin pPlus (dV 2) (dIfE (dOrT (dCmp pInA (dV 5) (dTup (dCons (dC (.int 0)) (dCons (dBin pSub (dV 1) (dC (.int 1))) dNil)))) (dCmp pEqB (dCall d_law_pick (dCons (dV 0) (dCons (dC (.int 4)) dNil))) (dC (.int 0)))) (dBin pPlus (dC (.int 1)) (dCall d_law_pick (dCons (dV 0) (dCons (dC (.int 2)) dNil)))) (dC (.int 0)))))) (dSeq (dRet (dLst (dCons (dV 4) (dCons (dComp (dRng1 (dCons (dBin pSub (dV 1) (dC (.int 1))) dNil)) [5] (gdName 5) dYes (dIfE (dCmp pGt (dCall d_law_pick (dCons (dV 0) (dCons (dC (.int 3)) dNil))) (dC (.int 0))) (dV 3) (dCall d_law_one (dCons (dV 0) (dCons (dLst (dCons (dC (.str "m")) (dCons (dC (.str "v")) (dCons (dC (.str "?")) (dCons (dC (.str "?")) dNil))))) dNil))))) dNil)))) dNever))))
def d_law_stuck_strip : DDen := dDef 6 .frs b_law_stuck_strip
def b_law_way : DenS := (dSeq (dSetW 3 (dLst (dCons (dC (.int 0)) dNil))) (dSeq (dWhile 100000 (dCmp pEqB (dIx (dIx (dIx (dV 1) (dIx (dV 3) (dNeg (dC (.int 1))))) (dC (.int 1))) (dC (.int 0))) (dC (.str "free"))) (dSeq (dAsg (gdTupA 4 (gdCons (gdName 4) (gdCons (gdName 5) (gdCons (gdName 6) (gdCons (gdName 7) gdNil))))) (dIx (dIx (dV 1) (dIx (dV 3) (dNeg (dC (.int 1))))) (dC (.int 1)))) (dSeq (dApp 3 (dIfE (dTr (dCall d_law_lies_so (dCons (dC (.str "m")) (dCons (dBin pSub (dV 5) (dC (.int 1))) (dCons (dBin (bo pGt) (dIdx (dV 2) (dV 5)) (dIdx (dV 2) (dBin pSub (dV 5) (dC (.int 1))))) dNil))))) (dV 6) (dV 7))) dSkip))) (dSeq (dRet (dV 3)) dNever)))
def d_law_way : DDen := dDef 8 .frs b_law_way
def b_tried (rec_ : DDen) : DenS := (dSeq (dSet 2 (dCall d_locked (dCons (dV 0) (dCons (dV 1) dNil)))) (dSeq (dIf (dCmp pIsnt (dV 2) (dC .non)) (dSeq (dRet (dTup (dCons (dC .non) (dCons (dLst (dCons (dTup (dCons (dV 1) (dCons (dTup (dCons (dC (.str "lock")) (dCons (dIx (dV 2) (dC (.int 0))) (dCons (dIx (dV 2) (dC (.int 1))) dNil)))) dNil))) dNil)) dNil)))) dNever) dSkip) (dSeq (dIf (dCmp pNinA (dC (.str "?")) (dV 1)) (dSeq (dRet (dTup (dCons (dIx (dCall d_answer_of (dCons (dV 0) (dCons (dV 1) dNil))) (dC (.int 1))) (dCons (dC .non) dNil)))) dNever) dSkip) (dSeq (dSet 3 (dBin pPlus (dIdx (dV 1) (dC (.str "?"))) (dC (.int 1)))) (dSeq (dAsg (gdTupA 2 (gdCons (gdName 4) (gdCons (gdName 5) gdNil))) (dCall rec_ (dCons (dV 0) (dCons (dCall d_told_at (dCons (dV 1) (dCons (dV 3) (dCons (dC (.str "m")) dNil)))) dNil)))) (dSeq (dIf (dCmp pIsnt (dV 4) (dC .non)) (dSeq (dRet (dTup (dCons (dV 4) (dCons (dC .non) dNil)))) dNever) dSkip) (dSeq (dAsg (gdTupA 2 (gdCons (gdName 4) (gdCons (gdName 6) gdNil))) (dCall rec_ (dCons (dV 0) (dCons (dCall d_told_at (dCons (dV 1) (dCons (dV 3) (dCons (dC (.str "v")) dNil)))) dNil)))) (dSeq (dIf (dCmp pIsnt (dV 4) (dC .non)) (dSeq (dRet (dTup (dCons (dV 4) (dCons (dC .non) dNil)))) dNever) dSkip) (dSeq (dSet 7 (dLst (dCons (dTup (dCons (dV 1) (dCons (dTup (dCons (dC (.str "free")) (dCons (dV 3) (dCons (dC (.int 1)) (dCons (dBin pPlus (dC (.int 1)) (dCB oLen (dCons (dV 5) dNil))) dNil))))) dNil))) dNil))) (dSeq (dRet (dTup (dCons (dC .non) (dCons (dBin pPlus (dBin pPlus (dV 7) (dCall d_moved_on (dCons (dV 5) (dCons (dC (.int 1)) dNil)))) (dCall d_moved_on (dCons (dV 6) (dCons (dBin pPlus (dC (.int 1)) (dCB oLen (dCons (dV 5) dNil))) dNil)))) dNil)))) dNever))))))))))
def d_tried_ : Nat → DDen
  | 0 => fun _ _ => .stuck
  | n + 1 => dDef 8 .rep (b_tried (d_tried_ n))
abbrev d_tried : DDen := d_tried_ 8
def b_case_answer : DenS := (dSeq (dExpr (dCall d_need_strip (dCons (dV 0) dNil))) (dSeq (dAsg (gdTupA 2 (gdCons (gdName 1) (gdCons (gdName 2) gdNil))) (dCall d_tried (dCons (dMeth "Strip" "lengths" d_Strip_lengths (dV 0) dNil) (dCons (dMeth "Strip" "creases" d_Strip_creases (dV 0) dNil) dNil)))) (dSeq (dRet (dIfE (dCmp pIs (dV 1) (dC .non)) (dTup (dCons (dC (.str "cases")) (dCons (dV 2) dNil))) (dTup (dCons (dC (.str "layers")) (dCons (dV 1) dNil))))) dNever)))
def d_case_answer : DDen := dDef 3 .rep b_case_answer
def b_can_fold_somehow : DenS := (dSeq (dRet (dBin (bo pEqB) (dIx (dCall d_case_answer (dCons (dV 0) dNil)) (dC (.int 0))) (dC (.str "layers")))) dNever)
def d_can_fold_somehow : DDen := dDef 1 .rep b_can_fold_somehow
end Tr

namespace Tr
open PySem PySem.Spec PyProof.Rows L2
def hs_law_told : List Cl := [("BadStrip", "strip", "strip"), ("BadRing", "ring", "ring"), ("BadOther", "other", "other"), ("BadOrder", "order", "order"), ("BadStep", "step", "step"), ("BadSteps", "steps", "index"), ("BadLock", "lock", "lock"), ("NotTold", "not told", "strip"), ("BadAnswer", "answer", "answer"), ("BadAnswerText", "answer text", "line"), ("BadWholeText", "whole text", "line"), ("BadCases", "cases", "rows")]
def cl_law_told : List Cl := [("BadStrip", "strip", "strip"), ("BadSteps", "steps", "index")]
def b_law_things_right : DenS := (dSeq (dAsg (gdTupA 2 (gdCons (gdName 4) (gdCons (gdName 5) gdNil))) (dCall d_law_done (dCons (dV 1) (dCons (dV 3) dNil)))) (dSeq (dSet 6 (dCall d_law_loose (dCons (dV 0) (dCons (dV 3) dNil)))) (dSeq (dSet 7 (dCall d_law_copy (dCons (dV 6) dNil))) (dSeq (dSet 8 (dTold "told" cl_law_told (dCall d_done (dCons (dV 2) (dCons (dV 6) dNil))))) (dSeq (dIf (dNotT (dTr (dCall d_law_same (dCons (dV 6) (dCons (dV 7) dNil))))) (dSeq (dRet (dC (.bl false))) dNever) dSkip) (dSeq (dIf (dCmp pIsnt (dV 5) (dC .non)) (dSeq (dRet (dCall d_law_same (dCons (dV 8) (dCons (dLst (dCons (dC (.str "steps")) (dCons (dV 5) dNil))) dNil)))) dNever) dSkip) (dSeq (dRet (dAnd (dBin (bo pEqB) (dIx (dV 8) (dC (.int 0))) (dC (.str "told"))) (dAnd (dIsInG "Strip" (dIx (dV 8) (dC (.int 1)))) (dCall d_law_same (dCons (dLst (dCons (dMeth "Strip" "lengths" d_Strip_lengths (dIx (dV 8) (dC (.int 1))) dNil) (dCons (dMeth "Strip" "creases" d_Strip_creases (dIx (dV 8) (dC (.int 1))) dNil) dNil))) (dCons (dV 4) dNil)))))) dNever)))))))
def d_law_things_right : DDen := dDef 9 .rep b_law_things_right
def b_law : DenS := (dSeq (dFor (dRng1 (dCons (dC (.int 4)) dNil)) (gdName 2) (dSeq (dSet 3 (dCall d_law_draw_strip (dCons (dV 1) (dCons (dC (.int 1)) (dCons (dCall d_law_one (dCons (dV 1) (dCons (dLst (dCons (dC (.int 4)) (dCons (dC (.int 7)) (dCons (dC (.int 10)) dNil)))) dNil))) (dCons (dCall d_law_one (dCons (dV 1) (dCons (dLst (dCons (dC (.int 0)) (dCons (dC (.int 3)) dNil))) dNil))) dNil)))))) (dSeq (dSet 4 (dCall d_law_strip_of (dCons (dV 3) dNil))) (dSeq (dAsg (gdTupA 2 (gdCons (gdName 5) (gdCons (gdName 6) gdNil))) (dCall d_law_down (dCons (dV 1) (dCons (dV 3) dNil)))) (dSeq (dSetW 7 (dLst (dCons (dV 5) (dCons (dSl pSl (dV 5) dNo (dSome (dCall d_law_pick (dCons (dV 1) (dCons (dBin pPlus (dCB oLen (dCons (dV 5) dNil)) (dC (.int 1))) dNil))))) (dCons (dLst dNil) (dCons (dBin pPlus (dV 5) (dLst (dCons (dTup (dCons (dC (.str "end")) (dCons (dC (.int 0)) dNil))) dNil))) (dCons (dBin pPlus (dV 5) (dSl pSl (dV 5) dNo (dSome (dC (.int 1))))) (dCons (dCall d_law_mixed (dCons (dV 1) (dCons (dV 5) dNil))) dNil)))))))) (dSeq (dFor (dRng1 (dCons (dC (.int 4)) dNil)) (gdName 8) (dSeq (dSet 11 (dCall d_law_pick (dCons (dV 1) (dCons (dBin pPlus (dCB oLen (dCons (dV 5) dNil)) (dC (.int 1))) dNil)))) (dSeq (dApp 7 (dBin pPlus (dBin pPlus (dSl pSl (dV 5) dNo (dSome (dV 11))) (dLst (dCons (dCall d_law_one (dCons (dV 1) (dCons (dCall d_law_odd_steps (dCons (dV 1) (dCons (dV 3) dNil))) dNil))) dNil))) (dSl pSl (dV 5) (dSome (dV 11)) dNo))) dSkip))) (dSeq (dFor (dIt (dV 7)) (gdName 9) (dSeq (dIf (dNotT (dTr (dCall d_law_things_right (dCons (dV 1) (dCons (dV 3) (dCons (dV 4) (dCons (dV 9) dNil))))))) (dSeq (dRet (dC (.bl false))) dNever) dSkip) dSkip)) (dSeq (dFor (dIt (dTup (dCons (dC .non) (dCons (dC (.int 5)) (dCons (dC (.str "end")) (dCons dDNew (dCons (dC (.bl true)) dNil))))))) (gdName 10) (dSeq (dIf (dNotT (dTr (dCall d_law_same (dCons (dTold "told" cl_law_told (dCall d_done (dCons (dV 4) (dCons (dCall d_law_copy (dCons (dV 10) dNil)) dNil)))) (dCons (dLst (dCons (dC (.str "steps")) (dCons (dC (.int 0)) dNil))) dNil))))) (dSeq (dRet (dC (.bl false))) dNever) dSkip) (dSeq (dIf (dNotT (dTr (dCall d_law_same (dCons (dTold "told" cl_law_told (dCall d_done (dCons (dCall d_law_copy (dCons (dV 10) dNil)) (dCons (dC .non) dNil)))) (dCons (dLst (dCons (dC (.str "strip")) (dCons (dV 10) dNil))) dNil))))) (dSeq (dRet (dC (.bl false))) dNever) dSkip) dSkip))) dSkip)))))))) (dSeq (dRet (dC (.bl true))) dNever))
end Tr

namespace Tr
open PySem PySem.Spec PyProof.Rows L2
theorem exZ : ∃ n : Nat, n = sizeLine := ⟨_, rfl⟩
/-- the longest list, of which no checker unfolds anything -/
noncomputable def qsz : Nat := Classical.choose exZ
theorem qsz_eq : qsz = sizeLine := Classical.choose_spec exZ
theorem small_q {n : Nat} (h : n ≤ 1000) : n ≤ qsz := by rw [qsz_eq]; exact small_len h
theorem lt_q' {n : Nat} (h : n < 1000) : n < qsz := small_q h
theorem mid_q {n : Nat} (h : n ≤ 100000) : n < qsz := by rw [qsz_eq]; exact Nat.lt_of_le_of_lt h (by decide)
section
variable {σ : Sl} {g : Rg}
@[simp] theorem noX_ok {α : Type} (a : α) (g : Rg) : noX (Res.ok a g) = .ok a g := rfl
@[simp] theorem x_dDef (n : Nat) (md : Md) (d : DenS) (ps : List PV) : dDef n md d ps g = toRes md (d (startP n ps) g) := Eq.trans rfl rfl
@[simp] theorem x_toRes_ret (md : Md) (p : PV) : toRes md (.ret p g) = .ok p g := by cases md <;> rfl
@[simp] theorem x_toRes_next (σ : Sl) : toRes .rep (.next σ g) = .ok .non g := Eq.trans rfl rfl
@[simp] theorem x_toRes_exc (md : Md) (k : Str) (ns : List Str) (ps : List PV) : toRes md (.exc k ns ps g) = .exc k ns ps g := by cases md <;> rfl
@[simp] theorem x_startP (n : Nat) (ps : List PV) : startP n ps = ps.map some ++ List.replicate (n - ps.length) none := Eq.trans rfl rfl
@[simp] theorem x_dSeq (a b : DenS) : dSeq a b σ g = match a σ g with | .next σ' g' => b σ' g' | r => r := Eq.trans rfl rfl
@[simp] theorem x_dSkip : dSkip σ g = .next σ g := Eq.trans rfl rfl
@[simp] theorem x_dRet (d : Den) : dRet d σ g = (d σ g).bindS fun p g => .ret p g := Eq.trans rfl rfl
@[simp] theorem x_dRetN : dRetN σ g = .ret .non g := Eq.trans rfl rfl
@[simp] theorem x_dExpr (d : Den) : dExpr d σ g = (d σ g).bindS fun _ g => .next σ g := Eq.trans rfl rfl
@[simp] theorem x_dIf (c : DenT) (a b : DenS) : dIf c a b σ g = (c σ g).bindS fun t g => if t = true then a σ g else b σ g := Eq.trans rfl rfl
@[simp] theorem x_dSet (i : Nat) (d : Den) : dSet i d σ g = (d σ g).bindS fun p g => .next (σ.set i (some p)) g := Eq.trans rfl rfl
@[simp] theorem x_dSetW (i : Nat) (d : Den) : dSetW i d σ g = (d σ g).bindS fun p g => if i < σ.length then .next (σ.set i (some p)) g else .stuck := Eq.trans rfl rfl
@[simp] theorem x_dPar (i j : Nat) (da db : Den) : dPar i j da db σ g = (da σ g).bindS fun p g => (db σ g).bindS fun q g => .next ((σ.set i (some p)).set j (some q)) g := Eq.trans rfl rfl
@[simp] theorem x_dParW (i j : Nat) (da db : Den) : dParW i j da db σ g = if i < σ.length ∧ j < σ.length then (da σ g).bindS fun p g => (db σ g).bindS fun q g => .next ((σ.set i (some p)).set j (some q)) g else .stuck := Eq.trans rfl rfl
@[simp] theorem x_dAsg (gd : DenG) (d : Den) : dAsg gd d σ g = (d σ g).bindS fun p g => match gd p σ with | some σ' => .next σ' g | none => .stuck := Eq.trans rfl rfl
@[simp] theorem x_dFor (di : DenL) (gd : DenG) (b : DenS) : dFor di gd b σ g = (di σ g).bindS fun items g => loopS gd b items σ g := Eq.trans rfl rfl
@[simp] theorem x_dC (p : PV) : dC p σ g = .ok p g := Eq.trans rfl rfl
@[simp] theorem x_dV (i : Nat) : dV i σ g = match σ[i]? with | some (some p) => .ok p g | _ => .stuck := Eq.trans rfl rfl
@[simp] theorem x_dBin (o : PV → PV → Option PV) (da db : Den) : dBin o da db σ g = (da σ g).bind fun p g => (db σ g).bind fun q g => match o p q with | some w => .ok w g | none => .stuck := Eq.trans rfl rfl
@[simp] theorem x_bo (o : PV → PV → Option Bool) (p q : PV) : bo o p q = (o p q).map PV.bl := Eq.trans rfl rfl
@[simp] theorem x_dTr (d : Den) : dTr d σ g = (d σ g).bind fun p g => match truth p with | some b => .ok b g | none => .stuck := Eq.trans rfl rfl
@[simp] theorem x_dCmp (o : PV → PV → Option Bool) (da db : Den) : dCmp o da db σ g = (da σ g).bind fun p g => (db σ g).bind fun q g => match o p q with | some w => .ok w g | none => .stuck := Eq.trans rfl rfl
@[simp] theorem x_dChT (o o' : PV → PV → Option Bool) (da db dc : Den) : dChT o o' da db dc σ g = (da σ g).bind fun p g => (db σ g).bind fun q g => match o p q with
  | some true => (dc σ g).bind fun r g => match o' q r with | some w => .ok w g | none => .stuck
  | some false => .ok false g
  | none => .stuck := Eq.trans rfl rfl
@[simp] theorem x_dOfT (d : DenT) : dOfT d σ g = (d σ g).bind fun b g => .ok (.bl b) g := Eq.trans rfl rfl
@[simp] theorem x_dAndT (a b : DenT) : dAndT a b σ g = (a σ g).bind fun c g => if c = true then b σ g else .ok false g := Eq.trans rfl rfl
@[simp] theorem x_dOrT (a b : DenT) : dOrT a b σ g = (a σ g).bind fun c g => if c = true then .ok true g else b σ g := Eq.trans rfl rfl
@[simp] theorem x_dNotT (a : DenT) : dNotT a σ g = (a σ g).bind fun c g => .ok (!c) g := Eq.trans rfl rfl
@[simp] theorem x_dYes : dYes σ g = .ok true g := Eq.trans rfl rfl
def andR (p : PV) (k : Res PV) (g : Rg) : Res PV := match p with | .bl true => k | .bl false => .ok (.bl false) g | _ => .stuck
def orR (p : PV) (k : Res PV) (g : Rg) : Res PV := match p with | .bl false => k | .bl true => .ok (.bl true) g | _ => .stuck
@[simp] theorem andR_bl (b : Bool) (k : Res PV) : andR (.bl b) k g = if b = true then k else .ok (.bl false) g := by cases b <;> rfl
@[simp] theorem orR_bl (b : Bool) (k : Res PV) : orR (.bl b) k g = if b = true then .ok (.bl true) g else k := by cases b <;> rfl
@[simp] theorem x_dAnd (da db : Den) : dAnd da db σ g = (da σ g).bind fun p g => andR p (db σ g) g := Eq.trans rfl rfl
@[simp] theorem x_dOr (da db : Den) : dOr da db σ g = (da σ g).bind fun p g => orR p (db σ g) g := Eq.trans rfl rfl
@[simp] theorem x_dNot (da : Den) : dNot da σ g = (da σ g).bind fun p g => match p with | .bl b => .ok (.bl (!b)) g | _ => .stuck := Eq.trans rfl rfl
@[simp] theorem x_dIfE (c : DenT) (a b : Den) : dIfE c a b σ g = (c σ g).bind fun t g => if t = true then a σ g else b σ g := Eq.trans rfl rfl
@[simp] theorem x_dNeg (da : Den) : dNeg da σ g = (da σ g).bind fun p g => match p with | .int i => .ok (.int (-i)) g | _ => .stuck := Eq.trans rfl rfl
@[simp] theorem x_dNil : dNil σ g = .ok [] g := Eq.trans rfl rfl
@[simp] theorem x_dCons (d : Den) (ds : DenL) : dCons d ds σ g = (d σ g).bind fun p g => (ds σ g).bind fun ps g => .ok (p :: ps) g := Eq.trans rfl rfl
@[simp] theorem x_dLst (ds : DenL) : dLst ds σ g = (ds σ g).bind fun ps g => .ok (.lst ps) g := Eq.trans rfl rfl
@[simp] theorem x_dTup (ds : DenL) : dTup ds σ g = (ds σ g).bind fun ps g => .ok (.tup ps) g := Eq.trans rfl rfl
@[simp] theorem x_dIx (da db : Den) : dIx da db σ g = (da σ g).bind fun p g => (db σ g).bind fun q g => match pIx p q with | some w => .ok w g | none => .stuck := Eq.trans rfl rfl
@[simp] theorem x_dNo : dNo σ g = .ok none g := Eq.trans rfl rfl
@[simp] theorem x_dSome (d : Den) : dSome d σ g = (d σ g).bind fun p g => match p with | .int i => .ok (some i) g | _ => .stuck := Eq.trans rfl rfl
@[simp] theorem x_dSl (f : PV → Option Int → Option Int → Option PV) (d : Den) (lo hi : DenO) : dSl f d lo hi σ g = (d σ g).bind fun p g => (lo σ g).bind fun a g => (hi σ g).bind fun b g => match f p a b with | some w => .ok w g | none => .stuck := Eq.trans rfl rfl
@[simp] theorem x_dRev (d : Den) : dRev d σ g = (d σ g).bind fun p g => match p with | .lst l => .ok (.lst l.reverse) g | _ => .stuck := Eq.trans rfl rfl
@[simp] theorem x_dFld (k f : Str) (d : Den) : dFld k f d σ g = (d σ g).bind fun p g => match p with
  | .ins k' ns ps => if k' = k then (match fldP ns ps f with | some w => .ok w g | none => .stuck) else .stuck
  | _ => .stuck := Eq.trans rfl rfl
@[simp] theorem x_dCB (o : List PV → Option PV) (ds : DenL) : dCB o ds σ g = (ds σ g).bind fun ps g => match o ps with | some w => .ok w g | none => .stuck := Eq.trans rfl rfl
@[simp] theorem x_dIsa (n : String) (d : Den) : dIsa n d σ g = (d σ g).bind fun p g => match tyP p with | some t => .ok (.bl (isaT t n)) g | none => .stuck := Eq.trans rfl rfl
@[simp] theorem x_dIsa2 (n m : String) (d : Den) : dIsa2 n m d σ g = (d σ g).bind fun p g => match tyP p with | some t => .ok (.bl (isaT t n || isaT t m)) g | none => .stuck := Eq.trans rfl rfl
@[simp] theorem x_dCall (D : DDen) (ds : DenL) : dCall D ds σ g = (ds σ g).bind fun ps g => D ps g := Eq.trans rfl rfl
@[simp] theorem x_dMeth (k m : Str) (D : DDen) (d : Den) (ds : DenL) : dMeth k m D d ds σ g = (d σ g).bind fun p g => match p with
  | .ins k' ns qs => if k' = k ∧ (ns.zip qs).lookup m = none then (ds σ g).bind fun ps g => noX (D (.ins k' ns qs :: ps) g) else .stuck
  | _ => .stuck := Eq.trans rfl rfl
@[simp] theorem x_dMake (D : DDen) (ds : DenL) : dMake D ds σ g = (ds σ g).bind fun ps g => noX (D ps g) := Eq.trans rfl rfl
@[simp] theorem x_dIt (d : Den) : dIt d σ g = (d σ g).bind fun p g => match p with | .lst l => .ok l g | .tup l => .ok l g | _ => .stuck := Eq.trans rfl rfl
@[simp] theorem x_dRng1 (d : DenL) : dRng1 d σ g = (d σ g).bind fun ps g => match ps with
  | [.int j] => if j ≤ 1000 ∧ -1000 ≤ j then .ok (rngP 0 j.toNat) g else .stuck
  | _ => .stuck := Eq.trans rfl rfl
@[simp] theorem x_dRng2 (d : DenL) : dRng2 d σ g = (d σ g).bind fun ps g => match ps with
  | [.int i, .int j] => if i ≤ 1000 ∧ -1000 ≤ i ∧ j ≤ 1000 ∧ -1000 ≤ j then .ok (rngP i (j - i).toNat) g else .stuck
  | _ => .stuck := Eq.trans rfl rfl
@[simp] theorem x_dEnum (d : DenL) : dEnum d σ g = (d σ g).bind fun ps g => match ps with | [.lst l] => .ok (enumP l) g | _ => .stuck := Eq.trans rfl rfl
@[simp] theorem x_dZip (d : DenL) : dZip d σ g = (d σ g).bind fun ps g => match ps with | [.lst l, .lst m] => .ok (zipP l m) g | _ => .stuck := Eq.trans rfl rfl
@[simp] theorem x_dComp (di : DenL) (vs : List Nat) (gd : DenG) (dt : DenT) (de : Den) : dComp di vs gd dt de σ g = (di σ g).bind fun items g => if items.length ≤ sizeLine then (compL gd dt de (wipeP σ vs) items g).bind fun qs g => .ok (.lst qs) g else .stuck := Eq.trans rfl rfl
@[simp] theorem x_dDComp (di : DenL) (vs : List Nat) (gd : DenG) (dt : DenT) (dk dv : Den) : dDComp di vs gd dt dk dv σ g = (di σ g).bind fun items g => if items.length ≤ sizeLine then compD gd dt dk dv (wipeP σ vs) items [] [] g else .stuck := Eq.trans rfl rfl
@[simp] theorem x_gdName (i : Nat) (p : PV) : gdName i p σ = some (σ.set i (some p)) := Eq.trans rfl rfl
@[simp] theorem x_onLst (i : Nat) (f : List PV → SRes) : onLst i σ f = match σ[i]? with | some (some (.lst l)) => f l | _ => .stuck := Eq.trans rfl rfl
@[simp] theorem x_dApp (i : Nat) (d : Den) : dApp i d σ g = onLst i σ fun l => (d σ g).bindS fun p g => if l.length < sizeLine then .next (σ.set i (some (.lst (l ++ [p])))) g else .stuck := Eq.trans rfl rfl
@[simp] theorem x_dExt (i : Nat) (d : Den) : dExt i d σ g = onLst i σ fun l => (d σ g).bindS fun p g => match p with
  | .lst m => if l.length + m.length ≤ sizeLine then .next (σ.set i (some (.lst (l ++ m)))) g else .stuck
  | _ => .stuck := Eq.trans rfl rfl
@[simp] theorem o_plus (i j : Int) : pPlus (.int i) (.int j) = some (.int (i + j)) := rfl
@[simp] theorem o_plusL (a b : List PV) : pPlus (.lst a) (.lst b) = if a.length + b.length ≤ qsz then some (.lst (a ++ b)) else none := by
  rw [qsz_eq]
  simp only [pPlus, pAdd, pCat, pCatS, por]; split <;> simp_all
@[simp] theorem o_cat (a b : List PV) : pCat (.lst a) (.lst b) = if a.length + b.length ≤ qsz then some (.lst (a ++ b)) else none := by
  rw [qsz_eq]
  exact rfl
@[simp] theorem o_sub (i j : Int) : pSub (.int i) (.int j) = some (.int (i - j)) := rfl
@[simp] theorem o_mod (i j : Int) : pMod (.int i) (.int j) = if j ≠ 0 then some (.int (i.fmod j)) else none := rfl
@[simp] theorem o_lt (i j : Int) : pLt (.int i) (.int j) = some (decide (i < j)) := rfl
@[simp] theorem o_le (i j : Int) : pLe (.int i) (.int j) = some (decide (i ≤ j)) := rfl
@[simp] theorem o_gt (i j : Int) : pGt (.int i) (.int j) = some (decide (j < i)) := rfl
@[simp] theorem o_ge (i j : Int) : pGe (.int i) (.int j) = some (decide (j ≤ i)) := rfl
@[simp] theorem o_isN (p : PV) : pIs p .non = some (isNonP p) := rfl
@[simp] theorem o_isntN (p : PV) : pIsnt p .non = some (!isNonP p) := rfl
@[simp] theorem o_isB (a b : Bool) : pIs (.bl a) (.bl b) = some (decide (a = b)) := rfl
@[simp] theorem o_isntB (a b : Bool) : pIsnt (.bl a) (.bl b) = some (!decide (a = b)) := rfl
@[simp] theorem o_non1 : isNonP .non = true := rfl
@[simp] theorem o_non2 (i : Int) : isNonP (.int i) = false := rfl
@[simp] theorem o_non3 (l : List PV) : isNonP (.tup l) = false := rfl
@[simp] theorem o_non4 (l : List PV) : isNonP (.lst l) = false := rfl
@[simp] theorem o_non6 (b : Bool) : isNonP (.bl b) = false := rfl
@[simp] theorem o_non7 (ks : List Key) (vs : List PV) : isNonP (.dct ks vs) = false := rfl
@[simp] theorem o_non5 (s : Str) : isNonP (.str s) = false := rfl
@[simp] theorem o_ixL (l : List PV) (i : Int) : pIx (.lst l) (.int i) = atI l i := rfl
@[simp] theorem o_ixT (l : List PV) (i : Int) : pIx (.tup l) (.int i) = atI l i := rfl
@[simp] theorem o_ixD (ks : List Key) (vs : List PV) (i : Int) : pIx (.dct ks vs) (.int i) = valP ks vs (.inl i) := rfl
@[simp] theorem o_ixS (ks : List Key) (vs : List PV) (i : Str) : pIx (.dct ks vs) (.str i) = valP ks vs (.inr i) := rfl
@[simp] theorem o_sl (l : List PV) (a b : Option Int) : pSl (.lst l) a b = some (.lst (cutL l a b)) := rfl
@[simp] theorem o_lenL (l : List PV) : oLen [.lst l] = some (.int (l.length : Nat)) := rfl
@[simp] theorem o_lenT (l : List PV) : oLen [.tup l] = some (.int (l.length : Nat)) := rfl
@[simp] theorem o_min (i j : Int) : oMin [.int i, .int j] = some (.int (min i j)) := rfl
@[simp] theorem o_max (i j : Int) : oMax [.int i, .int j] = some (.int (max i j)) := rfl
@[simp] theorem o_tB (b : Bool) : truth (.bl b) = some b := rfl
@[simp] theorem ty1 (i : Int) : tyP (.int i) = some "int" := rfl
@[simp] theorem ty2 (i : Bool) : tyP (.bl i) = some "bool" := rfl
@[simp] theorem ty3 (i : Str) : tyP (.str i) = some "str" := rfl
@[simp] theorem ty4 (i : List PV) : tyP (.lst i) = some "list" := rfl
@[simp] theorem ty5 (i : List PV) : tyP (.tup i) = some "tuple" := rfl
@[simp] theorem ty6 : tyP .non = some "NoneType" := rfl
@[simp] theorem ty7 (ks : List Key) (vs : List PV) : tyP (.dct ks vs) = some "dict" := rfl
@[simp] theorem isa_NoneType_int : isaT "NoneType" "int" = false := by decide
@[simp] theorem isa_NoneType_bool : isaT "NoneType" "bool" = false := by decide
@[simp] theorem isa_NoneType_str : isaT "NoneType" "str" = false := by decide
@[simp] theorem isa_NoneType_list : isaT "NoneType" "list" = false := by decide
@[simp] theorem isa_NoneType_tuple : isaT "NoneType" "tuple" = false := by decide
@[simp] theorem isa_NoneType_dict : isaT "NoneType" "dict" = false := by decide
@[simp] theorem isa_int_str : isaT "int" "str" = false := by decide
@[simp] theorem isa_bool_str : isaT "bool" "str" = false := by decide
@[simp] theorem isa_tuple_int : isaT "tuple" "int" = false := by decide
@[simp] theorem isa_tuple_bool : isaT "tuple" "bool" = false := by decide
@[simp] theorem isa_tuple_str : isaT "tuple" "str" = false := by decide
@[simp] theorem isa_dict_int : isaT "dict" "int" = false := by decide
@[simp] theorem isa_dict_bool : isaT "dict" "bool" = false := by decide
@[simp] theorem isa_dict_str : isaT "dict" "str" = false := by decide
@[simp] theorem isa_dict_list : isaT "dict" "list" = false := by decide
@[simp] theorem isa_dict_tuple : isaT "dict" "tuple" = false := by decide
@[simp] theorem isa_dict_dict : isaT "dict" "dict" = true := by decide
@[simp] theorem isa1 : isaT "int" "int" = true := by decide
@[simp] theorem isa2 : isaT "int" "bool" = false := by decide
@[simp] theorem isa3 : isaT "bool" "bool" = true := by decide
@[simp] theorem isa4 : isaT "bool" "int" = true := by decide
@[simp] theorem isa5 : isaT "str" "str" = true := by decide
@[simp] theorem isa6 : isaT "list" "list" = true := by decide
@[simp] theorem isa7 : isaT "tuple" "tuple" = true := by decide
@[simp] theorem isa8 : isaT "list" "tuple" = false := by decide
@[simp] theorem isa9 : isaT "tuple" "list" = false := by decide
@[simp] theorem isa10 : isaT "bool" "list" = false := by decide
@[simp] theorem isa11 : isaT "bool" "tuple" = false := by decide
@[simp] theorem isa12 : isaT "bool" "dict" = false := by decide
@[simp] theorem isa13 : isaT "int" "list" = false := by decide
@[simp] theorem isa14 : isaT "int" "tuple" = false := by decide
@[simp] theorem isa15 : isaT "int" "dict" = false := by decide
@[simp] theorem isa16 : isaT "list" "dict" = false := by decide
@[simp] theorem isa17 : isaT "tuple" "dict" = false := by decide
@[simp] theorem isa18 : isaT "str" "list" = false := by decide
@[simp] theorem isa19 : isaT "str" "tuple" = false := by decide
@[simp] theorem isa20 : isaT "str" "dict" = false := by decide
@[simp] theorem isa21 : isaT "str" "bool" = false := by decide
@[simp] theorem isa22 : isaT "str" "int" = false := by decide
@[simp] theorem isa23 : isaT "list" "int" = false := by decide
@[simp] theorem isa24 : isaT "list" "bool" = false := by decide
@[simp] theorem isa25 : isaT "list" "str" = false := by decide
@[simp] theorem x_dEnumA (d : DenL) : dEnumA d σ g = (d σ g).bind fun ps g => match ps with | [.lst l] => .ok (enumP l) g | [.tup l] => .ok (enumP l) g | _ => .stuck := Eq.trans rfl rfl
@[simp] theorem x_dZipA (d : DenL) : dZipA d σ g = (d σ g).bind fun ps g => match ps with | [.lst l, .lst m] => .ok (zipP l m) g | [.tup l, .tup m] => .ok (zipP l m) g | _ => .stuck := Eq.trans rfl rfl
@[simp] theorem x_dIsInG (k : Str) (d : Den) : dIsInG k d σ g = (d σ g).bind fun p g => match isInP k p with | some b => .ok (.bl b) g | none => .stuck := Eq.trans rfl rfl
@[simp] theorem x_dRaise (k f : Str) (ds : DenL) : dRaise k f ds σ g = (ds σ g).bindS fun ps g => .exc k [f] ps g := Eq.trans rfl rfl
@[simp] theorem x_dTold (w0 : Str) (cl : List Cl) (d : Den) : dTold w0 cl d σ g = toldP w0 cl (d σ g) := Eq.trans rfl rfl
@[simp] theorem x_dDNew : dDNew σ g = .ok (.dct [] []) g := Eq.trans rfl rfl
@[simp] theorem x_dPNil : dPNil σ g = .ok [] g := Eq.trans rfl rfl
@[simp] theorem x_dPCons (dk dv : Den) (ds : DenP) : dPCons dk dv ds σ g = (dk σ g).bind fun k g => (dv σ g).bind fun v g => (ds σ g).bind fun ps g => .ok ((k, v) :: ps) g := Eq.trans rfl rfl
@[simp] theorem x_dDisp (ds : DenP) : dDisp ds σ g = (ds σ g).bind fun ps g => match dispP ps [] [] with | some (ks, vs) => .ok (.dct ks vs) g | none => .stuck := Eq.trans rfl rfl
@[simp] theorem x_dCallS (D : DDen) (ds : DenL) : dCallS D ds σ g = (ds σ g).bind fun ps g => scalR (D ps g) := Eq.trans rfl rfl
@[simp] theorem x_dCh3 (o o' o'' : PV → PV → Option Bool) (da db dc dd : Den) : dCh3 o o' o'' da db dc dd σ g = (da σ g).bind fun p g => (db σ g).bind fun q g => match o p q with
  | some true => (dc σ g).bind fun r g => (match o' q r with
    | some true => (dd σ g).bind fun s g => (match o'' r s with | some w => .ok w g | none => .stuck)
    | some false => .ok false g
    | none => .stuck)
  | some false => .ok false g
  | none => .stuck := Eq.trans rfl rfl
@[simp] theorem x_isInP_ins (k k' : Str) (ns : List Str) (ps : List PV) : isInP k (.ins k' ns ps) = if k' = k then some true else none := rfl
@[simp] theorem x_isInP_non (k : Str) : isInP k .non = some false := rfl
@[simp] theorem x_isInP_bl (k : Str) (b : Bool) : isInP k (.bl b) = some false := rfl
@[simp] theorem x_isInP_int (k : Str) (b : Int) : isInP k (.int b) = some false := rfl
@[simp] theorem x_isInP_str (k : Str) (b : Str) : isInP k (.str b) = some false := rfl
@[simp] theorem x_isInP_lst (k : Str) (b : List PV) : isInP k (.lst b) = some false := rfl
@[simp] theorem x_isInP_tup (k : Str) (b : List PV) : isInP k (.tup b) = some false := rfl
@[simp] theorem x_isInP_dct (k : Str) (b : List Key) (c : List PV) : isInP k (.dct b c) = some false := rfl
@[simp] theorem o_listL (l : List PV) : oListA [.lst l] = some (.lst l) := rfl
@[simp] theorem o_listT (l : List PV) : oListA [.tup l] = some (.lst l) := rfl
@[simp] theorem o_listD (ks : List Key) (l : List PV) : oListA [.dct ks l] = some (.lst (ks.map keyV)) := rfl
@[simp] theorem o_tupL (l : List PV) : oTuple [.lst l] = some (.tup l) := rfl
@[simp] theorem o_tupT (l : List PV) : oTuple [.tup l] = some (.tup l) := rfl
@[simp] theorem o_lenD (ks : List Key) (l : List PV) : oLen [.dct ks l] = some (.int (ks.length : Nat)) := rfl
@[simp] theorem o_plusS (a b : Str) : pPlus (.str a) (.str b) = if a.length + b.length ≤ qsz then some (.str (a ++ b)) else none := by
  rw [qsz_eq]
  exact rfl
@[simp] theorem o_tL (l : List PV) : truth (.lst l) = some (!l.isEmpty) := rfl
@[simp] theorem o_tI (i : Int) : truth (.int i) = some (i != 0) := rfl
@[simp] theorem o_tN : truth .non = some false := rfl
@[simp] theorem o_isn1 (k : Str) (ns : List Str) (vs : List PV) : isNonP (.ins k ns vs) = false := rfl
theorem eqv_int (i j : Int) : PyData.eqv (.int i) (.int j) = decide (i = j) := by simp only [PyData.eqv]; rw [Bool.eq_iff_iff]; simp
@[simp] theorem o_eqI (i j : Int) : pEqB (.int i) (.int j) = some (decide (i = j)) := by
  simp only [pEqB, toD, SeqAt.shaped, PyData.canLay0, PyData.depth, eqv_int]; rfl
@[simp] theorem o_eqB (i j : Bool) : pEqB (.bl i) (.bl j) = some (i == j) := by cases i <;> cases j <;> rfl
@[simp] theorem o_neB (i j : Bool) : pNeB (.bl i) (.bl j) = some (i != j) := by cases i <;> cases j <;> rfl
@[simp] theorem o_neI (i j : Int) : pNeB (.int i) (.int j) = some (!decide (i = j)) := by simp only [pNeB, o_eqI]; rfl
theorem eqv_str (i j : Str) : PyData.eqv (.str i) (.str j) = decide (i = j) := by simp only [PyData.eqv]; rw [Bool.eq_iff_iff]; simp
theorem o_eqS {i j : Str} (h : PyData.strOk i = true) (k : PyData.strOk j = true) : pEqB (.str i) (.str j) = some (decide (i = j)) := by
  simp only [pEqB, toD, SeqAt.shaped, PyData.canLay0, PyData.depth, eqv_str, h, k]; rfl
theorem o_neS {i j : Str} (h : PyData.strOk i = true) (k : PyData.strOk j = true) : pNeB (.str i) (.str j) = some (!decide (i = j)) := by simp only [pNeB, o_eqS h k]; rfl
end
def wE {α : Type} (r : Res α) (Φ : α → Rg → Prop) : Prop := match r with | .ok a g => Φ a g | _ => False
def wS (r : SRes) (N : Sl → Rg → Prop) (R : PV → Rg → Prop) : Prop := match r with | .next σ g => N σ g | .ret p g => R p g | _ => False
def wO {α : Type} (o : Option α) (Φ : α → Prop) : Prop := match o with | some a => Φ a | none => False
theorem wE_mono {α : Type} {r : Res α} {Φ Ψ : α → Rg → Prop} (h : wE r Φ) (k : ∀ a g, Φ a g → Ψ a g) : wE r Ψ := by cases r with | ok a g => exact k a g h | _ => exact h
theorem wS_mono {r : SRes} {N N' : Sl → Rg → Prop} {R R' : PV → Rg → Prop} (h : wS r N R) (k : ∀ σ g, N σ g → N' σ g) (k' : ∀ p g, R p g → R' p g) : wS r N' R' := by
  cases r with
  | next σ g => exact k σ g h
  | ret p g => exact k' p g h
  | _ => exact h
theorem wE_is {α : Type} {r : Res α} {p : α} {g' : Rg} (h : wE r fun a g => a = p ∧ g = g') : r = .ok p g' := by
  cases r with
  | ok a g => obtain ⟨rfl, rfl⟩ := h; rfl
  | _ => exact h.elim
theorem wE_of {α : Type} {r : Res α} {p : α} {g : Rg} {Φ : α → Rg → Prop} (e : r = .ok p g) (h : Φ p g) : wE r Φ := by rw [e]; exact h
@[simp] theorem wO_some {α : Type} (a : α) (Φ : α → Prop) : wO (some a) Φ = Φ a := rfl
@[simp] theorem wO_none {α : Type} (Φ : α → Prop) : wO none Φ = False := rfl
@[simp] theorem wO_ite {α : Type} {c : Prop} [Decidable c] (a : Option α) (Φ : α → Prop) : wO (if c then a else none) Φ = (c ∧ wO a Φ) := by by_cases h : c <;> simp [h]
@[simp] theorem wO_map {α β : Type} (f : α → β) (o : Option α) (Φ : β → Prop) : wO (o.map f) Φ = wO o fun a => Φ (f a) := by cases o <;> rfl
@[simp] theorem wO_bind {α β : Type} (f : α → Option β) (o : Option α) (Φ : β → Prop) : wO (o.bind f) Φ = wO o fun a => wO (f a) Φ := by cases o <;> rfl
def wB (p : PV) (Φ : Bool → Prop) : Prop := match p with | .bl b => Φ b | _ => False
@[simp] theorem wB_bl (b : Bool) (Φ : Bool → Prop) : wB (.bl b) Φ = Φ b := rfl
def wI (p : PV) (Φ : Int → Prop) : Prop := match p with | .int b => Φ b | _ => False
@[simp] theorem wI_int (b : Int) (Φ : Int → Prop) : wI (.int b) Φ = Φ b := rfl
def wL (p : PV) (Φ : List PV → Prop) : Prop := match p with | .lst l => Φ l | _ => False
@[simp] theorem wL_lst (b : List PV) (Φ : List PV → Prop) : wL (.lst b) Φ = Φ b := rfl
def wQ (p : PV) (Φ : List PV → Prop) : Prop := match p with | .lst l => Φ l | .tup l => Φ l | _ => False
@[simp] theorem wQ_lst (b : List PV) (Φ : List PV → Prop) : wQ (.lst b) Φ = Φ b := rfl
@[simp] theorem wQ_tup (b : List PV) (Φ : List PV → Prop) : wQ (.tup b) Φ = Φ b := rfl
theorem bls_mapF {α : Type} (l : List α) (f : α → Bool) : blsP (l.map fun x => .bl (f x)) = some (l.map f) := by
  rw [show (l.map fun x => PV.bl (f x)) = (l.map f).map PV.bl by rw [List.map_map]; rfl, bls_map]
@[simp] theorem o_all {α : Type} (l : List α) (f : α → Bool) : oAll [.lst (l.map fun x => .bl (f x))] = some (.bl (l.all f)) := by
  simp only [oAll, bls_mapF, Option.map_some, List.all_map]; rfl
@[simp] theorem o_any {α : Type} (l : List α) (f : α → Bool) : oAny [.lst (l.map fun x => .bl (f x))] = some (.bl (l.any f)) := by
  simp only [oAny, bls_mapF, Option.map_some, List.any_map]; rfl
def wD (p : PV) (Φ : List Key → Prop) : Prop := match p with | .dct l _ => Φ l | _ => False
@[simp] theorem wD_dct (b : List Key) (c : List PV) (Φ : List Key → Prop) : wD (.dct b c) Φ = Φ b := rfl
def slot (σ : Sl) (i : Nat) : Option PV := match σ[i]? with | some x => x | none => none
@[simp] theorem slot_0 (x : Option PV) (σ : Sl) : slot (x :: σ) 0 = x := rfl
@[simp] theorem slot_s (x : Option PV) (σ : Sl) (i : Nat) : slot (x :: σ) (i + 1) = slot σ i := by simp [slot]
theorem slot_get {σ : Sl} {i : Nat} {Φ : PV → Rg → Prop} {g : Rg} : wE (match σ[i]? with | some (some p) => Res.ok p g | _ => .stuck) Φ = wO (slot σ i) fun p => Φ p g := by
  unfold slot
  cases σ[i]? with
  | none => rfl
  | some x => cases x <;> rfl
def slotL (σ : Sl) (i : Nat) : Option (List PV) := match slot σ i with | some (.lst l) => some l | _ => none
@[simp] theorem slotL_0 (l : List PV) (σ : Sl) : slotL (some (.lst l) :: σ) 0 = some l := rfl
@[simp] theorem slotL_s (x : Option PV) (σ : Sl) (i : Nat) : slotL (x :: σ) (i + 1) = slotL σ i := by simp [slotL]
def slotD (σ : Sl) (i : Nat) : Option (List Key × List PV) := match slot σ i with | some (.dct k l) => some (k, l) | _ => none
@[simp] theorem slotD_0 (k : List Key) (l : List PV) (σ : Sl) : slotD (some (.dct k l) :: σ) 0 = some (k, l) := rfl
@[simp] theorem slotD_s (x : Option PV) (σ : Sl) (i : Nat) : slotD (x :: σ) (i + 1) = slotD σ i := by simp [slotD]
section
variable {σ : Sl} {g : Rg}
section
variable {α β : Type} {Φ : α → Rg → Prop}
@[simp ↓] theorem wE_ok (a : α) : wE (.ok a g) Φ = Φ a g := rfl
@[simp ↓] theorem wE_stuck : wE (.stuck : Res α) Φ = False := rfl
@[simp ↓] theorem wE_exc (k : Str) (ns : List Str) (ps : List PV) : wE (.exc k ns ps g : Res α) Φ = False := rfl
theorem wE_bind (r : Res β) (f : β → Rg → Res α) : wE (r.bind f) Φ = wE r fun a g => wE (f a g) Φ := by cases r <;> rfl
@[simp ↓] theorem wE_noX (r : Res α) : wE (noX r) Φ = wE r Φ := by cases r <;> rfl
@[simp ↓] theorem wE_ite {c : Prop} [Decidable c] (r s : Res α) : wE (if c then r else s) Φ = if c then wE r Φ else wE s Φ := by by_cases h : c <;> simp only [h, if_true, if_false]
def k_bind_1 (Φ : α → Rg → Prop) (f : β → Rg → Res α) (a : β) (g : Rg) : Prop := wE (f a g) Φ
@[simp] theorem k_bind_1_e (Φ : α → Rg → Prop) (f : β → Rg → Res α) (a : β) (g : Rg) : k_bind_1 Φ f a g = (wE (f a g) Φ) := Eq.trans rfl rfl
@[simp ↓] theorem wE_bind_k (r : Res β) (f : β → Rg → Res α) : wE (r.bind f) Φ = wE r (k_bind_1 Φ f) := wE_bind _ _
end
section
variable {Φ : PV → Rg → Prop}
@[simp ↓] theorem wE_dC (p : PV) : wE (dC p σ g) Φ = Φ p g := rfl
theorem wE_dV (i : Nat) : wE (dV i σ g) Φ = wO (slot σ i) fun p => Φ p g := by rw [← slot_get]; rfl
theorem wE_dBin (o : PV → PV → Option PV) (da db : Den) : wE (dBin o da db σ g) Φ = wE (da σ g) fun p g => wE (db σ g) fun q g => wO (o p q) fun w => Φ w g := by
  simp only [x_dBin, wE_bind]
  congr 1; funext p g; congr 1; funext q g
  cases o p q <;> rfl
theorem exT : ∃ f : PV → PV → Option PV, f = pTimes := ⟨_, rfl⟩
/-- * of which no checker unfolds anything -/
noncomputable def qTimes : PV → PV → Option PV := Classical.choose exT
theorem qTimes_eq : qTimes = pTimes := Classical.choose_spec exT
def kT3 (g : Rg) (Φ : PV → Rg → Prop) (w : PV) : Prop := Φ w g
@[simp] theorem kT3_e (g : Rg) (Φ : PV → Rg → Prop) (w : PV) : kT3 g Φ w = Φ w g := Eq.trans rfl rfl
def kT2 (p : PV) (Φ : PV → Rg → Prop) (q : PV) (g : Rg) : Prop := wO (qTimes p q) (kT3 g Φ)
@[simp] theorem kT2_e (p : PV) (Φ : PV → Rg → Prop) (q : PV) (g : Rg) : kT2 p Φ q g = wO (qTimes p q) (kT3 g Φ) := Eq.trans rfl rfl
def kT1 (σ : Sl) (db : Den) (Φ : PV → Rg → Prop) (p : PV) (g : Rg) : Prop := wE (db σ g) (kT2 p Φ)
@[simp] theorem kT1_e (σ : Sl) (db : Den) (Φ : PV → Rg → Prop) (p : PV) (g : Rg) : kT1 σ db Φ p g = wE (db σ g) (kT2 p Φ) := Eq.trans rfl rfl
@[simp ↓ 1200] theorem wE_dTimes (da db : Den) : wE (dBin pTimes da db σ g) Φ = wE (da σ g) (kT1 σ db Φ) := by
  rw [wE_dBin, ← qTimes_eq]
  rfl
theorem wO_bo (o : PV → PV → Option Bool) (p q : PV) (Φ : PV → Prop) : wO (bo o p q) Φ = wO (o p q) fun b => Φ (.bl b) := by unfold bo; rw [wO_map]
theorem wE_dAnd (da db : Den) : wE (dAnd da db σ g) Φ = wE (da σ g) fun p g => wB p fun b => if b = true then wE (db σ g) Φ else Φ (.bl false) g := by
  unfold dAnd
  rw [wE_bind]
  congr 1; funext p g
  cases p with
  | bl b => cases b <;> rfl
  | _ => rfl
theorem wE_dOr (da db : Den) : wE (dOr da db σ g) Φ = wE (da σ g) fun p g => wB p fun b => if b = true then Φ (.bl true) g else wE (db σ g) Φ := by
  unfold dOr
  rw [wE_bind]
  congr 1; funext p g
  cases p with
  | bl b => cases b <;> rfl
  | _ => rfl
theorem wE_dNot (da : Den) : wE (dNot da σ g) Φ = wE (da σ g) fun p g => wB p fun b => Φ (.bl (!b)) g := by
  rw [x_dNot, wE_bind]; congr 1; funext p g; cases p <;> rfl
theorem wE_dNeg (da : Den) : wE (dNeg da σ g) Φ = wE (da σ g) fun p g => wI p fun i => Φ (.int (-i)) g := by
  rw [x_dNeg, wE_bind]; congr 1; funext p g; cases p <;> rfl
theorem wE_dIfE (c : DenT) (a b : Den) : wE (dIfE c a b σ g) Φ = wE (c σ g) fun t g => if t = true then wE (a σ g) Φ else wE (b σ g) Φ := by
  simp only [x_dIfE, wE_bind, wE_ite]
theorem wE_dLst (ds : DenL) : wE (dLst ds σ g) Φ = wE (ds σ g) fun ps g => Φ (.lst ps) g := by simp only [x_dLst, wE_bind, wE_ok]
theorem wE_dTup (ds : DenL) : wE (dTup ds σ g) Φ = wE (ds σ g) fun ps g => Φ (.tup ps) g := by simp only [x_dTup, wE_bind, wE_ok]
theorem wE_dIx (da db : Den) : wE (dIx da db σ g) Φ = wE (da σ g) fun p g => wE (db σ g) fun q g => wO (pIx p q) fun w => Φ w g := by
  simp only [x_dIx, wE_bind]
  congr 1; funext p g; congr 1; funext q g
  cases pIx p q <;> rfl
theorem wE_dSl (f : PV → Option Int → Option Int → Option PV) (d : Den) (lo hi : DenO) : wE (dSl f d lo hi σ g) Φ = wE (d σ g) fun p g => wE (lo σ g) fun oa g => wE (hi σ g) fun ob g => wO (f p oa ob) fun w => Φ w g := by
  simp only [x_dSl, wE_bind]
  congr 1; funext p g; congr 1; funext a g; congr 1; funext b g
  cases f p a b <;> rfl
theorem wE_dIdx (da db : Den) : wE (dIdx da db σ g) Φ = wE (da σ g) fun p g => wL p fun l => wE (db σ g) fun q g => wO (oIdx (.lst l) q) fun w => Φ w g := by
  unfold dIdx
  rw [wE_bind]; congr 1; funext p g
  cases p <;> first | rfl | skip
  rename_i l
  simp only [wL_lst]
  rw [wE_bind]; congr 1; funext q g
  cases oIdx (.lst l) q <;> rfl
theorem wE_dRev (d : Den) : wE (dRev d σ g) Φ = wE (d σ g) fun p g => wL p fun l => Φ (.lst l.reverse) g := by
  rw [x_dRev, wE_bind]; congr 1; funext p g; cases p <;> rfl
def wIns (k : Str) (p : PV) (Φ : List Str → List PV → Prop) : Prop := match p with | .ins k' ns ps => k' = k ∧ Φ ns ps | _ => False
@[simp] theorem wIns_ins (k k' : Str) (ns : List Str) (ps : List PV) (Φ : List Str → List PV → Prop) : wIns k (.ins k' ns ps) Φ = (k' = k ∧ Φ ns ps) := rfl
theorem wE_dFld (k f : Str) (d : Den) : wE (dFld k f d σ g) Φ = wE (d σ g) fun p g => wIns k p fun fs vs => wO (fldP fs vs f) fun w => Φ w g := by
  rw [x_dFld, wE_bind]; congr 1; funext p g
  cases p with
  | ins k' ns ps =>
    simp only [wIns_ins]
    by_cases h : k' = k
    · simp only [h, if_true, true_and]; cases fldP ns ps f <;> rfl
    · simp only [h, if_false, false_and]; rfl
  | _ => rfl
theorem wE_dCB (o : List PV → Option PV) (ds : DenL) : wE (dCB o ds σ g) Φ = wE (ds σ g) fun ps g => wO (o ps) fun w => Φ w g := by
  rw [x_dCB, wE_bind]; congr 1; funext p g; cases o p <;> rfl
theorem wE_dIsa (n : String) (d : Den) : wE (dIsa n d σ g) Φ = wE (d σ g) fun p g => wO (tyP p) fun u => Φ (.bl (isaT u n)) g := by
  rw [x_dIsa, wE_bind]; congr 1; funext p g; cases tyP p <;> rfl
theorem wE_dIsa2 (n m : String) (d : Den) : wE (dIsa2 n m d σ g) Φ = wE (d σ g) fun p g => wO (tyP p) fun u => Φ (.bl (isaT u n || isaT u m)) g := by
  rw [x_dIsa2, wE_bind]; congr 1; funext p g; cases tyP p <;> rfl
theorem wE_dIsInG (k : Str) (d : Den) : wE (dIsInG k d σ g) Φ = wE (d σ g) fun p g => wO (isInP k p) fun b => Φ (.bl b) g := by
  rw [x_dIsInG, wE_bind]; congr 1; funext p g; cases isInP k p <;> rfl
theorem wE_dCall (D : DDen) (ds : DenL) : wE (dCall D ds σ g) Φ = wE (ds σ g) fun ps g => wE (D ps g) Φ := by simp only [x_dCall, wE_bind]
theorem wE_dCallS (D : DDen) (ds : DenL) : wE (dCallS D ds σ g) Φ = wE (ds σ g) fun ps g => wE (D ps g) fun p g => scal p = true ∧ Φ p g := by
  simp only [x_dCallS, wE_bind]; congr 1; funext ps g
  unfold scalR
  cases D ps g with
  | ok p g => by_cases h : scal p = true <;> simp [h, wE]
  | _ => rfl
theorem wE_dMake (D : DDen) (ds : DenL) : wE (dMake D ds σ g) Φ = wE (ds σ g) fun ps g => wE (D ps g) Φ := by simp only [x_dMake, wE_bind, wE_noX]
theorem wE_dMeth (c f : Str) (D : DDen) (d : Den) (ds : DenL) : wE (dMeth c f D d ds σ g) Φ = wE (d σ g) fun p g => wIns c p fun fs vs => (fs.zip vs).lookup f = none ∧ wE (ds σ g) fun ps g => wE (D (.ins c fs vs :: ps) g) Φ := by
  rw [x_dMeth, wE_bind]; congr 1; funext p g
  cases p with
  | ins k' ns ps =>
    simp only [wIns_ins]
    by_cases h : k' = c
    · subst h
      by_cases h2 : (ns.zip ps).lookup f = none
      · simp only [h2, true_and, and_self, if_true, wE_bind, wE_noX]
      · simp only [h2, and_false, if_false, true_and, false_and]; rfl
    · simp only [h, false_and, if_false]; rfl
  | _ => rfl
theorem wE_dComp (di : DenL) (vs : List Nat) (gd : DenG) (dt : DenT) (de : Den) : wE (dComp di vs gd dt de σ g) Φ = wE (di σ g) fun items g => items.length ≤ qsz ∧ wE (compL gd dt de (wipeP σ vs) items g) fun qs g => Φ (.lst qs) g := by
  rw [qsz_eq]
  rw [x_dComp, wE_bind]; congr 1; funext p g
  by_cases h : p.length ≤ sizeLine <;> simp only [h, if_true, if_false, wE_bind, wE_ok, true_and, false_and, wE_stuck]
theorem wE_dDComp (di : DenL) (vs : List Nat) (gd : DenG) (dt : DenT) (dk dv : Den) : wE (dDComp di vs gd dt dk dv σ g) Φ = wE (di σ g) fun items g => items.length ≤ qsz ∧ wE (compD gd dt dk dv (wipeP σ vs) items [] [] g) Φ := by
  rw [qsz_eq]
  rw [x_dDComp, wE_bind]; congr 1; funext p g
  by_cases h : p.length ≤ sizeLine <;> simp only [h, if_true, if_false, true_and, false_and, wE_stuck]
theorem wE_dOfT (d : DenT) : wE (dOfT d σ g) Φ = wE (d σ g) fun b g => Φ (.bl b) g := by simp only [x_dOfT, wE_bind, wE_ok]
@[simp ↓] theorem wE_dDNew : wE (dDNew σ g) Φ = Φ (.dct [] []) g := rfl
theorem wE_dDisp (ds : DenP) : wE (dDisp ds σ g) Φ = wE (ds σ g) fun ps g => wO (dispP ps [] []) fun x => Φ (.dct x.1 x.2) g := by
  rw [x_dDisp, wE_bind]; congr 1; funext p g; cases dispP p [] [] <;> rfl
theorem wE_dLR1 (d : Den) : wE (dLR1 d σ g) Φ = wE (d σ g) fun p g => wI p fun j => rgOk 0 j ∧ Φ (.lst (rngP 0 (j - 0).toNat)) g := by
  unfold dLR1
  rw [wE_bind]; congr 1; funext p g
  cases p <;> first | rfl | skip
  rename_i n
  by_cases h : rgOk 0 n <;> simp [h]
theorem wE_dLR2 (da db : Den) : wE (dLR2 da db σ g) Φ = wE (da σ g) fun p g => wE (db σ g) fun q g => wI p fun i => wI q fun j => rgOk i j ∧ Φ (.lst (rngP i (j - i).toNat)) g := by
  unfold dLR2
  simp only [wE_bind]; congr 1; funext p g; congr 1; funext q g
  cases p <;> first | rfl | skip
  cases q <;> first | rfl | skip
  rename_i m n
  by_cases h : rgOk m n <;> simp [h]
@[simp ↓] theorem wE_dTold (w0 : Str) (cl : List Cl) (d : Den) : wE (dTold w0 cl d σ g) Φ = wE (toldP w0 cl (d σ g)) Φ := rfl
theorem wE_dDef (n : Nat) (b : DenS) (ps : List PV) : wE (dDef n .rep b ps g) Φ = wS (b (startP n ps) g) (fun _ g => Φ .non g) Φ := by
  unfold dDef
  cases b (startP n ps) g <;> rfl
theorem wE_dDefF (n : Nat) (b : DenS) (ps : List PV) : wE (dDef n .frs b ps g) Φ = wS (b (startP n ps) g) (fun _ g => False) Φ := by
  unfold dDef
  cases b (startP n ps) g <;> rfl
theorem wE_dDefO (n : Nat) (b : DenS) (ps : List PV) : wE (dDefO n b ps g) Φ = wS (b (startP n ps) g) (fun _ g => Φ .non g) Φ := by
  unfold dDefO
  cases b (startP n ps) g <;> rfl
def k_dV_2 (g : Rg) (Φ : PV → Rg → Prop) (p : PV) : Prop := Φ p g
@[simp] theorem k_dV_2_e (g : Rg) (Φ : PV → Rg → Prop) (p : PV) : k_dV_2 g Φ p = (Φ p g) := Eq.trans rfl rfl
@[simp ↓] theorem wE_dV_k (i : Nat) : wE (dV i σ g) Φ = wO (slot σ i) (k_dV_2 g Φ) := wE_dV _
def k_dBin_3 (g : Rg) (Φ : PV → Rg → Prop) (w : PV) : Prop := Φ w g
@[simp] theorem k_dBin_3_e (g : Rg) (Φ : PV → Rg → Prop) (w : PV) : k_dBin_3 g Φ w = (Φ w g) := Eq.trans rfl rfl
def k_dBin_4 (Φ : PV → Rg → Prop) (o : PV → PV → Option PV) (p : PV) (q : PV) (g : Rg) : Prop := wO (o p q) (k_dBin_3 g Φ)
@[simp] theorem k_dBin_4_e (Φ : PV → Rg → Prop) (o : PV → PV → Option PV) (p : PV) (q : PV) (g : Rg) : k_dBin_4 Φ o p q g = (wO (o p q) (k_dBin_3 g Φ)) := Eq.trans rfl rfl
def k_dBin_5 (σ : Sl) (Φ : PV → Rg → Prop) (o : PV → PV → Option PV) (db : Den) (p : PV) (g : Rg) : Prop := wE (db σ g) (k_dBin_4 Φ o p)
@[simp] theorem k_dBin_5_e (σ : Sl) (Φ : PV → Rg → Prop) (o : PV → PV → Option PV) (db : Den) (p : PV) (g : Rg) : k_dBin_5 σ Φ o db p g = (wE (db σ g) (k_dBin_4 Φ o p)) := Eq.trans rfl rfl
@[simp ↓] theorem wE_dBin_k (o : PV → PV → Option PV) (da db : Den) : wE (dBin o da db σ g) Φ = wE (da σ g) (k_dBin_5 σ Φ o db) := wE_dBin _ _ _
def k_bo_6 (Φ : PV → Prop) (b : Bool) : Prop := Φ (.bl b)
@[simp] theorem k_bo_6_e (Φ : PV → Prop) (b : Bool) : k_bo_6 Φ b = (Φ (.bl b)) := Eq.trans rfl rfl
@[simp ↓] theorem wO_bo_k (o : PV → PV → Option Bool) (p q : PV) (Φ : PV → Prop) : wO (bo o p q) Φ = wO (o p q) (k_bo_6 Φ) := wO_bo _ _ _ _
def k_dAnd_7 (σ : Sl) (g : Rg) (Φ : PV → Rg → Prop) (db : Den) (b : Bool) : Prop := if b = true then wE (db σ g) Φ else Φ (.bl false) g
@[simp] theorem k_dAnd_7_e (σ : Sl) (g : Rg) (Φ : PV → Rg → Prop) (db : Den) (b : Bool) : k_dAnd_7 σ g Φ db b = (if b = true then wE (db σ g) Φ else Φ (.bl false) g) := Eq.trans rfl rfl
def k_dAnd_8 (σ : Sl) (Φ : PV → Rg → Prop) (db : Den) (p : PV) (g : Rg) : Prop := wB p (k_dAnd_7 σ g Φ db)
@[simp] theorem k_dAnd_8_e (σ : Sl) (Φ : PV → Rg → Prop) (db : Den) (p : PV) (g : Rg) : k_dAnd_8 σ Φ db p g = (wB p (k_dAnd_7 σ g Φ db)) := Eq.trans rfl rfl
@[simp ↓] theorem wE_dAnd_k (da db : Den) : wE (dAnd da db σ g) Φ = wE (da σ g) (k_dAnd_8 σ Φ db) := wE_dAnd _ _
def k_dOr_9 (σ : Sl) (g : Rg) (Φ : PV → Rg → Prop) (db : Den) (b : Bool) : Prop := if b = true then Φ (.bl true) g else wE (db σ g) Φ
@[simp] theorem k_dOr_9_e (σ : Sl) (g : Rg) (Φ : PV → Rg → Prop) (db : Den) (b : Bool) : k_dOr_9 σ g Φ db b = (if b = true then Φ (.bl true) g else wE (db σ g) Φ) := Eq.trans rfl rfl
def k_dOr_10 (σ : Sl) (Φ : PV → Rg → Prop) (db : Den) (p : PV) (g : Rg) : Prop := wB p (k_dOr_9 σ g Φ db)
@[simp] theorem k_dOr_10_e (σ : Sl) (Φ : PV → Rg → Prop) (db : Den) (p : PV) (g : Rg) : k_dOr_10 σ Φ db p g = (wB p (k_dOr_9 σ g Φ db)) := Eq.trans rfl rfl
@[simp ↓] theorem wE_dOr_k (da db : Den) : wE (dOr da db σ g) Φ = wE (da σ g) (k_dOr_10 σ Φ db) := wE_dOr _ _
def k_dNot_11 (g : Rg) (Φ : PV → Rg → Prop) (b : Bool) : Prop := Φ (.bl (!b)) g
@[simp] theorem k_dNot_11_e (g : Rg) (Φ : PV → Rg → Prop) (b : Bool) : k_dNot_11 g Φ b = (Φ (.bl (!b)) g) := Eq.trans rfl rfl
def k_dNot_12 (Φ : PV → Rg → Prop) (p : PV) (g : Rg) : Prop := wB p (k_dNot_11 g Φ)
@[simp] theorem k_dNot_12_e (Φ : PV → Rg → Prop) (p : PV) (g : Rg) : k_dNot_12 Φ p g = (wB p (k_dNot_11 g Φ)) := Eq.trans rfl rfl
@[simp ↓] theorem wE_dNot_k (da : Den) : wE (dNot da σ g) Φ = wE (da σ g) (k_dNot_12 Φ) := wE_dNot _
def k_dNeg_13 (g : Rg) (Φ : PV → Rg → Prop) (i : Int) : Prop := Φ (.int (-i)) g
@[simp] theorem k_dNeg_13_e (g : Rg) (Φ : PV → Rg → Prop) (i : Int) : k_dNeg_13 g Φ i = (Φ (.int (-i)) g) := Eq.trans rfl rfl
def k_dNeg_14 (Φ : PV → Rg → Prop) (p : PV) (g : Rg) : Prop := wI p (k_dNeg_13 g Φ)
@[simp] theorem k_dNeg_14_e (Φ : PV → Rg → Prop) (p : PV) (g : Rg) : k_dNeg_14 Φ p g = (wI p (k_dNeg_13 g Φ)) := Eq.trans rfl rfl
@[simp ↓] theorem wE_dNeg_k (da : Den) : wE (dNeg da σ g) Φ = wE (da σ g) (k_dNeg_14 Φ) := wE_dNeg _
def k_dIfE_15 (σ : Sl) (Φ : PV → Rg → Prop) (a : Den) (b : Den) (t : Bool) (g : Rg) : Prop := if t = true then wE (a σ g) Φ else wE (b σ g) Φ
@[simp] theorem k_dIfE_15_e (σ : Sl) (Φ : PV → Rg → Prop) (a : Den) (b : Den) (t : Bool) (g : Rg) : k_dIfE_15 σ Φ a b t g = (if t = true then wE (a σ g) Φ else wE (b σ g) Φ) := Eq.trans rfl rfl
@[simp ↓] theorem wE_dIfE_k (c : DenT) (a b : Den) : wE (dIfE c a b σ g) Φ = wE (c σ g) (k_dIfE_15 σ Φ a b) := wE_dIfE _ _ _
def k_dLst_16 (Φ : PV → Rg → Prop) (ps : List PV) (g : Rg) : Prop := Φ (.lst ps) g
@[simp] theorem k_dLst_16_e (Φ : PV → Rg → Prop) (ps : List PV) (g : Rg) : k_dLst_16 Φ ps g = (Φ (.lst ps) g) := Eq.trans rfl rfl
@[simp ↓] theorem wE_dLst_k (ds : DenL) : wE (dLst ds σ g) Φ = wE (ds σ g) (k_dLst_16 Φ) := wE_dLst _
def k_dTup_17 (Φ : PV → Rg → Prop) (ps : List PV) (g : Rg) : Prop := Φ (.tup ps) g
@[simp] theorem k_dTup_17_e (Φ : PV → Rg → Prop) (ps : List PV) (g : Rg) : k_dTup_17 Φ ps g = (Φ (.tup ps) g) := Eq.trans rfl rfl
@[simp ↓] theorem wE_dTup_k (ds : DenL) : wE (dTup ds σ g) Φ = wE (ds σ g) (k_dTup_17 Φ) := wE_dTup _
def k_dIx_18 (g : Rg) (Φ : PV → Rg → Prop) (w : PV) : Prop := Φ w g
@[simp] theorem k_dIx_18_e (g : Rg) (Φ : PV → Rg → Prop) (w : PV) : k_dIx_18 g Φ w = (Φ w g) := Eq.trans rfl rfl
def k_dIx_19 (Φ : PV → Rg → Prop) (p : PV) (q : PV) (g : Rg) : Prop := wO (pIx p q) (k_dIx_18 g Φ)
@[simp] theorem k_dIx_19_e (Φ : PV → Rg → Prop) (p : PV) (q : PV) (g : Rg) : k_dIx_19 Φ p q g = (wO (pIx p q) (k_dIx_18 g Φ)) := Eq.trans rfl rfl
def k_dIx_20 (σ : Sl) (Φ : PV → Rg → Prop) (db : Den) (p : PV) (g : Rg) : Prop := wE (db σ g) (k_dIx_19 Φ p)
@[simp] theorem k_dIx_20_e (σ : Sl) (Φ : PV → Rg → Prop) (db : Den) (p : PV) (g : Rg) : k_dIx_20 σ Φ db p g = (wE (db σ g) (k_dIx_19 Φ p)) := Eq.trans rfl rfl
@[simp ↓] theorem wE_dIx_k (da db : Den) : wE (dIx da db σ g) Φ = wE (da σ g) (k_dIx_20 σ Φ db) := wE_dIx _ _
def k_dSl_21 (g : Rg) (Φ : PV → Rg → Prop) (w : PV) : Prop := Φ w g
@[simp] theorem k_dSl_21_e (g : Rg) (Φ : PV → Rg → Prop) (w : PV) : k_dSl_21 g Φ w = (Φ w g) := Eq.trans rfl rfl
def k_dSl_22 (Φ : PV → Rg → Prop) (f : PV → Option Int → Option Int → Option PV) (p : PV) (oa : Option Int) (ob : Option Int) (g : Rg) : Prop := wO (f p oa ob) (k_dSl_21 g Φ)
@[simp] theorem k_dSl_22_e (Φ : PV → Rg → Prop) (f : PV → Option Int → Option Int → Option PV) (p : PV) (oa : Option Int) (ob : Option Int) (g : Rg) : k_dSl_22 Φ f p oa ob g = (wO (f p oa ob) (k_dSl_21 g Φ)) := Eq.trans rfl rfl
def k_dSl_23 (σ : Sl) (Φ : PV → Rg → Prop) (f : PV → Option Int → Option Int → Option PV) (hi : DenO) (p : PV) (oa : Option Int) (g : Rg) : Prop := wE (hi σ g) (k_dSl_22 Φ f p oa)
@[simp] theorem k_dSl_23_e (σ : Sl) (Φ : PV → Rg → Prop) (f : PV → Option Int → Option Int → Option PV) (hi : DenO) (p : PV) (oa : Option Int) (g : Rg) : k_dSl_23 σ Φ f hi p oa g = (wE (hi σ g) (k_dSl_22 Φ f p oa)) := Eq.trans rfl rfl
def k_dSl_24 (σ : Sl) (Φ : PV → Rg → Prop) (f : PV → Option Int → Option Int → Option PV) (lo : DenO) (hi : DenO) (p : PV) (g : Rg) : Prop := wE (lo σ g) (k_dSl_23 σ Φ f hi p)
@[simp] theorem k_dSl_24_e (σ : Sl) (Φ : PV → Rg → Prop) (f : PV → Option Int → Option Int → Option PV) (lo : DenO) (hi : DenO) (p : PV) (g : Rg) : k_dSl_24 σ Φ f lo hi p g = (wE (lo σ g) (k_dSl_23 σ Φ f hi p)) := Eq.trans rfl rfl
@[simp ↓] theorem wE_dSl_k (f : PV → Option Int → Option Int → Option PV) (d : Den) (lo hi : DenO) : wE (dSl f d lo hi σ g) Φ = wE (d σ g) (k_dSl_24 σ Φ f lo hi) := wE_dSl _ _ _ _
def k_dIdx_25 (g : Rg) (Φ : PV → Rg → Prop) (w : PV) : Prop := Φ w g
@[simp] theorem k_dIdx_25_e (g : Rg) (Φ : PV → Rg → Prop) (w : PV) : k_dIdx_25 g Φ w = (Φ w g) := Eq.trans rfl rfl
def k_dIdx_26 (Φ : PV → Rg → Prop) (l : List PV) (q : PV) (g : Rg) : Prop := wO (oIdx (.lst l) q) (k_dIdx_25 g Φ)
@[simp] theorem k_dIdx_26_e (Φ : PV → Rg → Prop) (l : List PV) (q : PV) (g : Rg) : k_dIdx_26 Φ l q g = (wO (oIdx (.lst l) q) (k_dIdx_25 g Φ)) := Eq.trans rfl rfl
def k_dIdx_27 (σ : Sl) (g : Rg) (Φ : PV → Rg → Prop) (db : Den) (l : List PV) : Prop := wE (db σ g) (k_dIdx_26 Φ l)
@[simp] theorem k_dIdx_27_e (σ : Sl) (g : Rg) (Φ : PV → Rg → Prop) (db : Den) (l : List PV) : k_dIdx_27 σ g Φ db l = (wE (db σ g) (k_dIdx_26 Φ l)) := Eq.trans rfl rfl
def k_dIdx_28 (σ : Sl) (Φ : PV → Rg → Prop) (db : Den) (p : PV) (g : Rg) : Prop := wL p (k_dIdx_27 σ g Φ db)
@[simp] theorem k_dIdx_28_e (σ : Sl) (Φ : PV → Rg → Prop) (db : Den) (p : PV) (g : Rg) : k_dIdx_28 σ Φ db p g = (wL p (k_dIdx_27 σ g Φ db)) := Eq.trans rfl rfl
@[simp ↓] theorem wE_dIdx_k (da db : Den) : wE (dIdx da db σ g) Φ = wE (da σ g) (k_dIdx_28 σ Φ db) := wE_dIdx _ _
def k_dRev_29 (g : Rg) (Φ : PV → Rg → Prop) (l : List PV) : Prop := Φ (.lst l.reverse) g
@[simp] theorem k_dRev_29_e (g : Rg) (Φ : PV → Rg → Prop) (l : List PV) : k_dRev_29 g Φ l = (Φ (.lst l.reverse) g) := Eq.trans rfl rfl
def k_dRev_30 (Φ : PV → Rg → Prop) (p : PV) (g : Rg) : Prop := wL p (k_dRev_29 g Φ)
@[simp] theorem k_dRev_30_e (Φ : PV → Rg → Prop) (p : PV) (g : Rg) : k_dRev_30 Φ p g = (wL p (k_dRev_29 g Φ)) := Eq.trans rfl rfl
@[simp ↓] theorem wE_dRev_k (d : Den) : wE (dRev d σ g) Φ = wE (d σ g) (k_dRev_30 Φ) := wE_dRev _
def k_dFld_31 (g : Rg) (Φ : PV → Rg → Prop) (w : PV) : Prop := Φ w g
@[simp] theorem k_dFld_31_e (g : Rg) (Φ : PV → Rg → Prop) (w : PV) : k_dFld_31 g Φ w = (Φ w g) := Eq.trans rfl rfl
def k_dFld_32 (g : Rg) (Φ : PV → Rg → Prop) (f : Str) (fs : List Str) (vs : List PV) : Prop := wO (fldP fs vs f) (k_dFld_31 g Φ)
@[simp] theorem k_dFld_32_e (g : Rg) (Φ : PV → Rg → Prop) (f : Str) (fs : List Str) (vs : List PV) : k_dFld_32 g Φ f fs vs = (wO (fldP fs vs f) (k_dFld_31 g Φ)) := Eq.trans rfl rfl
def k_dFld_33 (Φ : PV → Rg → Prop) (k : Str) (f : Str) (p : PV) (g : Rg) : Prop := wIns k p (k_dFld_32 g Φ f)
@[simp] theorem k_dFld_33_e (Φ : PV → Rg → Prop) (k : Str) (f : Str) (p : PV) (g : Rg) : k_dFld_33 Φ k f p g = (wIns k p (k_dFld_32 g Φ f)) := Eq.trans rfl rfl
@[simp ↓] theorem wE_dFld_k (k f : Str) (d : Den) : wE (dFld k f d σ g) Φ = wE (d σ g) (k_dFld_33 Φ k f) := wE_dFld _ _ _
def k_dCB_34 (g : Rg) (Φ : PV → Rg → Prop) (w : PV) : Prop := Φ w g
@[simp] theorem k_dCB_34_e (g : Rg) (Φ : PV → Rg → Prop) (w : PV) : k_dCB_34 g Φ w = (Φ w g) := Eq.trans rfl rfl
def k_dCB_35 (Φ : PV → Rg → Prop) (o : List PV → Option PV) (ps : List PV) (g : Rg) : Prop := wO (o ps) (k_dCB_34 g Φ)
@[simp] theorem k_dCB_35_e (Φ : PV → Rg → Prop) (o : List PV → Option PV) (ps : List PV) (g : Rg) : k_dCB_35 Φ o ps g = (wO (o ps) (k_dCB_34 g Φ)) := Eq.trans rfl rfl
@[simp ↓] theorem wE_dCB_k (o : List PV → Option PV) (ds : DenL) : wE (dCB o ds σ g) Φ = wE (ds σ g) (k_dCB_35 Φ o) := wE_dCB _ _
def k_dIsa_36 (g : Rg) (Φ : PV → Rg → Prop) (n : String) (u : String) : Prop := Φ (.bl (isaT u n)) g
@[simp] theorem k_dIsa_36_e (g : Rg) (Φ : PV → Rg → Prop) (n : String) (u : String) : k_dIsa_36 g Φ n u = (Φ (.bl (isaT u n)) g) := Eq.trans rfl rfl
def k_dIsa_37 (Φ : PV → Rg → Prop) (n : String) (p : PV) (g : Rg) : Prop := wO (tyP p) (k_dIsa_36 g Φ n)
@[simp] theorem k_dIsa_37_e (Φ : PV → Rg → Prop) (n : String) (p : PV) (g : Rg) : k_dIsa_37 Φ n p g = (wO (tyP p) (k_dIsa_36 g Φ n)) := Eq.trans rfl rfl
@[simp ↓] theorem wE_dIsa_k (n : String) (d : Den) : wE (dIsa n d σ g) Φ = wE (d σ g) (k_dIsa_37 Φ n) := wE_dIsa _ _
def k_dIsa2_38 (g : Rg) (Φ : PV → Rg → Prop) (n : String) (m : String) (u : String) : Prop := Φ (.bl (isaT u n || isaT u m)) g
@[simp] theorem k_dIsa2_38_e (g : Rg) (Φ : PV → Rg → Prop) (n : String) (m : String) (u : String) : k_dIsa2_38 g Φ n m u = (Φ (.bl (isaT u n || isaT u m)) g) := Eq.trans rfl rfl
def k_dIsa2_39 (Φ : PV → Rg → Prop) (n : String) (m : String) (p : PV) (g : Rg) : Prop := wO (tyP p) (k_dIsa2_38 g Φ n m)
@[simp] theorem k_dIsa2_39_e (Φ : PV → Rg → Prop) (n : String) (m : String) (p : PV) (g : Rg) : k_dIsa2_39 Φ n m p g = (wO (tyP p) (k_dIsa2_38 g Φ n m)) := Eq.trans rfl rfl
@[simp ↓] theorem wE_dIsa2_k (n m : String) (d : Den) : wE (dIsa2 n m d σ g) Φ = wE (d σ g) (k_dIsa2_39 Φ n m) := wE_dIsa2 _ _ _
def k_dIsInG_40 (g : Rg) (Φ : PV → Rg → Prop) (b : Bool) : Prop := Φ (.bl b) g
@[simp] theorem k_dIsInG_40_e (g : Rg) (Φ : PV → Rg → Prop) (b : Bool) : k_dIsInG_40 g Φ b = (Φ (.bl b) g) := Eq.trans rfl rfl
def k_dIsInG_41 (Φ : PV → Rg → Prop) (k : Str) (p : PV) (g : Rg) : Prop := wO (isInP k p) (k_dIsInG_40 g Φ)
@[simp] theorem k_dIsInG_41_e (Φ : PV → Rg → Prop) (k : Str) (p : PV) (g : Rg) : k_dIsInG_41 Φ k p g = (wO (isInP k p) (k_dIsInG_40 g Φ)) := Eq.trans rfl rfl
@[simp ↓] theorem wE_dIsInG_k (k : Str) (d : Den) : wE (dIsInG k d σ g) Φ = wE (d σ g) (k_dIsInG_41 Φ k) := wE_dIsInG _ _
def k_dCall_42 (Φ : PV → Rg → Prop) (D : DDen) (ps : List PV) (g : Rg) : Prop := wE (D ps g) Φ
@[simp] theorem k_dCall_42_e (Φ : PV → Rg → Prop) (D : DDen) (ps : List PV) (g : Rg) : k_dCall_42 Φ D ps g = (wE (D ps g) Φ) := Eq.trans rfl rfl
@[simp ↓] theorem wE_dCall_k (D : DDen) (ds : DenL) : wE (dCall D ds σ g) Φ = wE (ds σ g) (k_dCall_42 Φ D) := wE_dCall _ _
def k_dCallS_43 (Φ : PV → Rg → Prop) (p : PV) (g : Rg) : Prop := scal p = true ∧ Φ p g
@[simp] theorem k_dCallS_43_e (Φ : PV → Rg → Prop) (p : PV) (g : Rg) : k_dCallS_43 Φ p g = (scal p = true ∧ Φ p g) := Eq.trans rfl rfl
def k_dCallS_44 (Φ : PV → Rg → Prop) (D : DDen) (ps : List PV) (g : Rg) : Prop := wE (D ps g) (k_dCallS_43 Φ)
@[simp] theorem k_dCallS_44_e (Φ : PV → Rg → Prop) (D : DDen) (ps : List PV) (g : Rg) : k_dCallS_44 Φ D ps g = (wE (D ps g) (k_dCallS_43 Φ)) := Eq.trans rfl rfl
@[simp ↓] theorem wE_dCallS_k (D : DDen) (ds : DenL) : wE (dCallS D ds σ g) Φ = wE (ds σ g) (k_dCallS_44 Φ D) := wE_dCallS _ _
def k_dMake_45 (Φ : PV → Rg → Prop) (D : DDen) (ps : List PV) (g : Rg) : Prop := wE (D ps g) Φ
@[simp] theorem k_dMake_45_e (Φ : PV → Rg → Prop) (D : DDen) (ps : List PV) (g : Rg) : k_dMake_45 Φ D ps g = (wE (D ps g) Φ) := Eq.trans rfl rfl
@[simp ↓] theorem wE_dMake_k (D : DDen) (ds : DenL) : wE (dMake D ds σ g) Φ = wE (ds σ g) (k_dMake_45 Φ D) := wE_dMake _ _
def k_dMeth_46 (Φ : PV → Rg → Prop) (c : Str) (D : DDen) (fs : List Str) (vs : List PV) (ps : List PV) (g : Rg) : Prop := wE (D (.ins c fs vs :: ps) g) Φ
@[simp] theorem k_dMeth_46_e (Φ : PV → Rg → Prop) (c : Str) (D : DDen) (fs : List Str) (vs : List PV) (ps : List PV) (g : Rg) : k_dMeth_46 Φ c D fs vs ps g = (wE (D (.ins c fs vs :: ps) g) Φ) := Eq.trans rfl rfl
def k_dMeth_47 (σ : Sl) (g : Rg) (Φ : PV → Rg → Prop) (c : Str) (f : Str) (D : DDen) (ds : DenL) (fs : List Str) (vs : List PV) : Prop := (fs.zip vs).lookup f = none ∧ wE (ds σ g) (k_dMeth_46 Φ c D fs vs)
@[simp] theorem k_dMeth_47_e (σ : Sl) (g : Rg) (Φ : PV → Rg → Prop) (c : Str) (f : Str) (D : DDen) (ds : DenL) (fs : List Str) (vs : List PV) : k_dMeth_47 σ g Φ c f D ds fs vs = ((fs.zip vs).lookup f = none ∧ wE (ds σ g) (k_dMeth_46 Φ c D fs vs)) := Eq.trans rfl rfl
def k_dMeth_48 (σ : Sl) (Φ : PV → Rg → Prop) (c : Str) (f : Str) (D : DDen) (ds : DenL) (p : PV) (g : Rg) : Prop := wIns c p (k_dMeth_47 σ g Φ c f D ds)
@[simp] theorem k_dMeth_48_e (σ : Sl) (Φ : PV → Rg → Prop) (c : Str) (f : Str) (D : DDen) (ds : DenL) (p : PV) (g : Rg) : k_dMeth_48 σ Φ c f D ds p g = (wIns c p (k_dMeth_47 σ g Φ c f D ds)) := Eq.trans rfl rfl
@[simp ↓] theorem wE_dMeth_k (c f : Str) (D : DDen) (d : Den) (ds : DenL) : wE (dMeth c f D d ds σ g) Φ = wE (d σ g) (k_dMeth_48 σ Φ c f D ds) := wE_dMeth _ _ _ _ _
def k_dComp_49 (Φ : PV → Rg → Prop) (qs : List PV) (g : Rg) : Prop := Φ (.lst qs) g
@[simp] theorem k_dComp_49_e (Φ : PV → Rg → Prop) (qs : List PV) (g : Rg) : k_dComp_49 Φ qs g = (Φ (.lst qs) g) := Eq.trans rfl rfl
def k_dComp_50 (σ : Sl) (Φ : PV → Rg → Prop) (vs : List Nat) (gd : DenG) (dt : DenT) (de : Den) (items : List PV) (g : Rg) : Prop := items.length ≤ qsz ∧ wE (compL gd dt de (wipeP σ vs) items g) (k_dComp_49 Φ)
@[simp] theorem k_dComp_50_e (σ : Sl) (Φ : PV → Rg → Prop) (vs : List Nat) (gd : DenG) (dt : DenT) (de : Den) (items : List PV) (g : Rg) : k_dComp_50 σ Φ vs gd dt de items g = (items.length ≤ qsz ∧ wE (compL gd dt de (wipeP σ vs) items g) (k_dComp_49 Φ)) := Eq.trans rfl rfl
@[simp ↓] theorem wE_dComp_k (di : DenL) (vs : List Nat) (gd : DenG) (dt : DenT) (de : Den) : wE (dComp di vs gd dt de σ g) Φ = wE (di σ g) (k_dComp_50 σ Φ vs gd dt de) := wE_dComp _ _ _ _ _
def k_dDComp_51 (σ : Sl) (Φ : PV → Rg → Prop) (vs : List Nat) (gd : DenG) (dt : DenT) (dk : Den) (dv : Den) (items : List PV) (g : Rg) : Prop := items.length ≤ qsz ∧ wE (compD gd dt dk dv (wipeP σ vs) items [] [] g) Φ
@[simp] theorem k_dDComp_51_e (σ : Sl) (Φ : PV → Rg → Prop) (vs : List Nat) (gd : DenG) (dt : DenT) (dk : Den) (dv : Den) (items : List PV) (g : Rg) : k_dDComp_51 σ Φ vs gd dt dk dv items g = (items.length ≤ qsz ∧ wE (compD gd dt dk dv (wipeP σ vs) items [] [] g) Φ) := Eq.trans rfl rfl
@[simp ↓] theorem wE_dDComp_k (di : DenL) (vs : List Nat) (gd : DenG) (dt : DenT) (dk dv : Den) : wE (dDComp di vs gd dt dk dv σ g) Φ = wE (di σ g) (k_dDComp_51 σ Φ vs gd dt dk dv) := wE_dDComp _ _ _ _ _ _
def k_dOfT_52 (Φ : PV → Rg → Prop) (b : Bool) (g : Rg) : Prop := Φ (.bl b) g
@[simp] theorem k_dOfT_52_e (Φ : PV → Rg → Prop) (b : Bool) (g : Rg) : k_dOfT_52 Φ b g = (Φ (.bl b) g) := Eq.trans rfl rfl
@[simp ↓] theorem wE_dOfT_k (d : DenT) : wE (dOfT d σ g) Φ = wE (d σ g) (k_dOfT_52 Φ) := wE_dOfT _
def k_dDisp_53 (g : Rg) (Φ : PV → Rg → Prop) (x : List Key × List PV) : Prop := Φ (.dct x.1 x.2) g
@[simp] theorem k_dDisp_53_e (g : Rg) (Φ : PV → Rg → Prop) (x : List Key × List PV) : k_dDisp_53 g Φ x = (Φ (.dct x.1 x.2) g) := Eq.trans rfl rfl
def k_dDisp_54 (Φ : PV → Rg → Prop) (ps : List (PV × PV)) (g : Rg) : Prop := wO (dispP ps [] []) (k_dDisp_53 g Φ)
@[simp] theorem k_dDisp_54_e (Φ : PV → Rg → Prop) (ps : List (PV × PV)) (g : Rg) : k_dDisp_54 Φ ps g = (wO (dispP ps [] []) (k_dDisp_53 g Φ)) := Eq.trans rfl rfl
@[simp ↓] theorem wE_dDisp_k (ds : DenP) : wE (dDisp ds σ g) Φ = wE (ds σ g) (k_dDisp_54 Φ) := wE_dDisp _
def k_dLR1_55 (g : Rg) (Φ : PV → Rg → Prop) (j : Int) : Prop := rgOk 0 j ∧ Φ (.lst (rngP 0 (j - 0).toNat)) g
@[simp] theorem k_dLR1_55_e (g : Rg) (Φ : PV → Rg → Prop) (j : Int) : k_dLR1_55 g Φ j = (rgOk 0 j ∧ Φ (.lst (rngP 0 (j - 0).toNat)) g) := Eq.trans rfl rfl
def k_dLR1_56 (Φ : PV → Rg → Prop) (p : PV) (g : Rg) : Prop := wI p (k_dLR1_55 g Φ)
@[simp] theorem k_dLR1_56_e (Φ : PV → Rg → Prop) (p : PV) (g : Rg) : k_dLR1_56 Φ p g = (wI p (k_dLR1_55 g Φ)) := Eq.trans rfl rfl
@[simp ↓] theorem wE_dLR1_k (d : Den) : wE (dLR1 d σ g) Φ = wE (d σ g) (k_dLR1_56 Φ) := wE_dLR1 _
def k_dLR2_57 (g : Rg) (Φ : PV → Rg → Prop) (i : Int) (j : Int) : Prop := rgOk i j ∧ Φ (.lst (rngP i (j - i).toNat)) g
@[simp] theorem k_dLR2_57_e (g : Rg) (Φ : PV → Rg → Prop) (i : Int) (j : Int) : k_dLR2_57 g Φ i j = (rgOk i j ∧ Φ (.lst (rngP i (j - i).toNat)) g) := Eq.trans rfl rfl
def k_dLR2_58 (g : Rg) (Φ : PV → Rg → Prop) (q : PV) (i : Int) : Prop := wI q (k_dLR2_57 g Φ i)
@[simp] theorem k_dLR2_58_e (g : Rg) (Φ : PV → Rg → Prop) (q : PV) (i : Int) : k_dLR2_58 g Φ q i = (wI q (k_dLR2_57 g Φ i)) := Eq.trans rfl rfl
def k_dLR2_59 (Φ : PV → Rg → Prop) (p : PV) (q : PV) (g : Rg) : Prop := wI p (k_dLR2_58 g Φ q)
@[simp] theorem k_dLR2_59_e (Φ : PV → Rg → Prop) (p : PV) (q : PV) (g : Rg) : k_dLR2_59 Φ p q g = (wI p (k_dLR2_58 g Φ q)) := Eq.trans rfl rfl
def k_dLR2_60 (σ : Sl) (Φ : PV → Rg → Prop) (db : Den) (p : PV) (g : Rg) : Prop := wE (db σ g) (k_dLR2_59 Φ p)
@[simp] theorem k_dLR2_60_e (σ : Sl) (Φ : PV → Rg → Prop) (db : Den) (p : PV) (g : Rg) : k_dLR2_60 σ Φ db p g = (wE (db σ g) (k_dLR2_59 Φ p)) := Eq.trans rfl rfl
@[simp ↓] theorem wE_dLR2_k (da db : Den) : wE (dLR2 da db σ g) Φ = wE (da σ g) (k_dLR2_60 σ Φ db) := wE_dLR2 _ _
def k_dDef_61 (Φ : PV → Rg → Prop) (u_0 : Sl) (g : Rg) : Prop := Φ .non g
@[simp] theorem k_dDef_61_e (Φ : PV → Rg → Prop) (u_0 : Sl) (g : Rg) : k_dDef_61 Φ u_0 g = (Φ .non g) := Eq.trans rfl rfl
@[simp ↓] theorem wE_dDef_k (n : Nat) (b : DenS) (ps : List PV) : wE (dDef n .rep b ps g) Φ = wS (b (startP n ps) g) ((k_dDef_61 Φ)) Φ := wE_dDef _ _ _
def k_dDefF_62 (u_0 : Sl) (g : Rg) : Prop := False
@[simp] theorem k_dDefF_62_e (u_0 : Sl) (g : Rg) : k_dDefF_62 u_0 g = (False) := Eq.trans rfl rfl
@[simp ↓] theorem wE_dDefF_k (n : Nat) (b : DenS) (ps : List PV) : wE (dDef n .frs b ps g) Φ = wS (b (startP n ps) g) ((k_dDefF_62)) Φ := wE_dDefF _ _ _
def k_dDefO_63 (Φ : PV → Rg → Prop) (u_0 : Sl) (g : Rg) : Prop := Φ .non g
@[simp] theorem k_dDefO_63_e (Φ : PV → Rg → Prop) (u_0 : Sl) (g : Rg) : k_dDefO_63 Φ u_0 g = (Φ .non g) := Eq.trans rfl rfl
@[simp ↓] theorem wE_dDefO_k (n : Nat) (b : DenS) (ps : List PV) : wE (dDefO n b ps g) Φ = wS (b (startP n ps) g) ((k_dDefO_63 Φ)) Φ := wE_dDefO _ _ _
end
section
variable {Φ : Bool → Rg → Prop}
theorem wE_dTr (d : Den) : wE (dTr d σ g) Φ = wE (d σ g) fun p g => wO (truth p) fun b => Φ b g := by
  rw [x_dTr, wE_bind]; congr 1; funext p g; cases truth p <;> rfl
theorem wE_dCmp (o : PV → PV → Option Bool) (da db : Den) : wE (dCmp o da db σ g) Φ = wE (da σ g) fun p g => wE (db σ g) fun q g => wO (o p q) fun b => Φ b g := by
  simp only [x_dCmp, wE_bind]
  congr 1; funext p g; congr 1; funext q g
  cases o p q <;> rfl
theorem wE_dAndT (a d : DenT) : wE (dAndT a d σ g) Φ = wE (a σ g) fun b g => if b = true then wE (d σ g) Φ else Φ false g := by simp only [x_dAndT, wE_bind, wE_ite, wE_ok]
theorem wE_dOrT (a d : DenT) : wE (dOrT a d σ g) Φ = wE (a σ g) fun b g => if b = true then Φ true g else wE (d σ g) Φ := by simp only [x_dOrT, wE_bind, wE_ite, wE_ok]
theorem wE_dNotT (a : DenT) : wE (dNotT a σ g) Φ = wE (a σ g) fun b g => Φ (!b) g := by simp only [x_dNotT, wE_bind, wE_ok]
@[simp ↓] theorem wE_dYes : wE (dYes σ g) Φ = Φ true g := rfl
theorem wE_dChT (o o' : PV → PV → Option Bool) (da db dc : Den) : wE (dChT o o' da db dc σ g) Φ = wE (da σ g) fun p g => wE (db σ g) fun q g => wO (o p q) fun b => if b = true then (wE (dc σ g) fun r g => wO (o' q r) fun b => Φ b g) else Φ false g := by
  simp only [x_dChT, wE_bind]
  congr 1; funext p g; congr 1; funext q g
  rcases o p q with _ | _ | _
  · rfl
  · rfl
  · simp only [wO_some, if_true, wE_bind]
    congr 1; funext r g; cases o' q r <;> rfl
theorem wE_dCh3 (o o' o'' : PV → PV → Option Bool) (da db dc dd : Den) : wE (dCh3 o o' o'' da db dc dd σ g) Φ = wE (da σ g) fun p g => wE (db σ g) fun q g => wO (o p q) fun b => if b = true then (wE (dc σ g) fun r g => wO (o' q r) fun b => if b = true then (wE (dd σ g) fun s g => wO (o'' r s) fun b => Φ b g) else Φ false g) else Φ false g := by
  simp only [x_dCh3, wE_bind]
  congr 1; funext p g; congr 1; funext q g
  rcases o p q with _ | _ | _
  · rfl
  · rfl
  · simp only [wO_some, if_true, wE_bind]
    congr 1; funext r g
    rcases o' q r with _ | _ | _
    · rfl
    · rfl
    · simp only [wO_some, if_true, wE_bind]
      congr 1; funext s g; cases o'' r s <;> rfl
def k_dTr_64 (g : Rg) (Φ : Bool → Rg → Prop) (b : Bool) : Prop := Φ b g
@[simp] theorem k_dTr_64_e (g : Rg) (Φ : Bool → Rg → Prop) (b : Bool) : k_dTr_64 g Φ b = (Φ b g) := Eq.trans rfl rfl
def k_dTr_65 (Φ : Bool → Rg → Prop) (p : PV) (g : Rg) : Prop := wO (truth p) (k_dTr_64 g Φ)
@[simp] theorem k_dTr_65_e (Φ : Bool → Rg → Prop) (p : PV) (g : Rg) : k_dTr_65 Φ p g = (wO (truth p) (k_dTr_64 g Φ)) := Eq.trans rfl rfl
@[simp ↓] theorem wE_dTr_k (d : Den) : wE (dTr d σ g) Φ = wE (d σ g) (k_dTr_65 Φ) := wE_dTr _
def k_dCmp_66 (g : Rg) (Φ : Bool → Rg → Prop) (b : Bool) : Prop := Φ b g
@[simp] theorem k_dCmp_66_e (g : Rg) (Φ : Bool → Rg → Prop) (b : Bool) : k_dCmp_66 g Φ b = (Φ b g) := Eq.trans rfl rfl
def k_dCmp_67 (Φ : Bool → Rg → Prop) (o : PV → PV → Option Bool) (p : PV) (q : PV) (g : Rg) : Prop := wO (o p q) (k_dCmp_66 g Φ)
@[simp] theorem k_dCmp_67_e (Φ : Bool → Rg → Prop) (o : PV → PV → Option Bool) (p : PV) (q : PV) (g : Rg) : k_dCmp_67 Φ o p q g = (wO (o p q) (k_dCmp_66 g Φ)) := Eq.trans rfl rfl
def k_dCmp_68 (σ : Sl) (Φ : Bool → Rg → Prop) (o : PV → PV → Option Bool) (db : Den) (p : PV) (g : Rg) : Prop := wE (db σ g) (k_dCmp_67 Φ o p)
@[simp] theorem k_dCmp_68_e (σ : Sl) (Φ : Bool → Rg → Prop) (o : PV → PV → Option Bool) (db : Den) (p : PV) (g : Rg) : k_dCmp_68 σ Φ o db p g = (wE (db σ g) (k_dCmp_67 Φ o p)) := Eq.trans rfl rfl
@[simp ↓] theorem wE_dCmp_k (o : PV → PV → Option Bool) (da db : Den) : wE (dCmp o da db σ g) Φ = wE (da σ g) (k_dCmp_68 σ Φ o db) := wE_dCmp _ _ _
def k_dAndT_69 (σ : Sl) (Φ : Bool → Rg → Prop) (d : DenT) (b : Bool) (g : Rg) : Prop := if b = true then wE (d σ g) Φ else Φ false g
@[simp] theorem k_dAndT_69_e (σ : Sl) (Φ : Bool → Rg → Prop) (d : DenT) (b : Bool) (g : Rg) : k_dAndT_69 σ Φ d b g = (if b = true then wE (d σ g) Φ else Φ false g) := Eq.trans rfl rfl
@[simp ↓] theorem wE_dAndT_k (a d : DenT) : wE (dAndT a d σ g) Φ = wE (a σ g) (k_dAndT_69 σ Φ d) := wE_dAndT _ _
def k_dOrT_70 (σ : Sl) (Φ : Bool → Rg → Prop) (d : DenT) (b : Bool) (g : Rg) : Prop := if b = true then Φ true g else wE (d σ g) Φ
@[simp] theorem k_dOrT_70_e (σ : Sl) (Φ : Bool → Rg → Prop) (d : DenT) (b : Bool) (g : Rg) : k_dOrT_70 σ Φ d b g = (if b = true then Φ true g else wE (d σ g) Φ) := Eq.trans rfl rfl
@[simp ↓] theorem wE_dOrT_k (a d : DenT) : wE (dOrT a d σ g) Φ = wE (a σ g) (k_dOrT_70 σ Φ d) := wE_dOrT _ _
def k_dNotT_71 (Φ : Bool → Rg → Prop) (b : Bool) (g : Rg) : Prop := Φ (!b) g
@[simp] theorem k_dNotT_71_e (Φ : Bool → Rg → Prop) (b : Bool) (g : Rg) : k_dNotT_71 Φ b g = (Φ (!b) g) := Eq.trans rfl rfl
@[simp ↓] theorem wE_dNotT_k (a : DenT) : wE (dNotT a σ g) Φ = wE (a σ g) (k_dNotT_71 Φ) := wE_dNotT _
def k_dChT_72 (g : Rg) (Φ : Bool → Rg → Prop) (b : Bool) : Prop := Φ b g
@[simp] theorem k_dChT_72_e (g : Rg) (Φ : Bool → Rg → Prop) (b : Bool) : k_dChT_72 g Φ b = (Φ b g) := Eq.trans rfl rfl
def k_dChT_73 (Φ : Bool → Rg → Prop) (o' : PV → PV → Option Bool) (q : PV) (r : PV) (g : Rg) : Prop := wO (o' q r) (k_dChT_72 g Φ)
@[simp] theorem k_dChT_73_e (Φ : Bool → Rg → Prop) (o' : PV → PV → Option Bool) (q : PV) (r : PV) (g : Rg) : k_dChT_73 Φ o' q r g = (wO (o' q r) (k_dChT_72 g Φ)) := Eq.trans rfl rfl
def k_dChT_74 (σ : Sl) (g : Rg) (Φ : Bool → Rg → Prop) (o' : PV → PV → Option Bool) (dc : Den) (q : PV) (b : Bool) : Prop := if b = true then (wE (dc σ g) (k_dChT_73 Φ o' q)) else Φ false g
@[simp] theorem k_dChT_74_e (σ : Sl) (g : Rg) (Φ : Bool → Rg → Prop) (o' : PV → PV → Option Bool) (dc : Den) (q : PV) (b : Bool) : k_dChT_74 σ g Φ o' dc q b = (if b = true then (wE (dc σ g) (k_dChT_73 Φ o' q)) else Φ false g) := Eq.trans rfl rfl
def k_dChT_75 (σ : Sl) (Φ : Bool → Rg → Prop) (o : PV → PV → Option Bool) (o' : PV → PV → Option Bool) (dc : Den) (p : PV) (q : PV) (g : Rg) : Prop := wO (o p q) (k_dChT_74 σ g Φ o' dc q)
@[simp] theorem k_dChT_75_e (σ : Sl) (Φ : Bool → Rg → Prop) (o : PV → PV → Option Bool) (o' : PV → PV → Option Bool) (dc : Den) (p : PV) (q : PV) (g : Rg) : k_dChT_75 σ Φ o o' dc p q g = (wO (o p q) (k_dChT_74 σ g Φ o' dc q)) := Eq.trans rfl rfl
def k_dChT_76 (σ : Sl) (Φ : Bool → Rg → Prop) (o : PV → PV → Option Bool) (o' : PV → PV → Option Bool) (db : Den) (dc : Den) (p : PV) (g : Rg) : Prop := wE (db σ g) (k_dChT_75 σ Φ o o' dc p)
@[simp] theorem k_dChT_76_e (σ : Sl) (Φ : Bool → Rg → Prop) (o : PV → PV → Option Bool) (o' : PV → PV → Option Bool) (db : Den) (dc : Den) (p : PV) (g : Rg) : k_dChT_76 σ Φ o o' db dc p g = (wE (db σ g) (k_dChT_75 σ Φ o o' dc p)) := Eq.trans rfl rfl
@[simp ↓] theorem wE_dChT_k (o o' : PV → PV → Option Bool) (da db dc : Den) : wE (dChT o o' da db dc σ g) Φ = wE (da σ g) (k_dChT_76 σ Φ o o' db dc) := wE_dChT _ _ _ _ _
def k_dCh3_77 (g : Rg) (Φ : Bool → Rg → Prop) (b : Bool) : Prop := Φ b g
@[simp] theorem k_dCh3_77_e (g : Rg) (Φ : Bool → Rg → Prop) (b : Bool) : k_dCh3_77 g Φ b = (Φ b g) := Eq.trans rfl rfl
def k_dCh3_78 (Φ : Bool → Rg → Prop) (o'' : PV → PV → Option Bool) (r : PV) (s : PV) (g : Rg) : Prop := wO (o'' r s) (k_dCh3_77 g Φ)
@[simp] theorem k_dCh3_78_e (Φ : Bool → Rg → Prop) (o'' : PV → PV → Option Bool) (r : PV) (s : PV) (g : Rg) : k_dCh3_78 Φ o'' r s g = (wO (o'' r s) (k_dCh3_77 g Φ)) := Eq.trans rfl rfl
def k_dCh3_79 (σ : Sl) (g : Rg) (Φ : Bool → Rg → Prop) (o'' : PV → PV → Option Bool) (dd : Den) (r : PV) (b : Bool) : Prop := if b = true then (wE (dd σ g) (k_dCh3_78 Φ o'' r)) else Φ false g
@[simp] theorem k_dCh3_79_e (σ : Sl) (g : Rg) (Φ : Bool → Rg → Prop) (o'' : PV → PV → Option Bool) (dd : Den) (r : PV) (b : Bool) : k_dCh3_79 σ g Φ o'' dd r b = (if b = true then (wE (dd σ g) (k_dCh3_78 Φ o'' r)) else Φ false g) := Eq.trans rfl rfl
def k_dCh3_80 (σ : Sl) (Φ : Bool → Rg → Prop) (o' : PV → PV → Option Bool) (o'' : PV → PV → Option Bool) (dd : Den) (q : PV) (r : PV) (g : Rg) : Prop := wO (o' q r) (k_dCh3_79 σ g Φ o'' dd r)
@[simp] theorem k_dCh3_80_e (σ : Sl) (Φ : Bool → Rg → Prop) (o' : PV → PV → Option Bool) (o'' : PV → PV → Option Bool) (dd : Den) (q : PV) (r : PV) (g : Rg) : k_dCh3_80 σ Φ o' o'' dd q r g = (wO (o' q r) (k_dCh3_79 σ g Φ o'' dd r)) := Eq.trans rfl rfl
def k_dCh3_81 (σ : Sl) (g : Rg) (Φ : Bool → Rg → Prop) (o' : PV → PV → Option Bool) (o'' : PV → PV → Option Bool) (dc : Den) (dd : Den) (q : PV) (b : Bool) : Prop := if b = true then (wE (dc σ g) (k_dCh3_80 σ Φ o' o'' dd q)) else Φ false g
@[simp] theorem k_dCh3_81_e (σ : Sl) (g : Rg) (Φ : Bool → Rg → Prop) (o' : PV → PV → Option Bool) (o'' : PV → PV → Option Bool) (dc : Den) (dd : Den) (q : PV) (b : Bool) : k_dCh3_81 σ g Φ o' o'' dc dd q b = (if b = true then (wE (dc σ g) (k_dCh3_80 σ Φ o' o'' dd q)) else Φ false g) := Eq.trans rfl rfl
def k_dCh3_82 (σ : Sl) (Φ : Bool → Rg → Prop) (o : PV → PV → Option Bool) (o' : PV → PV → Option Bool) (o'' : PV → PV → Option Bool) (dc : Den) (dd : Den) (p : PV) (q : PV) (g : Rg) : Prop := wO (o p q) (k_dCh3_81 σ g Φ o' o'' dc dd q)
@[simp] theorem k_dCh3_82_e (σ : Sl) (Φ : Bool → Rg → Prop) (o : PV → PV → Option Bool) (o' : PV → PV → Option Bool) (o'' : PV → PV → Option Bool) (dc : Den) (dd : Den) (p : PV) (q : PV) (g : Rg) : k_dCh3_82 σ Φ o o' o'' dc dd p q g = (wO (o p q) (k_dCh3_81 σ g Φ o' o'' dc dd q)) := Eq.trans rfl rfl
def k_dCh3_83 (σ : Sl) (Φ : Bool → Rg → Prop) (o : PV → PV → Option Bool) (o' : PV → PV → Option Bool) (o'' : PV → PV → Option Bool) (db : Den) (dc : Den) (dd : Den) (p : PV) (g : Rg) : Prop := wE (db σ g) (k_dCh3_82 σ Φ o o' o'' dc dd p)
@[simp] theorem k_dCh3_83_e (σ : Sl) (Φ : Bool → Rg → Prop) (o : PV → PV → Option Bool) (o' : PV → PV → Option Bool) (o'' : PV → PV → Option Bool) (db : Den) (dc : Den) (dd : Den) (p : PV) (g : Rg) : k_dCh3_83 σ Φ o o' o'' db dc dd p g = (wE (db σ g) (k_dCh3_82 σ Φ o o' o'' dc dd p)) := Eq.trans rfl rfl
@[simp ↓] theorem wE_dCh3_k (o o' o'' : PV → PV → Option Bool) (da db dc dd : Den) : wE (dCh3 o o' o'' da db dc dd σ g) Φ = wE (da σ g) (k_dCh3_83 σ Φ o o' o'' db dc dd) := wE_dCh3 _ _ _ _ _ _ _
end
section
variable {Φ : Option Int → Rg → Prop}
@[simp ↓] theorem wE_dNo : wE (dNo σ g) Φ = Φ none g := rfl
theorem wE_dSome (d : Den) : wE (dSome d σ g) Φ = wE (d σ g) fun p g => wI p fun i => Φ (some i) g := by
  rw [x_dSome, wE_bind]; congr 1; funext p g; cases p <;> rfl
def k_dSome_84 (g : Rg) (Φ : Option Int → Rg → Prop) (i : Int) : Prop := Φ (some i) g
@[simp] theorem k_dSome_84_e (g : Rg) (Φ : Option Int → Rg → Prop) (i : Int) : k_dSome_84 g Φ i = (Φ (some i) g) := Eq.trans rfl rfl
def k_dSome_85 (Φ : Option Int → Rg → Prop) (p : PV) (g : Rg) : Prop := wI p (k_dSome_84 g Φ)
@[simp] theorem k_dSome_85_e (Φ : Option Int → Rg → Prop) (p : PV) (g : Rg) : k_dSome_85 Φ p g = (wI p (k_dSome_84 g Φ)) := Eq.trans rfl rfl
@[simp ↓] theorem wE_dSome_k (d : Den) : wE (dSome d σ g) Φ = wE (d σ g) (k_dSome_85 Φ) := wE_dSome _
end
section
variable {Φ : List PV → Rg → Prop}
@[simp ↓] theorem wE_dNil : wE (dNil σ g) Φ = Φ [] g := rfl
theorem wE_dCons (d : Den) (ds : DenL) : wE (dCons d ds σ g) Φ = wE (d σ g) fun p g => wE (ds σ g) fun ps g => Φ (p :: ps) g := by simp only [x_dCons, wE_bind, wE_ok]
theorem wE_dIt (d : Den) : wE (dIt d σ g) Φ = wE (d σ g) fun p g => wQ p fun l => Φ l g := by
  rw [x_dIt, wE_bind]; congr 1; funext p g; cases p <;> rfl
theorem wE_dKeys (i : Nat) : wE (dKeys i σ g) Φ = wO (slot σ i) fun p => wD p fun kl => Φ (kl.map keyV) g := by
  unfold dKeys slot
  cases σ[i]? with
  | none => rfl
  | some x =>
    cases x with
    | none => rfl
    | some p => cases p <;> rfl
theorem wE_dRng1 (a : Den) : wE (dRng1 (dCons a dNil) σ g) Φ = wE (a σ g) fun p g => wI p fun j => (j ≤ 1000 ∧ -1000 ≤ j) ∧ Φ (rngP 0 j.toNat) g := by
  rw [x_dRng1]
  simp only [wE_bind, wE_dCons, wE_dNil]
  congr 1; funext p g
  cases p <;> first | rfl | skip
  rename_i j
  simp only [wI_int]
  by_cases h : j ≤ 1000 ∧ -1000 ≤ j
  · rw [if_pos h]; exact propext ⟨fun k => ⟨h, k⟩, fun k => k.2⟩
  · rw [if_neg h]; exact propext ⟨fun k => k.elim, fun k => h k.1⟩
theorem wE_dRng2 (a b : Den) : wE (dRng2 (dCons a (dCons b dNil)) σ g) Φ = wE (a σ g) fun p g => wE (b σ g) fun q g => wI p fun i => wI q fun j => (i ≤ 1000 ∧ -1000 ≤ i ∧ j ≤ 1000 ∧ -1000 ≤ j) ∧ Φ (rngP i (j - i).toNat) g := by
  rw [x_dRng2]
  simp only [wE_bind, wE_dCons, wE_dNil]
  congr 1; funext p g; congr 1; funext q g
  cases p <;> first | rfl | skip
  cases q <;> first | rfl | skip
  rename_i i j
  simp only [wI_int]
  by_cases h : i ≤ 1000 ∧ -1000 ≤ i ∧ j ≤ 1000 ∧ -1000 ≤ j
  · rw [if_pos h]; exact propext ⟨fun k => ⟨h, k⟩, fun k => k.2⟩
  · rw [if_neg h]; exact propext ⟨fun k => k.elim, fun k => h k.1⟩
theorem wE_dEnumA (a : Den) : wE (dEnumA (dCons a dNil) σ g) Φ = wE (a σ g) fun p g => wQ p fun l => Φ (enumP l) g := by
  rw [x_dEnumA]
  simp only [wE_bind, wE_dCons, wE_dNil]
  congr 1; funext p g; cases p <;> rfl
def wZ (p q : PV) (Φ : List PV → List PV → Prop) : Prop := match p, q with | .lst l, .lst m => Φ l m | .tup l, .tup m => Φ l m | _, _ => False
@[simp] theorem wZ_lst (l m : List PV) (Φ : List PV → List PV → Prop) : wZ (.lst l) (.lst m) Φ = Φ l m := rfl
@[simp] theorem wZ_tup (l m : List PV) (Φ : List PV → List PV → Prop) : wZ (.tup l) (.tup m) Φ = Φ l m := rfl
theorem wE_dZipA (a b : Den) : wE (dZipA (dCons a (dCons b dNil)) σ g) Φ = wE (a σ g) fun p g => wE (b σ g) fun q g => wZ p q fun l m => Φ (zipP l m) g := by
  rw [x_dZipA]
  simp only [wE_bind, wE_dCons, wE_dNil]
  congr 1; funext p g; congr 1; funext q g
  cases p <;> cases q <;> rfl
def k_dCons_86 (Φ : List PV → Rg → Prop) (p : PV) (ps : List PV) (g : Rg) : Prop := Φ (p :: ps) g
@[simp] theorem k_dCons_86_e (Φ : List PV → Rg → Prop) (p : PV) (ps : List PV) (g : Rg) : k_dCons_86 Φ p ps g = (Φ (p :: ps) g) := Eq.trans rfl rfl
def k_dCons_87 (σ : Sl) (Φ : List PV → Rg → Prop) (ds : DenL) (p : PV) (g : Rg) : Prop := wE (ds σ g) (k_dCons_86 Φ p)
@[simp] theorem k_dCons_87_e (σ : Sl) (Φ : List PV → Rg → Prop) (ds : DenL) (p : PV) (g : Rg) : k_dCons_87 σ Φ ds p g = (wE (ds σ g) (k_dCons_86 Φ p)) := Eq.trans rfl rfl
@[simp ↓] theorem wE_dCons_k (d : Den) (ds : DenL) : wE (dCons d ds σ g) Φ = wE (d σ g) (k_dCons_87 σ Φ ds) := wE_dCons _ _
def k_dIt_88 (g : Rg) (Φ : List PV → Rg → Prop) (l : List PV) : Prop := Φ l g
@[simp] theorem k_dIt_88_e (g : Rg) (Φ : List PV → Rg → Prop) (l : List PV) : k_dIt_88 g Φ l = (Φ l g) := Eq.trans rfl rfl
def k_dIt_89 (Φ : List PV → Rg → Prop) (p : PV) (g : Rg) : Prop := wQ p (k_dIt_88 g Φ)
@[simp] theorem k_dIt_89_e (Φ : List PV → Rg → Prop) (p : PV) (g : Rg) : k_dIt_89 Φ p g = (wQ p (k_dIt_88 g Φ)) := Eq.trans rfl rfl
@[simp ↓] theorem wE_dIt_k (d : Den) : wE (dIt d σ g) Φ = wE (d σ g) (k_dIt_89 Φ) := wE_dIt _
def k_dKeys_90 (g : Rg) (Φ : List PV → Rg → Prop) (kl : List Key) : Prop := Φ (kl.map keyV) g
@[simp] theorem k_dKeys_90_e (g : Rg) (Φ : List PV → Rg → Prop) (kl : List Key) : k_dKeys_90 g Φ kl = (Φ (kl.map keyV) g) := Eq.trans rfl rfl
def k_dKeys_91 (g : Rg) (Φ : List PV → Rg → Prop) (p : PV) : Prop := wD p (k_dKeys_90 g Φ)
@[simp] theorem k_dKeys_91_e (g : Rg) (Φ : List PV → Rg → Prop) (p : PV) : k_dKeys_91 g Φ p = (wD p (k_dKeys_90 g Φ)) := Eq.trans rfl rfl
@[simp ↓] theorem wE_dKeys_k (i : Nat) : wE (dKeys i σ g) Φ = wO (slot σ i) (k_dKeys_91 g Φ) := wE_dKeys _
def k_dRng1_92 (g : Rg) (Φ : List PV → Rg → Prop) (j : Int) : Prop := (j ≤ 1000 ∧ -1000 ≤ j) ∧ Φ (rngP 0 j.toNat) g
@[simp] theorem k_dRng1_92_e (g : Rg) (Φ : List PV → Rg → Prop) (j : Int) : k_dRng1_92 g Φ j = ((j ≤ 1000 ∧ -1000 ≤ j) ∧ Φ (rngP 0 j.toNat) g) := Eq.trans rfl rfl
def k_dRng1_93 (Φ : List PV → Rg → Prop) (p : PV) (g : Rg) : Prop := wI p (k_dRng1_92 g Φ)
@[simp] theorem k_dRng1_93_e (Φ : List PV → Rg → Prop) (p : PV) (g : Rg) : k_dRng1_93 Φ p g = (wI p (k_dRng1_92 g Φ)) := Eq.trans rfl rfl
@[simp ↓] theorem wE_dRng1_k (a : Den) : wE (dRng1 (dCons a dNil) σ g) Φ = wE (a σ g) (k_dRng1_93 Φ) := wE_dRng1 _
def k_dRng2_94 (g : Rg) (Φ : List PV → Rg → Prop) (i : Int) (j : Int) : Prop := (i ≤ 1000 ∧ -1000 ≤ i ∧ j ≤ 1000 ∧ -1000 ≤ j) ∧ Φ (rngP i (j - i).toNat) g
@[simp] theorem k_dRng2_94_e (g : Rg) (Φ : List PV → Rg → Prop) (i : Int) (j : Int) : k_dRng2_94 g Φ i j = ((i ≤ 1000 ∧ -1000 ≤ i ∧ j ≤ 1000 ∧ -1000 ≤ j) ∧ Φ (rngP i (j - i).toNat) g) := Eq.trans rfl rfl
def k_dRng2_95 (g : Rg) (Φ : List PV → Rg → Prop) (q : PV) (i : Int) : Prop := wI q (k_dRng2_94 g Φ i)
@[simp] theorem k_dRng2_95_e (g : Rg) (Φ : List PV → Rg → Prop) (q : PV) (i : Int) : k_dRng2_95 g Φ q i = (wI q (k_dRng2_94 g Φ i)) := Eq.trans rfl rfl
def k_dRng2_96 (Φ : List PV → Rg → Prop) (p : PV) (q : PV) (g : Rg) : Prop := wI p (k_dRng2_95 g Φ q)
@[simp] theorem k_dRng2_96_e (Φ : List PV → Rg → Prop) (p : PV) (q : PV) (g : Rg) : k_dRng2_96 Φ p q g = (wI p (k_dRng2_95 g Φ q)) := Eq.trans rfl rfl
def k_dRng2_97 (σ : Sl) (Φ : List PV → Rg → Prop) (b : Den) (p : PV) (g : Rg) : Prop := wE (b σ g) (k_dRng2_96 Φ p)
@[simp] theorem k_dRng2_97_e (σ : Sl) (Φ : List PV → Rg → Prop) (b : Den) (p : PV) (g : Rg) : k_dRng2_97 σ Φ b p g = (wE (b σ g) (k_dRng2_96 Φ p)) := Eq.trans rfl rfl
@[simp ↓] theorem wE_dRng2_k (a b : Den) : wE (dRng2 (dCons a (dCons b dNil)) σ g) Φ = wE (a σ g) (k_dRng2_97 σ Φ b) := wE_dRng2 _ _
def k_dEnumA_98 (g : Rg) (Φ : List PV → Rg → Prop) (l : List PV) : Prop := Φ (enumP l) g
@[simp] theorem k_dEnumA_98_e (g : Rg) (Φ : List PV → Rg → Prop) (l : List PV) : k_dEnumA_98 g Φ l = (Φ (enumP l) g) := Eq.trans rfl rfl
def k_dEnumA_99 (Φ : List PV → Rg → Prop) (p : PV) (g : Rg) : Prop := wQ p (k_dEnumA_98 g Φ)
@[simp] theorem k_dEnumA_99_e (Φ : List PV → Rg → Prop) (p : PV) (g : Rg) : k_dEnumA_99 Φ p g = (wQ p (k_dEnumA_98 g Φ)) := Eq.trans rfl rfl
@[simp ↓] theorem wE_dEnumA_k (a : Den) : wE (dEnumA (dCons a dNil) σ g) Φ = wE (a σ g) (k_dEnumA_99 Φ) := wE_dEnumA _
def k_dZipA_100 (g : Rg) (Φ : List PV → Rg → Prop) (l : List PV) (m : List PV) : Prop := Φ (zipP l m) g
@[simp] theorem k_dZipA_100_e (g : Rg) (Φ : List PV → Rg → Prop) (l : List PV) (m : List PV) : k_dZipA_100 g Φ l m = (Φ (zipP l m) g) := Eq.trans rfl rfl
def k_dZipA_101 (Φ : List PV → Rg → Prop) (p : PV) (q : PV) (g : Rg) : Prop := wZ p q (k_dZipA_100 g Φ)
@[simp] theorem k_dZipA_101_e (Φ : List PV → Rg → Prop) (p : PV) (q : PV) (g : Rg) : k_dZipA_101 Φ p q g = (wZ p q (k_dZipA_100 g Φ)) := Eq.trans rfl rfl
def k_dZipA_102 (σ : Sl) (Φ : List PV → Rg → Prop) (b : Den) (p : PV) (g : Rg) : Prop := wE (b σ g) (k_dZipA_101 Φ p)
@[simp] theorem k_dZipA_102_e (σ : Sl) (Φ : List PV → Rg → Prop) (b : Den) (p : PV) (g : Rg) : k_dZipA_102 σ Φ b p g = (wE (b σ g) (k_dZipA_101 Φ p)) := Eq.trans rfl rfl
@[simp ↓] theorem wE_dZipA_k (a b : Den) : wE (dZipA (dCons a (dCons b dNil)) σ g) Φ = wE (a σ g) (k_dZipA_102 σ Φ b) := wE_dZipA _ _
end
section
variable {N : Sl → Rg → Prop} {R : PV → Rg → Prop}
@[simp ↓] theorem wS_next (σ : Sl) : wS (.next σ g) N R = N σ g := rfl
@[simp ↓] theorem wS_ret (p : PV) : wS (.ret p g) N R = R p g := rfl
@[simp ↓] theorem wS_stuck : wS .stuck N R = False := rfl
@[simp ↓] theorem wS_exc (k : Str) (ns : List Str) (ps : List PV) : wS (.exc k ns ps g) N R = False := rfl
theorem wS_bindS {β : Type} (r : Res β) (f : β → Rg → SRes) : wS (r.bindS f) N R = wE r fun a g => wS (f a g) N R := by cases r <;> rfl
@[simp ↓] theorem wS_ite {c : Prop} [Decidable c] (r s : SRes) : wS (if c then r else s) N R = if c then wS r N R else wS s N R := by by_cases h : c <;> simp only [h, if_true, if_false]
theorem wS_dSeq (a b : DenS) : wS (dSeq a b σ g) N R = wS (a σ g) (fun σ g => wS (b σ g) N R) R := by
  unfold dSeq
  cases a σ g <;> rfl
@[simp ↓] theorem wS_dSkip : wS (dSkip σ g) N R = N σ g := rfl
@[simp ↓] theorem wS_dNever : wS (dNever σ g) N R = False := rfl
@[simp ↓] theorem wS_dRet (d : Den) : wS (dRet d σ g) N R = wE (d σ g) R := by rw [x_dRet, wS_bindS]; rfl
@[simp ↓] theorem wS_dRetN : wS (dRetN σ g) N R = R .non g := rfl
theorem wS_dExpr (d : Den) : wS (dExpr d σ g) N R = wE (d σ g) fun _ g => N σ g := by rw [x_dExpr, wS_bindS]; rfl
theorem wS_dIf (c : DenT) (a b : DenS) : wS (dIf c a b σ g) N R = wE (c σ g) fun t g => if t = true then wS (a σ g) N R else wS (b σ g) N R := by simp only [x_dIf, wS_bindS, wS_ite]
theorem wS_dSet (i : Nat) (d : Den) : wS (dSet i d σ g) N R = wE (d σ g) fun p g => N (σ.set i (some p)) g := by rw [x_dSet, wS_bindS]; rfl
theorem wS_dSetW (i : Nat) (d : Den) : wS (dSetW i d σ g) N R = wE (d σ g) fun p g => i < σ.length ∧ N (σ.set i (some p)) g := by
  rw [x_dSetW, wS_bindS]; congr 1; funext p g
  by_cases h : i < σ.length <;> simp [h]
theorem wS_dPar (i j : Nat) (da db : Den) : wS (dPar i j da db σ g) N R = wE (da σ g) fun p g => wE (db σ g) fun q g => N ((σ.set i (some p)).set j (some q)) g := by simp only [x_dPar, wS_bindS, wS_next]
theorem wS_dPar3 (i j k : Nat) (da db dc : Den) : wS (dPar3 i j k da db dc σ g) N R = wE (da σ g) fun p g => wE (db σ g) fun q g => wE (dc σ g) fun r g => N (((σ.set i (some p)).set j (some q)).set k (some r)) g := by
  unfold dPar3
  rw [wS_bindS]; congr 1; funext p g
  rw [wS_bindS]; congr 1; funext q g
  rw [wS_bindS]; congr 1
theorem wS_dPar3W (i j k : Nat) (da db dc : Den) : wS (dPar3W i j k da db dc σ g) N R = wE (da σ g) fun p g => wE (db σ g) fun q g => wE (dc σ g) fun r g => k < σ.length ∧ N (((σ.set i (some p)).set j (some q)).set k (some r)) g := by
  unfold dPar3W
  rw [wS_bindS]; congr 1; funext p g
  rw [wS_bindS]; congr 1; funext q g
  rw [wS_bindS]; congr 1; funext r g
  by_cases h : k < σ.length <;> simp [h]
theorem wS_dParW (i j : Nat) (da db : Den) : wS (dParW i j da db σ g) N R = (i < σ.length ∧ j < σ.length ∧ wE (da σ g) fun p g => wE (db σ g) fun q g => N ((σ.set i (some p)).set j (some q)) g) := by
  rw [x_dParW]
  by_cases h : i < σ.length ∧ j < σ.length
  · rw [if_pos h]; simp only [wS_bindS, wS_next]; exact propext ⟨fun k => ⟨h.1, h.2, k⟩, fun k => k.2.2⟩
  · rw [if_neg h]; exact propext ⟨fun k => k.elim, fun k => h ⟨k.1, k.2.1⟩⟩
theorem wS_dAsg (gd : DenG) (d : Den) : wS (dAsg gd d σ g) N R = wE (d σ g) fun p g => wO (gd p σ) fun σ' => N σ' g := by
  rw [x_dAsg, wS_bindS]; congr 1; funext p g; cases gd p σ <;> rfl
theorem wS_dFor (di : DenL) (gd : DenG) (b : DenS) : wS (dFor di gd b σ g) N R = wE (di σ g) fun items g => wS (loopS gd b items σ g) N R := by rw [x_dFor, wS_bindS]
theorem wS_onLst (i : Nat) (f : List PV → SRes) : wS (onLst i σ f) N R = wO (slotL σ i) fun l => wS (f l) N R := by
  unfold onLst slotL slot
  cases σ[i]? with
  | none => rfl
  | some x =>
    cases x with
    | none => rfl
    | some p => cases p <;> rfl
theorem wS_dApp (i : Nat) (d : Den) : wS (dApp i d σ g) N R = wO (slotL σ i) fun l => wE (d σ g) fun p g => l.length < qsz ∧ N (σ.set i (some (.lst (l ++ [p])))) g := by
  rw [qsz_eq]
  rw [show dApp i d σ g = onLst i σ fun l => (d σ g).bindS fun p g => if l.length < sizeLine then .next (σ.set i (some (.lst (l ++ [p])))) g else .stuck from rfl, wS_onLst]
  congr 1; funext l
  rw [wS_bindS]; congr 1; funext p g
  by_cases h : l.length < sizeLine <;> simp [h]
theorem wS_dExt (i : Nat) (d : Den) : wS (dExt i d σ g) N R = wO (slotL σ i) fun l => wE (d σ g) fun p g => wL p fun m => l.length + m.length ≤ qsz ∧ N (σ.set i (some (.lst (l ++ m)))) g := by
  rw [qsz_eq]
  rw [show dExt i d σ g = onLst i σ fun l => (d σ g).bindS fun p g => match p with
    | .lst m => if l.length + m.length ≤ sizeLine then .next (σ.set i (some (.lst (l ++ m)))) g else .stuck
    | _ => .stuck from rfl, wS_onLst]
  congr 1; funext l
  rw [wS_bindS]; congr 1; funext p g
  cases p <;> first | rfl | skip
  rename_i m
  by_cases h : l.length + m.length ≤ sizeLine <;> simp [h]
theorem wS_dPut (i : Nat) (dk d : Den) : wS (dPut i dk d σ g) N R = wO (slotL σ i) fun l => wE (d σ g) fun p g => wE (dk σ g) fun q g => wI q fun k => wO (ixN l.length k) fun n => N (σ.set i (some (.lst (l.set n p)))) g := by
  rw [show dPut i dk d σ g = onLst i σ fun l => (d σ g).bindS fun p g => (dk σ g).bindS fun q g => match q with
    | .int k => (match ixN l.length k with | some j => .next (σ.set i (some (.lst (l.set j p)))) g | none => .stuck)
    | _ => .stuck from rfl, wS_onLst]
  congr 1; funext l
  rw [wS_bindS]; congr 1; funext p g
  rw [wS_bindS]; congr 1; funext q g
  cases q <;> first | rfl | skip
  rename_i k
  simp only [wI_int]
  cases ixN l.length k <;> rfl
theorem wS_dPut2 (i : Nat) (dk1 dk2 da db : Den) : wS (dPut2 i dk1 dk2 da db σ g) N R = wO (slotL σ i) fun l => wE (da σ g) fun p g => wE (db σ g) fun q g => wE (dk1 σ g) fun r g => wI r fun i1 => wO (ixN l.length i1) fun n1 => wE (dk2 σ g) fun s g => wI s fun i2 => wO (ixN l.length i2) fun n2 => N (σ.set i (some (.lst ((l.set n1 p).set n2 q)))) g := by
  unfold dPut2
  rw [wS_onLst]
  congr 1; funext l
  rw [wS_bindS]; congr 1; funext p g
  rw [wS_bindS]; congr 1; funext q g
  rw [wS_bindS]; congr 1; funext k1 g
  cases k1 <;> first | rfl | skip
  rename_i k1
  simp only [wI_int]
  cases ixN l.length k1 <;> first | rfl | skip
  simp only [wO_some]
  rw [wS_bindS]; congr 1; funext k2 g
  cases k2 <;> first | rfl | skip
  rename_i k2
  simp only [wI_int]
  cases ixN l.length k2 <;> rfl
theorem wS_dForK (i : Nat) (gd : DenG) (db : DenS) : wS (dForK i gd db σ g) N R = wE (dKeys i σ g) fun items g => wS (loopS gd db items σ g) N R := by
  rw [← wS_bindS]
  show wS (noXS ((dKeys i σ g).bindS fun items g => loopS gd db items σ g)) N R = _
  cases (dKeys i σ g).bindS fun items g => loopS gd db items σ g <;> rfl
theorem wS_dDPut (i : Nat) (dk d : Den) : wS (dDPut i dk d σ g) N R = wO (slotD σ i) fun x => wE (d σ g) fun p g => wE (dk σ g) fun q g => wO (keyP q) fun ky => x.1.length < qsz ∧ N (σ.set i (some (.dct (putKs x.1 ky) (putVs x.1 x.2 ky p)))) g := by
  rw [qsz_eq]
  unfold dDPut onDct slotD slot
  cases σ[i]? with
  | none => rfl
  | some x =>
    cases x with
    | none => rfl
    | some p =>
      cases p <;> first | rfl | skip
      rename_i ks vs
      simp only [wO_some]
      rw [wS_bindS]; congr 1; funext p g
      rw [wS_bindS]; congr 1; funext q g
      cases keyP q <;> first | rfl | skip
      rename_i k
      by_cases h : ks.length < sizeLine <;> simp [h]
theorem wS_dFldS (i : Nat) (k f : Str) (d : Den) : wS (dFldS i k f d σ g) N R = wO (slot σ i) fun p => wIns k p fun fs vs => wE (d σ g) fun q g => fs.length < 1000 ∧ N (σ.set i (some (.ins k (putNs fs f) (putPs fs vs f q)))) g := by
  unfold dFldS onIns slot
  cases σ[i]? with
  | none => rfl
  | some x =>
    cases x with
    | none => rfl
    | some p =>
      cases p <;> first | rfl | skip
      rename_i k' ns ps
      simp only [wO_some, wIns_ins]
      by_cases h : k' = k
      · subst h
        simp only [if_true, true_and]
        rw [wS_bindS]; congr 1; funext p g
        by_cases h : ns.length < 1000 <;> simp [h]
      · simp only [h, if_false, false_and]; rfl
theorem wE_dInit (n : Nat) (k : Str) (d : DenS) (ps : List PV) (Φ : PV → Rg → Prop) : wE (dInit n k d ps g) Φ = wS (d (startP n (.ins k [] [] :: ps)) g) (fun σ g => wO (slot σ 0) fun p => Φ p g) (fun _ _ => False) := by
  unfold dInit
  cases d (startP n (.ins k [] [] :: ps)) g <;> first | rfl | skip
  simp only [wS_next]
  exact slot_get
theorem wS_dSpoil (i : Nat) (D : DDen) : wS (dSpoil i D σ g) N R = wO (slot σ i) fun p => wE (D [p] g) fun _ g => N (σ.set i none) g := by
  unfold dSpoil slot
  cases σ[i]? with
  | none => rfl
  | some x =>
    cases x with
    | none => rfl
    | some p => simp only [wO_some]; cases D [p] g <;> rfl
theorem wS_dAppPop (i j : Nat) (d : Den) : wS (dAppPop i j d σ g) N R = wO (slotL σ i) fun l => wO (slotL σ j) fun m => wE (d σ g) fun q g => wI q fun k => (-(2 ^ 63) ≤ k ∧ k < 2 ^ 63) ∧ wO (ixN m.length k) fun n => wO m[n]? fun y => l.length < qsz ∧ N ((σ.set j (some (.lst (m.eraseIdx n)))).set i (some (.lst (l ++ [y])))) g := by
  rw [qsz_eq]
  unfold dAppPop
  rw [wS_onLst]; congr 1; funext l
  rw [wS_onLst]; congr 1; funext m
  rw [wS_bindS]; congr 1; funext q g
  cases q <;> first | rfl | skip
  rename_i k
  simp only [wI_int]
  by_cases h : -(2 ^ 63) ≤ k ∧ k < 2 ^ 63
  · rw [if_pos h]
    simp only [h, and_self, true_and]
    cases ixN m.length k <;> first | rfl | skip
    rename_i n
    simp only [wO_some]
    cases m[n]? <;> first | rfl | skip
    simp only [wO_some]
    by_cases h : l.length < sizeLine <;> simp [h]
  · rw [if_neg h]
    exact propext ⟨fun k => k.elim, fun k => h k.1⟩
def k_bindS_103 (N : Sl → Rg → Prop) (R : PV → Rg → Prop) (f : β → Rg → SRes) (a : β) (g : Rg) : Prop := wS (f a g) N R
@[simp] theorem k_bindS_103_e (N : Sl → Rg → Prop) (R : PV → Rg → Prop) (f : β → Rg → SRes) (a : β) (g : Rg) : k_bindS_103 N R f a g = (wS (f a g) N R) := Eq.trans rfl rfl
@[simp ↓] theorem wS_bindS_k {β : Type} (r : Res β) (f : β → Rg → SRes) : wS (r.bindS f) N R = wE r (k_bindS_103 N R f) := wS_bindS _ _
def k_dSeq_104 (N : Sl → Rg → Prop) (R : PV → Rg → Prop) (b : DenS) (σ : Sl) (g : Rg) : Prop := wS (b σ g) N R
@[simp] theorem k_dSeq_104_e (N : Sl → Rg → Prop) (R : PV → Rg → Prop) (b : DenS) (σ : Sl) (g : Rg) : k_dSeq_104 N R b σ g = (wS (b σ g) N R) := Eq.trans rfl rfl
@[simp ↓] theorem wS_dSeq_k (a b : DenS) : wS (dSeq a b σ g) N R = wS (a σ g) ((k_dSeq_104 N R b)) R := wS_dSeq _ _
def k_dExpr_105 (σ : Sl) (N : Sl → Rg → Prop) (u_0 : PV) (g : Rg) : Prop := N σ g
@[simp] theorem k_dExpr_105_e (σ : Sl) (N : Sl → Rg → Prop) (u_0 : PV) (g : Rg) : k_dExpr_105 σ N u_0 g = (N σ g) := Eq.trans rfl rfl
@[simp ↓] theorem wS_dExpr_k (d : Den) : wS (dExpr d σ g) N R = wE (d σ g) (k_dExpr_105 σ N) := wS_dExpr _
def k_dIf_106 (σ : Sl) (N : Sl → Rg → Prop) (R : PV → Rg → Prop) (a : DenS) (b : DenS) (t : Bool) (g : Rg) : Prop := if t = true then wS (a σ g) N R else wS (b σ g) N R
@[simp] theorem k_dIf_106_e (σ : Sl) (N : Sl → Rg → Prop) (R : PV → Rg → Prop) (a : DenS) (b : DenS) (t : Bool) (g : Rg) : k_dIf_106 σ N R a b t g = (if t = true then wS (a σ g) N R else wS (b σ g) N R) := Eq.trans rfl rfl
@[simp ↓] theorem wS_dIf_k (c : DenT) (a b : DenS) : wS (dIf c a b σ g) N R = wE (c σ g) (k_dIf_106 σ N R a b) := wS_dIf _ _ _
def k_dSet_107 (σ : Sl) (N : Sl → Rg → Prop) (i : Nat) (p : PV) (g : Rg) : Prop := N (σ.set i (some p)) g
@[simp] theorem k_dSet_107_e (σ : Sl) (N : Sl → Rg → Prop) (i : Nat) (p : PV) (g : Rg) : k_dSet_107 σ N i p g = (N (σ.set i (some p)) g) := Eq.trans rfl rfl
@[simp ↓] theorem wS_dSet_k (i : Nat) (d : Den) : wS (dSet i d σ g) N R = wE (d σ g) (k_dSet_107 σ N i) := wS_dSet _ _
def k_dSetW_108 (σ : Sl) (N : Sl → Rg → Prop) (i : Nat) (p : PV) (g : Rg) : Prop := i < σ.length ∧ N (σ.set i (some p)) g
@[simp] theorem k_dSetW_108_e (σ : Sl) (N : Sl → Rg → Prop) (i : Nat) (p : PV) (g : Rg) : k_dSetW_108 σ N i p g = (i < σ.length ∧ N (σ.set i (some p)) g) := Eq.trans rfl rfl
@[simp ↓] theorem wS_dSetW_k (i : Nat) (d : Den) : wS (dSetW i d σ g) N R = wE (d σ g) (k_dSetW_108 σ N i) := wS_dSetW _ _
def k_dPar_109 (σ : Sl) (N : Sl → Rg → Prop) (i : Nat) (j : Nat) (p : PV) (q : PV) (g : Rg) : Prop := N ((σ.set i (some p)).set j (some q)) g
@[simp] theorem k_dPar_109_e (σ : Sl) (N : Sl → Rg → Prop) (i : Nat) (j : Nat) (p : PV) (q : PV) (g : Rg) : k_dPar_109 σ N i j p q g = (N ((σ.set i (some p)).set j (some q)) g) := Eq.trans rfl rfl
def k_dPar_110 (σ : Sl) (N : Sl → Rg → Prop) (i : Nat) (j : Nat) (db : Den) (p : PV) (g : Rg) : Prop := wE (db σ g) (k_dPar_109 σ N i j p)
@[simp] theorem k_dPar_110_e (σ : Sl) (N : Sl → Rg → Prop) (i : Nat) (j : Nat) (db : Den) (p : PV) (g : Rg) : k_dPar_110 σ N i j db p g = (wE (db σ g) (k_dPar_109 σ N i j p)) := Eq.trans rfl rfl
@[simp ↓] theorem wS_dPar_k (i j : Nat) (da db : Den) : wS (dPar i j da db σ g) N R = wE (da σ g) (k_dPar_110 σ N i j db) := wS_dPar _ _ _ _
def k_dPar3_111 (σ : Sl) (N : Sl → Rg → Prop) (i : Nat) (j : Nat) (k : Nat) (p : PV) (q : PV) (r : PV) (g : Rg) : Prop := N (((σ.set i (some p)).set j (some q)).set k (some r)) g
@[simp] theorem k_dPar3_111_e (σ : Sl) (N : Sl → Rg → Prop) (i : Nat) (j : Nat) (k : Nat) (p : PV) (q : PV) (r : PV) (g : Rg) : k_dPar3_111 σ N i j k p q r g = (N (((σ.set i (some p)).set j (some q)).set k (some r)) g) := Eq.trans rfl rfl
def k_dPar3_112 (σ : Sl) (N : Sl → Rg → Prop) (i : Nat) (j : Nat) (k : Nat) (dc : Den) (p : PV) (q : PV) (g : Rg) : Prop := wE (dc σ g) (k_dPar3_111 σ N i j k p q)
@[simp] theorem k_dPar3_112_e (σ : Sl) (N : Sl → Rg → Prop) (i : Nat) (j : Nat) (k : Nat) (dc : Den) (p : PV) (q : PV) (g : Rg) : k_dPar3_112 σ N i j k dc p q g = (wE (dc σ g) (k_dPar3_111 σ N i j k p q)) := Eq.trans rfl rfl
def k_dPar3_113 (σ : Sl) (N : Sl → Rg → Prop) (i : Nat) (j : Nat) (k : Nat) (db : Den) (dc : Den) (p : PV) (g : Rg) : Prop := wE (db σ g) (k_dPar3_112 σ N i j k dc p)
@[simp] theorem k_dPar3_113_e (σ : Sl) (N : Sl → Rg → Prop) (i : Nat) (j : Nat) (k : Nat) (db : Den) (dc : Den) (p : PV) (g : Rg) : k_dPar3_113 σ N i j k db dc p g = (wE (db σ g) (k_dPar3_112 σ N i j k dc p)) := Eq.trans rfl rfl
@[simp ↓] theorem wS_dPar3_k (i j k : Nat) (da db dc : Den) : wS (dPar3 i j k da db dc σ g) N R = wE (da σ g) (k_dPar3_113 σ N i j k db dc) := wS_dPar3 _ _ _ _ _ _
def k_dPar3W_114 (σ : Sl) (N : Sl → Rg → Prop) (i : Nat) (j : Nat) (k : Nat) (p : PV) (q : PV) (r : PV) (g : Rg) : Prop := k < σ.length ∧ N (((σ.set i (some p)).set j (some q)).set k (some r)) g
@[simp] theorem k_dPar3W_114_e (σ : Sl) (N : Sl → Rg → Prop) (i : Nat) (j : Nat) (k : Nat) (p : PV) (q : PV) (r : PV) (g : Rg) : k_dPar3W_114 σ N i j k p q r g = (k < σ.length ∧ N (((σ.set i (some p)).set j (some q)).set k (some r)) g) := Eq.trans rfl rfl
def k_dPar3W_115 (σ : Sl) (N : Sl → Rg → Prop) (i : Nat) (j : Nat) (k : Nat) (dc : Den) (p : PV) (q : PV) (g : Rg) : Prop := wE (dc σ g) (k_dPar3W_114 σ N i j k p q)
@[simp] theorem k_dPar3W_115_e (σ : Sl) (N : Sl → Rg → Prop) (i : Nat) (j : Nat) (k : Nat) (dc : Den) (p : PV) (q : PV) (g : Rg) : k_dPar3W_115 σ N i j k dc p q g = (wE (dc σ g) (k_dPar3W_114 σ N i j k p q)) := Eq.trans rfl rfl
def k_dPar3W_116 (σ : Sl) (N : Sl → Rg → Prop) (i : Nat) (j : Nat) (k : Nat) (db : Den) (dc : Den) (p : PV) (g : Rg) : Prop := wE (db σ g) (k_dPar3W_115 σ N i j k dc p)
@[simp] theorem k_dPar3W_116_e (σ : Sl) (N : Sl → Rg → Prop) (i : Nat) (j : Nat) (k : Nat) (db : Den) (dc : Den) (p : PV) (g : Rg) : k_dPar3W_116 σ N i j k db dc p g = (wE (db σ g) (k_dPar3W_115 σ N i j k dc p)) := Eq.trans rfl rfl
@[simp ↓] theorem wS_dPar3W_k (i j k : Nat) (da db dc : Den) : wS (dPar3W i j k da db dc σ g) N R = wE (da σ g) (k_dPar3W_116 σ N i j k db dc) := wS_dPar3W _ _ _ _ _ _
def k_dParW_117 (σ : Sl) (N : Sl → Rg → Prop) (i : Nat) (j : Nat) (p : PV) (q : PV) (g : Rg) : Prop := N ((σ.set i (some p)).set j (some q)) g
@[simp] theorem k_dParW_117_e (σ : Sl) (N : Sl → Rg → Prop) (i : Nat) (j : Nat) (p : PV) (q : PV) (g : Rg) : k_dParW_117 σ N i j p q g = (N ((σ.set i (some p)).set j (some q)) g) := Eq.trans rfl rfl
def k_dParW_118 (σ : Sl) (N : Sl → Rg → Prop) (i : Nat) (j : Nat) (db : Den) (p : PV) (g : Rg) : Prop := wE (db σ g) (k_dParW_117 σ N i j p)
@[simp] theorem k_dParW_118_e (σ : Sl) (N : Sl → Rg → Prop) (i : Nat) (j : Nat) (db : Den) (p : PV) (g : Rg) : k_dParW_118 σ N i j db p g = (wE (db σ g) (k_dParW_117 σ N i j p)) := Eq.trans rfl rfl
@[simp ↓] theorem wS_dParW_k (i j : Nat) (da db : Den) : wS (dParW i j da db σ g) N R = (i < σ.length ∧ j < σ.length ∧ wE (da σ g) (k_dParW_118 σ N i j db)) := wS_dParW _ _ _ _
def k_dAsg_119 (g : Rg) (N : Sl → Rg → Prop) (σ' : Sl) : Prop := N σ' g
@[simp] theorem k_dAsg_119_e (g : Rg) (N : Sl → Rg → Prop) (σ' : Sl) : k_dAsg_119 g N σ' = (N σ' g) := Eq.trans rfl rfl
def k_dAsg_120 (σ : Sl) (N : Sl → Rg → Prop) (gd : DenG) (p : PV) (g : Rg) : Prop := wO (gd p σ) (k_dAsg_119 g N)
@[simp] theorem k_dAsg_120_e (σ : Sl) (N : Sl → Rg → Prop) (gd : DenG) (p : PV) (g : Rg) : k_dAsg_120 σ N gd p g = (wO (gd p σ) (k_dAsg_119 g N)) := Eq.trans rfl rfl
@[simp ↓] theorem wS_dAsg_k (gd : DenG) (d : Den) : wS (dAsg gd d σ g) N R = wE (d σ g) (k_dAsg_120 σ N gd) := wS_dAsg _ _
def k_dFor_121 (σ : Sl) (N : Sl → Rg → Prop) (R : PV → Rg → Prop) (gd : DenG) (b : DenS) (items : List PV) (g : Rg) : Prop := wS (loopS gd b items σ g) N R
@[simp] theorem k_dFor_121_e (σ : Sl) (N : Sl → Rg → Prop) (R : PV → Rg → Prop) (gd : DenG) (b : DenS) (items : List PV) (g : Rg) : k_dFor_121 σ N R gd b items g = (wS (loopS gd b items σ g) N R) := Eq.trans rfl rfl
@[simp ↓] theorem wS_dFor_k (di : DenL) (gd : DenG) (b : DenS) : wS (dFor di gd b σ g) N R = wE (di σ g) (k_dFor_121 σ N R gd b) := wS_dFor _ _ _
def k_onLst_122 (N : Sl → Rg → Prop) (R : PV → Rg → Prop) (f : List PV → SRes) (l : List PV) : Prop := wS (f l) N R
@[simp] theorem k_onLst_122_e (N : Sl → Rg → Prop) (R : PV → Rg → Prop) (f : List PV → SRes) (l : List PV) : k_onLst_122 N R f l = (wS (f l) N R) := Eq.trans rfl rfl
@[simp ↓] theorem wS_onLst_k (i : Nat) (f : List PV → SRes) : wS (onLst i σ f) N R = wO (slotL σ i) (k_onLst_122 N R f) := wS_onLst _ _
def k_dApp_123 (σ : Sl) (N : Sl → Rg → Prop) (i : Nat) (l : List PV) (p : PV) (g : Rg) : Prop := l.length < qsz ∧ N (σ.set i (some (.lst (l ++ [p])))) g
@[simp] theorem k_dApp_123_e (σ : Sl) (N : Sl → Rg → Prop) (i : Nat) (l : List PV) (p : PV) (g : Rg) : k_dApp_123 σ N i l p g = (l.length < qsz ∧ N (σ.set i (some (.lst (l ++ [p])))) g) := Eq.trans rfl rfl
def k_dApp_124 (σ : Sl) (g : Rg) (N : Sl → Rg → Prop) (i : Nat) (d : Den) (l : List PV) : Prop := wE (d σ g) (k_dApp_123 σ N i l)
@[simp] theorem k_dApp_124_e (σ : Sl) (g : Rg) (N : Sl → Rg → Prop) (i : Nat) (d : Den) (l : List PV) : k_dApp_124 σ g N i d l = (wE (d σ g) (k_dApp_123 σ N i l)) := Eq.trans rfl rfl
@[simp ↓] theorem wS_dApp_k (i : Nat) (d : Den) : wS (dApp i d σ g) N R = wO (slotL σ i) (k_dApp_124 σ g N i d) := wS_dApp _ _
def k_dExt_125 (σ : Sl) (g : Rg) (N : Sl → Rg → Prop) (i : Nat) (l : List PV) (m : List PV) : Prop := l.length + m.length ≤ qsz ∧ N (σ.set i (some (.lst (l ++ m)))) g
@[simp] theorem k_dExt_125_e (σ : Sl) (g : Rg) (N : Sl → Rg → Prop) (i : Nat) (l : List PV) (m : List PV) : k_dExt_125 σ g N i l m = (l.length + m.length ≤ qsz ∧ N (σ.set i (some (.lst (l ++ m)))) g) := Eq.trans rfl rfl
def k_dExt_126 (σ : Sl) (N : Sl → Rg → Prop) (i : Nat) (l : List PV) (p : PV) (g : Rg) : Prop := wL p (k_dExt_125 σ g N i l)
@[simp] theorem k_dExt_126_e (σ : Sl) (N : Sl → Rg → Prop) (i : Nat) (l : List PV) (p : PV) (g : Rg) : k_dExt_126 σ N i l p g = (wL p (k_dExt_125 σ g N i l)) := Eq.trans rfl rfl
def k_dExt_127 (σ : Sl) (g : Rg) (N : Sl → Rg → Prop) (i : Nat) (d : Den) (l : List PV) : Prop := wE (d σ g) (k_dExt_126 σ N i l)
@[simp] theorem k_dExt_127_e (σ : Sl) (g : Rg) (N : Sl → Rg → Prop) (i : Nat) (d : Den) (l : List PV) : k_dExt_127 σ g N i d l = (wE (d σ g) (k_dExt_126 σ N i l)) := Eq.trans rfl rfl
@[simp ↓] theorem wS_dExt_k (i : Nat) (d : Den) : wS (dExt i d σ g) N R = wO (slotL σ i) (k_dExt_127 σ g N i d) := wS_dExt _ _
def k_dPut_128 (σ : Sl) (g : Rg) (N : Sl → Rg → Prop) (i : Nat) (l : List PV) (p : PV) (n : Nat) : Prop := N (σ.set i (some (.lst (l.set n p)))) g
@[simp] theorem k_dPut_128_e (σ : Sl) (g : Rg) (N : Sl → Rg → Prop) (i : Nat) (l : List PV) (p : PV) (n : Nat) : k_dPut_128 σ g N i l p n = (N (σ.set i (some (.lst (l.set n p)))) g) := Eq.trans rfl rfl
def k_dPut_129 (σ : Sl) (g : Rg) (N : Sl → Rg → Prop) (i : Nat) (l : List PV) (p : PV) (k : Int) : Prop := wO (ixN l.length k) (k_dPut_128 σ g N i l p)
@[simp] theorem k_dPut_129_e (σ : Sl) (g : Rg) (N : Sl → Rg → Prop) (i : Nat) (l : List PV) (p : PV) (k : Int) : k_dPut_129 σ g N i l p k = (wO (ixN l.length k) (k_dPut_128 σ g N i l p)) := Eq.trans rfl rfl
def k_dPut_130 (σ : Sl) (N : Sl → Rg → Prop) (i : Nat) (l : List PV) (p : PV) (q : PV) (g : Rg) : Prop := wI q (k_dPut_129 σ g N i l p)
@[simp] theorem k_dPut_130_e (σ : Sl) (N : Sl → Rg → Prop) (i : Nat) (l : List PV) (p : PV) (q : PV) (g : Rg) : k_dPut_130 σ N i l p q g = (wI q (k_dPut_129 σ g N i l p)) := Eq.trans rfl rfl
def k_dPut_131 (σ : Sl) (N : Sl → Rg → Prop) (i : Nat) (dk : Den) (l : List PV) (p : PV) (g : Rg) : Prop := wE (dk σ g) (k_dPut_130 σ N i l p)
@[simp] theorem k_dPut_131_e (σ : Sl) (N : Sl → Rg → Prop) (i : Nat) (dk : Den) (l : List PV) (p : PV) (g : Rg) : k_dPut_131 σ N i dk l p g = (wE (dk σ g) (k_dPut_130 σ N i l p)) := Eq.trans rfl rfl
def k_dPut_132 (σ : Sl) (g : Rg) (N : Sl → Rg → Prop) (i : Nat) (dk : Den) (d : Den) (l : List PV) : Prop := wE (d σ g) (k_dPut_131 σ N i dk l)
@[simp] theorem k_dPut_132_e (σ : Sl) (g : Rg) (N : Sl → Rg → Prop) (i : Nat) (dk : Den) (d : Den) (l : List PV) : k_dPut_132 σ g N i dk d l = (wE (d σ g) (k_dPut_131 σ N i dk l)) := Eq.trans rfl rfl
@[simp ↓] theorem wS_dPut_k (i : Nat) (dk d : Den) : wS (dPut i dk d σ g) N R = wO (slotL σ i) (k_dPut_132 σ g N i dk d) := wS_dPut _ _ _
def k_dPut2_133 (σ : Sl) (g : Rg) (N : Sl → Rg → Prop) (i : Nat) (l : List PV) (p : PV) (q : PV) (n1 : Nat) (n2 : Nat) : Prop := N (σ.set i (some (.lst ((l.set n1 p).set n2 q)))) g
@[simp] theorem k_dPut2_133_e (σ : Sl) (g : Rg) (N : Sl → Rg → Prop) (i : Nat) (l : List PV) (p : PV) (q : PV) (n1 : Nat) (n2 : Nat) : k_dPut2_133 σ g N i l p q n1 n2 = (N (σ.set i (some (.lst ((l.set n1 p).set n2 q)))) g) := Eq.trans rfl rfl
def k_dPut2_134 (σ : Sl) (g : Rg) (N : Sl → Rg → Prop) (i : Nat) (l : List PV) (p : PV) (q : PV) (n1 : Nat) (i2 : Int) : Prop := wO (ixN l.length i2) (k_dPut2_133 σ g N i l p q n1)
@[simp] theorem k_dPut2_134_e (σ : Sl) (g : Rg) (N : Sl → Rg → Prop) (i : Nat) (l : List PV) (p : PV) (q : PV) (n1 : Nat) (i2 : Int) : k_dPut2_134 σ g N i l p q n1 i2 = (wO (ixN l.length i2) (k_dPut2_133 σ g N i l p q n1)) := Eq.trans rfl rfl
def k_dPut2_135 (σ : Sl) (N : Sl → Rg → Prop) (i : Nat) (l : List PV) (p : PV) (q : PV) (n1 : Nat) (s : PV) (g : Rg) : Prop := wI s (k_dPut2_134 σ g N i l p q n1)
@[simp] theorem k_dPut2_135_e (σ : Sl) (N : Sl → Rg → Prop) (i : Nat) (l : List PV) (p : PV) (q : PV) (n1 : Nat) (s : PV) (g : Rg) : k_dPut2_135 σ N i l p q n1 s g = (wI s (k_dPut2_134 σ g N i l p q n1)) := Eq.trans rfl rfl
def k_dPut2_136 (σ : Sl) (g : Rg) (N : Sl → Rg → Prop) (i : Nat) (dk2 : Den) (l : List PV) (p : PV) (q : PV) (n1 : Nat) : Prop := wE (dk2 σ g) (k_dPut2_135 σ N i l p q n1)
@[simp] theorem k_dPut2_136_e (σ : Sl) (g : Rg) (N : Sl → Rg → Prop) (i : Nat) (dk2 : Den) (l : List PV) (p : PV) (q : PV) (n1 : Nat) : k_dPut2_136 σ g N i dk2 l p q n1 = (wE (dk2 σ g) (k_dPut2_135 σ N i l p q n1)) := Eq.trans rfl rfl
def k_dPut2_137 (σ : Sl) (g : Rg) (N : Sl → Rg → Prop) (i : Nat) (dk2 : Den) (l : List PV) (p : PV) (q : PV) (i1 : Int) : Prop := wO (ixN l.length i1) (k_dPut2_136 σ g N i dk2 l p q)
@[simp] theorem k_dPut2_137_e (σ : Sl) (g : Rg) (N : Sl → Rg → Prop) (i : Nat) (dk2 : Den) (l : List PV) (p : PV) (q : PV) (i1 : Int) : k_dPut2_137 σ g N i dk2 l p q i1 = (wO (ixN l.length i1) (k_dPut2_136 σ g N i dk2 l p q)) := Eq.trans rfl rfl
def k_dPut2_138 (σ : Sl) (N : Sl → Rg → Prop) (i : Nat) (dk2 : Den) (l : List PV) (p : PV) (q : PV) (r : PV) (g : Rg) : Prop := wI r (k_dPut2_137 σ g N i dk2 l p q)
@[simp] theorem k_dPut2_138_e (σ : Sl) (N : Sl → Rg → Prop) (i : Nat) (dk2 : Den) (l : List PV) (p : PV) (q : PV) (r : PV) (g : Rg) : k_dPut2_138 σ N i dk2 l p q r g = (wI r (k_dPut2_137 σ g N i dk2 l p q)) := Eq.trans rfl rfl
def k_dPut2_139 (σ : Sl) (N : Sl → Rg → Prop) (i : Nat) (dk1 : Den) (dk2 : Den) (l : List PV) (p : PV) (q : PV) (g : Rg) : Prop := wE (dk1 σ g) (k_dPut2_138 σ N i dk2 l p q)
@[simp] theorem k_dPut2_139_e (σ : Sl) (N : Sl → Rg → Prop) (i : Nat) (dk1 : Den) (dk2 : Den) (l : List PV) (p : PV) (q : PV) (g : Rg) : k_dPut2_139 σ N i dk1 dk2 l p q g = (wE (dk1 σ g) (k_dPut2_138 σ N i dk2 l p q)) := Eq.trans rfl rfl
def k_dPut2_140 (σ : Sl) (N : Sl → Rg → Prop) (i : Nat) (dk1 : Den) (dk2 : Den) (db : Den) (l : List PV) (p : PV) (g : Rg) : Prop := wE (db σ g) (k_dPut2_139 σ N i dk1 dk2 l p)
@[simp] theorem k_dPut2_140_e (σ : Sl) (N : Sl → Rg → Prop) (i : Nat) (dk1 : Den) (dk2 : Den) (db : Den) (l : List PV) (p : PV) (g : Rg) : k_dPut2_140 σ N i dk1 dk2 db l p g = (wE (db σ g) (k_dPut2_139 σ N i dk1 dk2 l p)) := Eq.trans rfl rfl
def k_dPut2_141 (σ : Sl) (g : Rg) (N : Sl → Rg → Prop) (i : Nat) (dk1 : Den) (dk2 : Den) (da : Den) (db : Den) (l : List PV) : Prop := wE (da σ g) (k_dPut2_140 σ N i dk1 dk2 db l)
@[simp] theorem k_dPut2_141_e (σ : Sl) (g : Rg) (N : Sl → Rg → Prop) (i : Nat) (dk1 : Den) (dk2 : Den) (da : Den) (db : Den) (l : List PV) : k_dPut2_141 σ g N i dk1 dk2 da db l = (wE (da σ g) (k_dPut2_140 σ N i dk1 dk2 db l)) := Eq.trans rfl rfl
@[simp ↓] theorem wS_dPut2_k (i : Nat) (dk1 dk2 da db : Den) : wS (dPut2 i dk1 dk2 da db σ g) N R = wO (slotL σ i) (k_dPut2_141 σ g N i dk1 dk2 da db) := wS_dPut2 _ _ _ _ _
def k_dForK_142 (σ : Sl) (N : Sl → Rg → Prop) (R : PV → Rg → Prop) (gd : DenG) (db : DenS) (items : List PV) (g : Rg) : Prop := wS (loopS gd db items σ g) N R
@[simp] theorem k_dForK_142_e (σ : Sl) (N : Sl → Rg → Prop) (R : PV → Rg → Prop) (gd : DenG) (db : DenS) (items : List PV) (g : Rg) : k_dForK_142 σ N R gd db items g = (wS (loopS gd db items σ g) N R) := Eq.trans rfl rfl
@[simp ↓] theorem wS_dForK_k (i : Nat) (gd : DenG) (db : DenS) : wS (dForK i gd db σ g) N R = wE (dKeys i σ g) (k_dForK_142 σ N R gd db) := wS_dForK _ _ _
def k_dDPut_143 (σ : Sl) (g : Rg) (N : Sl → Rg → Prop) (i : Nat) (x : List Key × List PV) (p : PV) (ky : Key) : Prop := x.1.length < qsz ∧ N (σ.set i (some (.dct (putKs x.1 ky) (putVs x.1 x.2 ky p)))) g
@[simp] theorem k_dDPut_143_e (σ : Sl) (g : Rg) (N : Sl → Rg → Prop) (i : Nat) (x : List Key × List PV) (p : PV) (ky : Key) : k_dDPut_143 σ g N i x p ky = (x.1.length < qsz ∧ N (σ.set i (some (.dct (putKs x.1 ky) (putVs x.1 x.2 ky p)))) g) := Eq.trans rfl rfl
def k_dDPut_144 (σ : Sl) (N : Sl → Rg → Prop) (i : Nat) (x : List Key × List PV) (p : PV) (q : PV) (g : Rg) : Prop := wO (keyP q) (k_dDPut_143 σ g N i x p)
@[simp] theorem k_dDPut_144_e (σ : Sl) (N : Sl → Rg → Prop) (i : Nat) (x : List Key × List PV) (p : PV) (q : PV) (g : Rg) : k_dDPut_144 σ N i x p q g = (wO (keyP q) (k_dDPut_143 σ g N i x p)) := Eq.trans rfl rfl
def k_dDPut_145 (σ : Sl) (N : Sl → Rg → Prop) (i : Nat) (dk : Den) (x : List Key × List PV) (p : PV) (g : Rg) : Prop := wE (dk σ g) (k_dDPut_144 σ N i x p)
@[simp] theorem k_dDPut_145_e (σ : Sl) (N : Sl → Rg → Prop) (i : Nat) (dk : Den) (x : List Key × List PV) (p : PV) (g : Rg) : k_dDPut_145 σ N i dk x p g = (wE (dk σ g) (k_dDPut_144 σ N i x p)) := Eq.trans rfl rfl
def k_dDPut_146 (σ : Sl) (g : Rg) (N : Sl → Rg → Prop) (i : Nat) (dk : Den) (d : Den) (x : List Key × List PV) : Prop := wE (d σ g) (k_dDPut_145 σ N i dk x)
@[simp] theorem k_dDPut_146_e (σ : Sl) (g : Rg) (N : Sl → Rg → Prop) (i : Nat) (dk : Den) (d : Den) (x : List Key × List PV) : k_dDPut_146 σ g N i dk d x = (wE (d σ g) (k_dDPut_145 σ N i dk x)) := Eq.trans rfl rfl
@[simp ↓] theorem wS_dDPut_k (i : Nat) (dk d : Den) : wS (dDPut i dk d σ g) N R = wO (slotD σ i) (k_dDPut_146 σ g N i dk d) := wS_dDPut _ _ _
def k_dFldS_147 (σ : Sl) (N : Sl → Rg → Prop) (i : Nat) (k : Str) (f : Str) (fs : List Str) (vs : List PV) (q : PV) (g : Rg) : Prop := fs.length < 1000 ∧ N (σ.set i (some (.ins k (putNs fs f) (putPs fs vs f q)))) g
@[simp] theorem k_dFldS_147_e (σ : Sl) (N : Sl → Rg → Prop) (i : Nat) (k : Str) (f : Str) (fs : List Str) (vs : List PV) (q : PV) (g : Rg) : k_dFldS_147 σ N i k f fs vs q g = (fs.length < 1000 ∧ N (σ.set i (some (.ins k (putNs fs f) (putPs fs vs f q)))) g) := Eq.trans rfl rfl
def k_dFldS_148 (σ : Sl) (g : Rg) (N : Sl → Rg → Prop) (i : Nat) (k : Str) (f : Str) (d : Den) (fs : List Str) (vs : List PV) : Prop := wE (d σ g) (k_dFldS_147 σ N i k f fs vs)
@[simp] theorem k_dFldS_148_e (σ : Sl) (g : Rg) (N : Sl → Rg → Prop) (i : Nat) (k : Str) (f : Str) (d : Den) (fs : List Str) (vs : List PV) : k_dFldS_148 σ g N i k f d fs vs = (wE (d σ g) (k_dFldS_147 σ N i k f fs vs)) := Eq.trans rfl rfl
def k_dFldS_149 (σ : Sl) (g : Rg) (N : Sl → Rg → Prop) (i : Nat) (k : Str) (f : Str) (d : Den) (p : PV) : Prop := wIns k p (k_dFldS_148 σ g N i k f d)
@[simp] theorem k_dFldS_149_e (σ : Sl) (g : Rg) (N : Sl → Rg → Prop) (i : Nat) (k : Str) (f : Str) (d : Den) (p : PV) : k_dFldS_149 σ g N i k f d p = (wIns k p (k_dFldS_148 σ g N i k f d)) := Eq.trans rfl rfl
@[simp ↓] theorem wS_dFldS_k (i : Nat) (k f : Str) (d : Den) : wS (dFldS i k f d σ g) N R = wO (slot σ i) (k_dFldS_149 σ g N i k f d) := wS_dFldS _ _ _ _
def k_dInit_150 (g : Rg) (Φ : PV → Rg → Prop) (p : PV) : Prop := Φ p g
@[simp] theorem k_dInit_150_e (g : Rg) (Φ : PV → Rg → Prop) (p : PV) : k_dInit_150 g Φ p = (Φ p g) := Eq.trans rfl rfl
def k_dInit_151 (Φ : PV → Rg → Prop) (σ : Sl) (g : Rg) : Prop := wO (slot σ 0) (k_dInit_150 g Φ)
@[simp] theorem k_dInit_151_e (Φ : PV → Rg → Prop) (σ : Sl) (g : Rg) : k_dInit_151 Φ σ g = (wO (slot σ 0) (k_dInit_150 g Φ)) := Eq.trans rfl rfl
def k_dInit_152 (u_0 : PV) (u_1 : Rg) : Prop := False
@[simp] theorem k_dInit_152_e (u_0 : PV) (u_1 : Rg) : k_dInit_152 u_0 u_1 = (False) := Eq.trans rfl rfl
@[simp ↓] theorem wE_dInit_k (n : Nat) (k : Str) (d : DenS) (ps : List PV) (Φ : PV → Rg → Prop) : wE (dInit n k d ps g) Φ = wS (d (startP n (.ins k [] [] :: ps)) g) ((k_dInit_151 Φ)) ((k_dInit_152)) := wE_dInit _ _ _ _ _
def k_dSpoil_153 (σ : Sl) (N : Sl → Rg → Prop) (i : Nat) (u_0 : PV) (g : Rg) : Prop := N (σ.set i none) g
@[simp] theorem k_dSpoil_153_e (σ : Sl) (N : Sl → Rg → Prop) (i : Nat) (u_0 : PV) (g : Rg) : k_dSpoil_153 σ N i u_0 g = (N (σ.set i none) g) := Eq.trans rfl rfl
def k_dSpoil_154 (σ : Sl) (g : Rg) (N : Sl → Rg → Prop) (i : Nat) (D : DDen) (p : PV) : Prop := wE (D [p] g) (k_dSpoil_153 σ N i)
@[simp] theorem k_dSpoil_154_e (σ : Sl) (g : Rg) (N : Sl → Rg → Prop) (i : Nat) (D : DDen) (p : PV) : k_dSpoil_154 σ g N i D p = (wE (D [p] g) (k_dSpoil_153 σ N i)) := Eq.trans rfl rfl
@[simp ↓] theorem wS_dSpoil_k (i : Nat) (D : DDen) : wS (dSpoil i D σ g) N R = wO (slot σ i) (k_dSpoil_154 σ g N i D) := wS_dSpoil _ _
def k_dAppPop_155 (σ : Sl) (g : Rg) (N : Sl → Rg → Prop) (i : Nat) (j : Nat) (l : List PV) (m : List PV) (n : Nat) (y : PV) : Prop := l.length < qsz ∧ N ((σ.set j (some (.lst (m.eraseIdx n)))).set i (some (.lst (l ++ [y])))) g
@[simp] theorem k_dAppPop_155_e (σ : Sl) (g : Rg) (N : Sl → Rg → Prop) (i : Nat) (j : Nat) (l : List PV) (m : List PV) (n : Nat) (y : PV) : k_dAppPop_155 σ g N i j l m n y = (l.length < qsz ∧ N ((σ.set j (some (.lst (m.eraseIdx n)))).set i (some (.lst (l ++ [y])))) g) := Eq.trans rfl rfl
def k_dAppPop_156 (σ : Sl) (g : Rg) (N : Sl → Rg → Prop) (i : Nat) (j : Nat) (l : List PV) (m : List PV) (n : Nat) : Prop := wO m[n]? (k_dAppPop_155 σ g N i j l m n)
@[simp] theorem k_dAppPop_156_e (σ : Sl) (g : Rg) (N : Sl → Rg → Prop) (i : Nat) (j : Nat) (l : List PV) (m : List PV) (n : Nat) : k_dAppPop_156 σ g N i j l m n = (wO m[n]? (k_dAppPop_155 σ g N i j l m n)) := Eq.trans rfl rfl
def k_dAppPop_157 (σ : Sl) (g : Rg) (N : Sl → Rg → Prop) (i : Nat) (j : Nat) (l : List PV) (m : List PV) (k : Int) : Prop := (-(2 ^ 63) ≤ k ∧ k < 2 ^ 63) ∧ wO (ixN m.length k) (k_dAppPop_156 σ g N i j l m)
@[simp] theorem k_dAppPop_157_e (σ : Sl) (g : Rg) (N : Sl → Rg → Prop) (i : Nat) (j : Nat) (l : List PV) (m : List PV) (k : Int) : k_dAppPop_157 σ g N i j l m k = ((-(2 ^ 63) ≤ k ∧ k < 2 ^ 63) ∧ wO (ixN m.length k) (k_dAppPop_156 σ g N i j l m)) := Eq.trans rfl rfl
def k_dAppPop_158 (σ : Sl) (N : Sl → Rg → Prop) (i : Nat) (j : Nat) (l : List PV) (m : List PV) (q : PV) (g : Rg) : Prop := wI q (k_dAppPop_157 σ g N i j l m)
@[simp] theorem k_dAppPop_158_e (σ : Sl) (N : Sl → Rg → Prop) (i : Nat) (j : Nat) (l : List PV) (m : List PV) (q : PV) (g : Rg) : k_dAppPop_158 σ N i j l m q g = (wI q (k_dAppPop_157 σ g N i j l m)) := Eq.trans rfl rfl
def k_dAppPop_159 (σ : Sl) (g : Rg) (N : Sl → Rg → Prop) (i : Nat) (j : Nat) (d : Den) (l : List PV) (m : List PV) : Prop := wE (d σ g) (k_dAppPop_158 σ N i j l m)
@[simp] theorem k_dAppPop_159_e (σ : Sl) (g : Rg) (N : Sl → Rg → Prop) (i : Nat) (j : Nat) (d : Den) (l : List PV) (m : List PV) : k_dAppPop_159 σ g N i j d l m = (wE (d σ g) (k_dAppPop_158 σ N i j l m)) := Eq.trans rfl rfl
def k_dAppPop_160 (σ : Sl) (g : Rg) (N : Sl → Rg → Prop) (i : Nat) (j : Nat) (d : Den) (l : List PV) : Prop := wO (slotL σ j) (k_dAppPop_159 σ g N i j d l)
@[simp] theorem k_dAppPop_160_e (σ : Sl) (g : Rg) (N : Sl → Rg → Prop) (i : Nat) (j : Nat) (d : Den) (l : List PV) : k_dAppPop_160 σ g N i j d l = (wO (slotL σ j) (k_dAppPop_159 σ g N i j d l)) := Eq.trans rfl rfl
@[simp ↓] theorem wS_dAppPop_k (i j : Nat) (d : Den) : wS (dAppPop i j d σ g) N R = wO (slotL σ i) (k_dAppPop_160 σ g N i j d) := wS_dAppPop _ _ _
end
@[simp] theorem wipe_0 (σ : Sl) : wipeP σ [] = σ := rfl
@[simp] theorem wipe_1 (σ : Sl) (v : Nat) (vs : List Nat) : wipeP σ (v :: vs) = (wipeP σ vs).set v none := rfl
@[simp ↓] theorem wO_gdName (i : Nat) (p : PV) (Φ : Sl → Prop) : wO (gdName i p σ) Φ = Φ (σ.set i (some p)) := rfl
def wT (p : PV) (n : Nat) (Φ : List PV → Prop) : Prop := match p with | .tup l => l.length = n ∧ Φ l | .lst l => False | _ => False
@[simp ↓] theorem wO_gdTup (n : Nat) (b : DenGs) (l : List PV) (Φ : Sl → Prop) : wO (gdTupA n b (.tup l) σ) Φ = (l.length = n ∧ wO (b l σ) Φ) := by
  unfold gdTupA
  by_cases h : l.length = n <;> simp [h]
@[simp ↓] theorem wO_gdTupL (n : Nat) (b : DenGs) (l : List PV) (Φ : Sl → Prop) : wO (gdTupA n b (.lst l) σ) Φ = (l.length = n ∧ wO (b l σ) Φ) := by
  unfold gdTupA
  by_cases h : l.length = n <;> simp [h]
@[simp ↓] theorem wO_gdNil (Φ : Sl → Prop) : wO (gdNil [] σ) Φ = Φ σ := rfl
theorem wO_gdCons (a : DenG) (b : DenGs) (p : PV) (l : List PV) (Φ : Sl → Prop) : wO (gdCons a b (p :: l) σ) Φ = wO (a p σ) fun σ => wO (b l σ) Φ := by
  show wO ((a p σ).bind (b l)) Φ = _
  rw [wO_bind]
def k_gdCons_161 (Φ : Sl → Prop) (b : DenGs) (l : List PV) (σ : Sl) : Prop := wO (b l σ) Φ
@[simp] theorem k_gdCons_161_e (Φ : Sl → Prop) (b : DenGs) (l : List PV) (σ : Sl) : k_gdCons_161 Φ b l σ = (wO (b l σ) Φ) := Eq.trans rfl rfl
@[simp ↓] theorem wO_gdCons_k (a : DenG) (b : DenGs) (p : PV) (l : List PV) (Φ : Sl → Prop) : wO (gdCons a b (p :: l) σ) Φ = wO (a p σ) (k_gdCons_161 Φ b l) := wO_gdCons _ _ _ _ _
end
theorem wS_loop {gd : DenG} {body : DenS} {R : PV → Rg → Prop} (I : Nat → Sl → Rg → Prop) : ∀ {items : List PV} (m : Nat) {σ : Sl} {g : Rg} {N : Sl → Rg → Prop}, I m σ g →
    (∀ k p σ g, items[k]? = some p → I (m + k) σ g → wO (gd p σ) fun σ1 => wS (body σ1 g) (I (m + k + 1)) R) → (∀ σ g, I (m + items.length) σ g → N σ g) → wS (loopS gd body items σ g) N R
  | [], m, σ, g, N, h0, st, hN => hN σ g h0
  | p :: r, m, σ, g, N, h0, st, hN => by
    have h1 := st 0 p σ g rfl h0
    unfold loopS
    cases e : gd p σ with
    | none => rw [e] at h1; exact h1.elim
    | some σ1 =>
      rw [e] at h1
      simp only [wO_some] at h1 ⊢
      cases eb : body σ1 g with
      | next σ2 g2 =>
        rw [eb] at h1
        simp only []
        exact wS_loop I (m + 1) h1 (fun k p σ g hk hi => by
          have := st (k + 1) p σ g (by simpa using hk) (by rw [show m + (k + 1) = m + 1 + k by omega]; exact hi)
          rw [show m + 1 + k + 1 = m + (k + 1) + 1 by omega]; exact this) fun σ g hi => hN σ g (by rw [List.length_cons, show m + (r.length + 1) = m + 1 + r.length by omega]; exact hi)
      | ret p g => rw [eb] at h1; exact h1
      | exc _ _ _ _ => rw [eb] at h1; exact h1
      | stuck => rw [eb] at h1; exact h1
/-- a loop over mapped items -/
theorem wS_loopM {α : Type} {gd : DenG} {body : DenS} {R : PV → Rg → Prop} (I : Nat → Sl → Rg → Prop) {l : List α} {f : α → PV} {σ : Sl} {g : Rg} {N : Sl → Rg → Prop} (h0 : I 0 σ g)
    (st : ∀ k a σ g, l[k]? = some a → I k σ g → wO (gd (f a) σ) fun σ1 => wS (body σ1 g) (I (k + 1)) R) (hN : ∀ σ g, I l.length σ g → N σ g) : wS (loopS gd body (l.map f) σ g) N R :=
  wS_loop I 0 h0 (fun k p σ g hk hi => by
    rw [List.getElem?_map] at hk
    cases e : l[k]? with
    | none => rw [e] at hk; cases hk
    | some a => rw [e] at hk; cases hk; rw [Nat.zero_add] at hi ⊢; exact st k a σ g e hi) fun σ g hi => hN σ g (by rw [Nat.zero_add, List.length_map] at hi; exact hi)
/-- a loop over numbers -/
theorem wS_rng {gd : DenG} {body : DenS} {R : PV → Rg → Prop} (I : Nat → Sl → Rg → Prop) {lo : Int} {n : Nat} {σ : Sl} {g : Rg} {N : Sl → Rg → Prop} (h0 : I 0 σ g)
    (st : ∀ k σ g, k < n → I k σ g → wO (gd (.int (lo + (k : Nat))) σ) fun σ1 => wS (body σ1 g) (I (k + 1)) R) (hN : ∀ σ g, I n σ g → N σ g) : wS (loopS gd body (rngP lo n) σ g) N R :=
  wS_loopM I h0 (fun k a σ g hk hi => by
    have hk' : k < n ∧ a = k := by
      rw [List.getElem?_eq_some_iff] at hk
      obtain ⟨h, e⟩ := hk
      simp at h e
      exact ⟨h, e.symm⟩
    rw [hk'.2]
    exact st k σ g hk'.1 hi) fun σ g hi => hN σ g (by simpa using hi)
/-- a comprehension that draws nothing -/
theorem wE_compM {α : Type} {gd : DenG} {dt : DenT} {de : Den} {σ : Sl} {f : α → PV} (t : α → Bool) (e : α → PV) {Φ : List PV → Rg → Prop} : ∀ {l : List α} {g : Rg}, (∀ a ∈ l, wO (gd (f a) σ) fun σ1 => wE (dt σ1 g) fun b g1 => b = t a ∧ g1 = g ∧ (t a = true → wE (de σ1 g) fun q g2 => q = e a ∧ g2 = g)) →
    Φ ((l.filter t).map e) g → wE (compL gd dt de σ (l.map f) g) Φ
  | [], g, _, h => h
  | a :: l, g, st, h => by
    have h1 := st a (by simp)
    unfold compL
    simp only [List.map_cons]
    cases e1 : gd (f a) σ with
    | none => rw [e1] at h1; exact h1.elim
    | some σ1 =>
      rw [e1] at h1
      simp only [wO_some] at h1
      simp only [wE_bind, wE_noX]
      refine wE_mono h1 fun b g1 ⟨e2, e3, h2⟩ => ?_
      subst e2 e3
      by_cases ht : t a = true
      · simp only [ht, if_true, wE_bind, wE_noX]
        refine wE_mono (h2 ht) fun q g2 ⟨e4, e5⟩ => ?_
        subst e4 e5
        refine wE_compM t e (fun b hb => st b (by simp [hb])) ?_
        simpa [List.filter_cons, ht] using h
      · simp only [ht, if_false]
        refine wE_compM t e (fun b hb => st b (by simp [hb])) ?_
        simpa [List.filter_cons, ht] using h
theorem wE_compA {α : Type} {gd : DenG} {de : Den} {σ : Sl} {f : α → PV} (e : α → PV) {Φ : List PV → Rg → Prop} {l : List α} {g : Rg} (st : ∀ a ∈ l, wO (gd (f a) σ) fun σ1 => wE (de σ1 g) fun q g2 => q = e a ∧ g2 = g)
    (h : Φ (l.map e) g) : wE (compL gd dYes de σ (l.map f) g) Φ :=
  wE_compM (fun _ => true) e (fun a ha => by
    have := st a ha
    cases e1 : gd (f a) σ with
    | none => rw [e1] at this; exact this.elim
    | some σ1 => rw [e1] at this; exact ⟨rfl, rfl, fun _ => this⟩) (by rw [show l.filter (fun _ => true) = l from List.filter_eq_self.mpr fun _ _ => rfl]; exact h)
/-- .. that draws -/
theorem wE_compS {gd : DenG} {de : Den} {σ : Sl} (I : Nat → List PV → Rg → Prop) {Φ : List PV → Rg → Prop} : ∀ {items : List PV} {g : Rg} (qs : List PV) (m : Nat), I m qs g → (∀ k p qs g, items[k]? = some p → I (m + k) qs g → wO (gd p σ) fun σ1 => wE (de σ1 g) fun q g => I (m + k + 1) (qs ++ [q]) g) →
    (∀ rs g, I (m + items.length) (qs ++ rs) g → Φ rs g) → wE (compL gd dYes de σ items g) Φ
  | [], g, qs, m, h0, st, hN => hN [] g (by simpa using h0)
  | p :: r, g, qs, m, h0, st, hN => by
    have h1 := st 0 p qs g rfl h0
    unfold compL
    cases e1 : gd p σ with
    | none => rw [e1] at h1; exact h1.elim
    | some σ1 =>
      rw [e1] at h1
      simp only [wO_some] at h1
      simp only [wE_bind, wE_noX, wE_dYes, if_true]
      refine wE_mono h1 fun q g1 h2 => ?_
      refine wE_compS I (qs ++ [q]) (m + 1) h2 (fun k p qs g hk hi => ?_) fun rs g hi => ?_
      · have := st (k + 1) p qs g (by simpa using hk) (by rw [show m + (k + 1) = m + 1 + k by omega]; exact hi)
        rw [show m + 1 + k + 1 = m + (k + 1) + 1 by omega]; exact this
      · show Φ (q :: rs) g
        exact hN (q :: rs) g (by rw [List.length_cons, show m + (r.length + 1) = m + 1 + r.length by omega]; simpa using hi)
end Tr

namespace Tr
open PySem PySem.Spec PyProof.Rows L2
theorem atI_nat {α : Type} (l : List α) (n : Nat) : atI l (n : Int) = l[n]? := by
  unfold atI ixN
  by_cases h : n < l.length
  · simp [h]
  · simp [h, show ¬ (n : Int) < 0 by omega]
theorem eqvAll_map {α : Type} [DecidableEq α] (f : α → PyData) (h : ∀ a b, PyData.eqv (f a) (f b) = decide (a = b)) : ∀ l m : List α, PyData.eqvAll (l.map f) (m.map f) = decide (l = m)
  | [], [] => by simp [PyData.eqvAll]
  | [], b :: m => by simp [PyData.eqvAll]
  | a :: l, [] => by simp [PyData.eqvAll]
  | a :: l, b :: m => by simp [PyData.eqvAll, h, eqvAll_map f h l m]
theorem toDs_map {α : Type} (f : α → PV) (d : α → PyData) (h : ∀ a, toD (f a) = some (d a)) : ∀ l : List α, toDs (l.map f) = some (l.map d)
  | [] => by simp [toDs]
  | a :: l => by simp [toDs, h, toDs_map f d h l]
theorem canLay_map {α : Type} (d : α → PyData) (h : ∀ a, PyData.canLay0 (d a) = true) : ∀ l : List α, PyData.canLayAll0 (l.map d) = true
  | [] => by simp [PyData.canLayAll0]
  | a :: l => by simp [PyData.canLayAll0, h, canLay_map d h l]
theorem depth_map {α : Type} (d : α → PyData) (k : Nat) (h : ∀ a, PyData.depth (d a) ≤ k) : ∀ l : List α, PyData.depthAll (l.map d) ≤ k
  | [] => by simp [PyData.depthAll]
  | a :: l => by
    have := h a
    have := depth_map d k h l
    simp only [List.map_cons, PyData.depthAll]
    omega
theorem eq_list {α : Type} [DecidableEq α] (f : α → PV) (d : α → PyData) (k : Nat) (hk : k < 64) (h1 : ∀ a, toD (f a) = some (d a)) (h2 : ∀ a, PyData.canLay0 (d a) = true) (h3 : ∀ a, PyData.depth (d a) ≤ k) (h4 : ∀ a b, PyData.eqv (d a) (d b) = decide (a = b)) (l m : List α) :
    pEqB (.lst (l.map f)) (.lst (m.map f)) = some (decide (l = m)) := by
  have e : ∀ l : List α, SeqAt.shaped (.list (l.map d)) = true := fun l => by
    have := depth_map d k h3 l
    simp only [SeqAt.shaped, PyData.canLay0, canLay_map d h2, PyData.depth, Bool.true_and, decide_eq_true_eq]
    exact decide_eq_true (Nat.succ_le_succ (Nat.le_trans this (Nat.le_of_lt_succ hk)))
  simp only [pEqB, toD, toDs_map f d h1, Option.map_some, e, and_self, if_true, PyData.eqv, eqvAll_map d h4]
theorem o_eqLI (l m : List Int) : pEqB (.lst (l.map .int)) (.lst (m.map .int)) = some (decide (l = m)) :=
  eq_list .int .int 0 (by decide) (fun _ => by simp [toD]) (fun _ => by simp [PyData.canLay0]) (fun _ => by simp [PyData.depth]) eqv_int l m
@[simp] theorem atI_0 {α : Type} (x : α) (l : List α) : atI (x :: l) 0 = some x := by
  have := atI_nat (x :: l) 0
  simpa using this
@[simp] theorem atI_1 {α : Type} (x y : α) (l : List α) : atI (x :: y :: l) 1 = some y := by
  have := atI_nat (x :: y :: l) 1
  simpa using this
@[simp] theorem atI_2 {α : Type} (x y z : α) (l : List α) : atI (x :: y :: z :: l) 2 = some z := by
  have := atI_nat (x :: y :: z :: l) 2
  simpa using this
@[simp] theorem atI_3 {α : Type} (x y z w : α) (l : List α) : atI (x :: y :: z :: w :: l) 3 = some w := by
  have := atI_nat (x :: y :: z :: w :: l) 3
  simpa using this
@[simp] theorem atI_last {α : Type} (l : List α) (a : α) : atI (l ++ [a]) (-1) = some a := by
  have e : ixN (l ++ [a]).length (-1) = some l.length := by unfold ixN; simp; omega
  unfold atI
  rw [e]
  simp
theorem wS_find {α : Type} {gd : DenG} {body : DenS} {f : α → PV} {g : Rg} {R : PV → Rg → Prop} {N : Sl → Rg → Prop} (c : α → Option PV) (I : Sl → Prop) : ∀ {l : List α} {σ : Sl},
    (∀ a ∈ l, ∀ σ, I σ → wO (gd (f a) σ) fun σ1 => wS (body σ1 g) (fun σ g' => c a = none ∧ g' = g ∧ I σ) (fun p g' => c a = some p ∧ g' = g)) → I σ →
    (∀ r, l.findSome? c = some r → R r g) → (∀ σ, l.findSome? c = none → I σ → N σ g) → wS (loopS gd body (l.map f) σ g) N R
  | [], σ, _, h0, _, hN => hN σ rfl h0
  | a :: l, σ, st, h0, hR, hN => by
    have h1 := st a (by simp) σ h0
    unfold loopS
    simp only [List.map_cons]
    cases e : gd (f a) σ with
    | none => rw [e] at h1; exact h1.elim
    | some σ1 =>
      rw [e] at h1
      simp only [wO_some] at h1 ⊢
      cases eb : body σ1 g with
      | next σ2 g2 =>
        rw [eb] at h1
        obtain ⟨h2, h3, h4⟩ := h1
        subst h3
        simp only []
        exact wS_find c I (fun b hb => st b (by simp [hb])) h4 (fun r hr => hR r (by rw [List.findSome?_cons, h2]; exact hr)) fun σ hn => hN σ (by rw [List.findSome?_cons, h2]; exact hn)
      | ret p g => rw [eb] at h1; obtain ⟨h2, h3⟩ := h1; subst h3; exact hR p (by rw [List.findSome?_cons, h2])
      | exc _ _ _ _ => rw [eb] at h1; exact h1
      | stuck => rw [eb] at h1; exact h1
theorem wS_cut {a b : DenS} {σ : Sl} {g : Rg} {N : Sl → Rg → Prop} {R : PV → Rg → Prop} (M : Sl → Rg → Prop) (h : wS (a σ g) M R) (k : ∀ σ g, M σ g → wS (b σ g) N R) : wS (dSeq a b σ g) N R := by
  rw [wS_dSeq]
  exact wS_mono h k fun _ _ h => h
theorem o_slLast (l : List PV) : pSl (.lst l) none (some (-1)) = some (.lst l.dropLast) := by
  show some (PV.lst (cutL l none (some (-1)))) = _
  congr 2
  unfold cutL
  simp only [HT.sIx]
  rw [List.dropLast_eq_take]
  simp
  omega
theorem rgOk_of {a b : Int} (h1 : -1000 ≤ a) (h2 : a ≤ 1000) (h3 : -1000 ≤ b) (h4 : b ≤ 1000) : rgOk a b := ⟨by omega, by omega, by omega, by omega⟩
theorem rept_one (p : PV) {k : Int} (h : k ≤ 1000) (h' : -1000 ≤ k) : qTimes (.lst [p]) (.int k) = some (.lst (List.replicate k.toNat p)) := by
  have : (1 : Nat) * k.toNat ≤ sizeLine := small_len (by omega)
  have e : (List.replicate k.toNat [p]).flatten = List.replicate k.toNat p := by
    induction k.toNat with
    | zero => rfl
    | succ n ih => rw [List.replicate_succ, List.flatten_cons, ih]; rfl
  rw [qTimes_eq]
  simp only [pTimes, pMul, por_none, pRept, List.length_singleton]
  rw [if_pos ⟨by omega, by omega, this⟩, e]
section
variable {g : Rg}
theorem w_pick {n : Int} {Φ : PV → Rg → Prop} (h0 : 0 < n) (h1 : n < 1000000) (hg : g.cnt < 1000000000) (h : ∀ (k : Nat) (g' : Rg), (k : Int) < n → g'.cnt = g.cnt + 1 → Φ (.int k) g') : wE (d_law_pick [.rng, .int n] g) Φ := by
  have e : d_law_pick [.rng, .int n] g = .ok (.int (pickR g n)) (pickG g n) := by
    show (if 0 < n ∧ n < 1000000 ∧ g.cnt < 1000000000 then _ else _) = _
    rw [if_pos ⟨h0, h1, hg⟩]
  refine wE_of e ?_
  have h2 := pickR_lo (g := g) h0
  obtain ⟨k, hk⟩ := Int.eq_ofNat_of_zero_le h2
  rw [hk]
  exact h k _ (by rw [← hk]; exact pickR_hi h0) (pickG_cnt g n)
theorem w_one {l : List PV} {Φ : PV → Rg → Prop} (h0 : l ≠ []) (h1 : l.length < 1000000) (hg : g.cnt < 1000000000) (h : ∀ (x : PV) (g' : Rg), x ∈ l → g'.cnt = g.cnt + 1 → Φ x g') : wE (d_law_one [.rng, .lst l] g) Φ := by
  have hl : 0 < l.length := List.length_pos_iff.mpr h0
  unfold d_law_one b_law_one
  simp
  refine w_pick (by omega) (by omega) hg fun k g' hk hc => ?_
  have hk : k < l.length := by omega
  simp [atI_nat, hk]
  exact h _ _ (List.getElem_mem hk) hc
theorem w_between {a b : Int} {Φ : PV → Rg → Prop} (h1 : b - a < 999999) (hg : g.cnt < 1000000000) (h : ∀ (k : Nat) (g' : Rg), (k : Int) ≤ max (b - a) 0 → g'.cnt = g.cnt + 1 → Φ (.int (a + k)) g') : wE (d_law_between [.rng, .int a, .int b] g) Φ := by
  unfold d_law_between b_law_between
  simp
  refine w_pick (by omega) (by omega) hg fun k g' hk hc => ?_
  simp
  exact h k g' (by omega) hc
theorem ixN_nat {n k : Nat} (h : k < n) : ixN n (k : Int) = some k := by unfold ixN; simp [h]
theorem erase_perm {α : Type} : ∀ {r : List α} {j : Nat} (h : j < r.length), (r[j] :: r.eraseIdx j).Perm r
  | x :: r, 0, _ => by simp
  | x :: r, j + 1, h => by
    simp only [List.getElem_cons_succ, List.eraseIdx_cons_succ]
    exact (List.Perm.swap _ _ _).trans (List.Perm.cons x (erase_perm (by simpa using h)))
theorem w_mixed {l : List PV} {Φ : PV → Rg → Prop} (h1 : l.length ≤ 1000) (hg : g.cnt + l.length < 1000000000) (h : ∀ (m : List PV) (g' : Rg), m.Perm l → g'.cnt = g.cnt + l.length → Φ (.lst m) g') : wE (d_law_mixed [.rng, .lst l] g) Φ := by
  unfold d_law_mixed b_law_mixed
  simp
  refine ⟨by omega, ?_⟩
  refine wS_rng (fun k σ g' => ∃ (x : Option PV) (m r : List PV), σ = [some .rng, some (.lst l), some (.lst r), some (.lst m), x] ∧ (m ++ r).Perm l ∧ m.length = k ∧ g'.cnt = g.cnt + k) ⟨_, [], l, rfl, by simp, rfl, by simp⟩ ?_ ?_
  · rintro k σ g1 hk ⟨x, m, r, rfl, hp, hm, hc⟩
    have hl := hp.length_eq
    simp at hl
    simp
    refine w_pick (by omega) (by omega) (by omega) fun j g2 hj hc2 => ?_
    have hj : j < r.length := by omega
    simp [ixN_nat hj, hj]
    refine ⟨by omega, lt_q' (by omega), _, _, _, ⟨rfl, rfl, rfl⟩, ?_, by simp [hm], by omega⟩
    rw [List.append_assoc]
    refine List.Perm.trans ?_ hp
    refine List.Perm.append_left m ?_
    exact erase_perm hj
  · rintro σ g1 ⟨x, m, r, rfl, hp, hm, hc⟩
    have hl := hp.length_eq
    simp at hl
    have hr : r = [] := List.length_eq_zero_iff.mp (by omega)
    subst hr
    simp
    exact h m g1 (by simpa using hp) (by omega)
/-- data of depth less than n -/
def good : Nat → PV → Prop
  | 0, _ => False
  | _ + 1, .ins _ _ _ => False
  | _ + 1, .rng => False
  | n + 1, .lst l => l.length ≤ qsz ∧ ∀ x ∈ l, good n x
  | n + 1, .tup l => l.length ≤ qsz ∧ ∀ x ∈ l, good n x
  | n + 1, .dct ks vs => ks.length = vs.length ∧ ks.length < qsz ∧ 1 < n ∧ ks.Nodup ∧ (∀ k s, k ∈ ks → k = .inr s → PyData.strOk s = true) ∧ ∀ x ∈ vs, good n x
  | _ + 1, .str s => PyData.strOk s = true
  | _ + 1, _ => True
theorem zip_self : ∀ l : List PV, zipP l l = l.map fun x => .tup [x, x]
  | [] => rfl
  | a :: l => by simpa [zipP] using zip_self l
theorem good_keys {n : Nat} {ks : List Key} (h1 : ks.length ≤ qsz) (h2 : 1 < n) (h3 : ∀ k s, k ∈ ks → k = .inr s → PyData.strOk s = true) : good n (.lst (ks.map keyV)) := by
  obtain ⟨m, rfl⟩ : ∃ m, n = m + 2 := ⟨n - 2, by omega⟩
  refine ⟨by simpa using h1, fun x hx => ?_⟩
  obtain ⟨k, hk, rfl⟩ := List.mem_map.mp hx
  cases k with
  | inl i => trivial
  | inr s => exact h3 _ s hk rfl
theorem valP_some {ks : List Key} {vs : List PV} {k : Key} (hl : ks.length = vs.length) (hk : k ∈ ks) : ∃ w ∈ vs, valP ks vs k = some w := by
  unfold valP
  cases e : (ks.zip vs).find? fun kv => decide (kv.1 = k) with
  | some kv => exact ⟨kv.2, (List.of_mem_zip (List.mem_of_find?_eq_some e)).2, rfl⟩
  | none =>
    exfalso
    rw [List.find?_eq_none] at e
    obtain ⟨i, hi, rfl⟩ := List.getElem_of_mem hk
    have := e (ks[i], vs[i]) (by rw [List.mem_iff_getElem]; exact ⟨i, by simp; omega, by simp⟩)
    simp at this
theorem same_refl : ∀ {n : Nat} {p : PV}, good n p → d_law_same_ n [p, p] g = .ok (.bl true) g
  | 0, p, h => h.elim
  | n + 1, p, h => by
    have seq : ∀ l : List PV, (∀ x ∈ l, good n x) → ∀ (a b : Option PV) (Φ : List PV → Rg → Prop), Φ (l.map fun _ => .bl true) g → wE (compL (gdTupA 2 (gdCons (gdName 3) (gdCons (gdName 4) gdNil))) dYes (dCall (d_law_same_ n) (dCons (dV 3) (dCons (dV 4) dNil))) [a, b, none, none, none] (zipP l l) g) Φ := fun l hl a b Φ hΦ => by
      rw [zip_self]
      refine wE_compA (fun _ => .bl true) (fun x hx => ?_) hΦ
      simp [same_refl (hl x hx)]
    have hall : ∀ (l : List PV), oAll [.lst (l.map fun _ => .bl true)] = some (.bl true) := fun l => by simpa using o_all l fun _ => true
    apply wE_is
    show wE (dDef 5 .rep (b_law_same (d_law_same_ n)) _ _) _
    unfold b_law_same
    cases p with
    | ins _ _ _ => exact h.elim
    | rng => exact h.elim
    | lst l =>
      simp
      refine ⟨by simpa [zip_self] using h.1, seq l h.2 _ _ _ ?_⟩
      simp [hall l]
    | tup l =>
      simp
      refine ⟨by simpa [zip_self] using h.1, seq l h.2 _ _ _ ?_⟩
      simp [hall l]
    | dct ks vs =>
      have hk := same_refl (good_keys (n := n) (Nat.le_of_lt h.2.1) h.2.2.1 h.2.2.2.2.1)
      simp [hk]
      refine ⟨Nat.le_of_lt h.2.1, wE_compA (fun _ => .bl true) (fun k hk => ?_) ?_⟩
      · obtain ⟨w, hw, e⟩ := valP_some (k := k) h.1 hk
        have e2 : pIx (.dct ks vs) (keyV k) = some w := by
          show (keyP (keyV k)).bind _ = _
          cases k <;> simpa [keyP, keyV] using e
        simp [e2, same_refl (h.2.2.2.2.2 w hw)]
      · have : oAll [.lst (ks.map fun _ => .bl true)] = some (.bl true) := by simpa using o_all ks fun _ => true
        simp [this]
    | str s =>
      have h : PyData.strOk s = true := h
      simp [o_eqS h h]
    | _ =>
      simp
theorem hasK_iff {ks : List Key} {k : Key} : hasK ks k = true ↔ k ∈ ks := by simp [hasK]
theorem putVs_new : ∀ {ks : List Key} {vs : List PV} {k : Key} {p : PV}, ks.length = vs.length → k ∉ ks → putVs ks vs k p = vs ++ [p]
  | [], [], k, p, _, _ => rfl
  | [], _ :: _, k, p, h, _ => by simp at h
  | _ :: _, [], k, p, h, _ => by simp at h
  | x :: ks, v :: vs, k, p, h, n => by
    have hx : x ≠ k := fun e => n (by simp [e])
    simp only [putVs, if_neg hx, List.cons_append]
    rw [putVs_new (by simpa using h) fun z => n (by simp [z])]
theorem putKs_new {ks : List Key} {k : Key} (n : k ∉ ks) : putKs ks k = ks ++ [k] := by
  unfold putKs
  rw [if_neg (fun h => n (hasK_iff.mp h))]
theorem valP_get : ∀ {ks : List Key} {vs : List PV} {i : Nat}, ks.Nodup → ks.length = vs.length → (h : i < ks.length) → valP ks vs ks[i] = vs[i]?
  | [], _, _, _, _, h => by simp at h
  | _ :: _, [], _, _, h, _ => by simp at h
  | k :: ks, v :: vs, 0, _, _, _ => by simp [valP]
  | k :: ks, v :: vs, i + 1, nd, hl, h => by
    have h' : i < ks.length := by simpa using h
    have hne : k ≠ ks[i] := fun e => (List.nodup_cons.mp nd).1 (e ▸ List.getElem_mem h')
    have := valP_get (vs := vs) (List.nodup_cons.mp nd).2 (by simpa using hl) h'
    simp only [valP, List.zip_cons_cons, List.getElem_cons_succ, List.getElem?_cons_succ] at this ⊢
    rw [List.find?_cons_of_neg (by simpa using hne)]
    exact this
theorem pIx_key (ks : List Key) (vs : List PV) (k : Key) : pIx (.dct ks vs) (keyV k) = valP ks vs k := by
  show (keyP (keyV k)).bind _ = _
  cases k <;> rfl
@[simp] theorem keyP_keyV (k : Key) : keyP (keyV k) = some k := by cases k <;> rfl
theorem copy_id : ∀ {n : Nat} {p : PV} {g : Rg}, good n p → d_law_copy_ n [p] g = .ok p g
  | 0, p, g, h => h.elim
  | n + 1, p, g, h => by
    apply wE_is
    show wE (dDef 4 .rep (b_law_copy (d_law_copy_ n)) _ _) _
    unfold b_law_copy
    have seq : ∀ l : List PV, (∀ x ∈ l, good n x) → ∀ (a b c d : Option PV) (Φ : List PV → Rg → Prop), Φ l g → wE (compL (gdName 3) dYes (dCall (d_law_copy_ n) (dCons (dV 3) dNil)) [a, b, c, d] l g) Φ := fun l hl a b c d Φ hΦ => by
      rw [← List.map_id l]
      refine wE_compA id (fun x hx => ?_) (by simpa using hΦ)
      simp [copy_id (hl x hx)]
    cases p with
    | ins _ _ _ => exact h.elim
    | rng => exact h.elim
    | lst l =>
      simp
      refine ⟨h.1, seq l h.2 _ _ _ _ _ ?_⟩
      simp
    | tup l =>
      simp
      refine ⟨h.1, seq l h.2 _ _ _ _ _ ?_⟩
      simp
    | dct ks vs =>
      obtain ⟨h1, h2, h3, nd, h4, h5⟩ := h
      simp
      refine wS_loopM (fun k σ g' => g' = g ∧ ∃ x y, σ = [some (.dct ks vs), some (.dct (ks.take k) (vs.take k)), x, y]) ⟨rfl, none, none, by simp⟩ ?_ ?_
      · rintro k a σ g' hk ⟨rfl, x, y, rfl⟩
        obtain ⟨hk1, rfl⟩ := List.getElem?_eq_some_iff.mp hk
        clear hk
        have hk := hk1
        have hv : k < vs.length := by omega
        have e2 : pIx (.dct ks vs) (keyV ks[k]) = some vs[k] := by rw [pIx_key, valP_get nd h1 hk, List.getElem?_eq_getElem hv]
        have hn : ks[k] ∉ ks.take k := fun hm => by
          have := nd
          rw [← List.take_append_drop k ks, List.drop_eq_getElem_cons hk] at this
          exact (List.nodup_append.mp this).2.2 _ hm _ (List.mem_cons_self ..) rfl
        simp [e2, copy_id (h5 vs[k] (List.getElem_mem hv))]
        refine ⟨by omega, ?_, ?_⟩
        · rw [putKs_new hn, List.take_append_getElem]
        · rw [putVs_new (by simp; omega) hn, List.take_append_getElem]
      · rintro σ g' ⟨rfl, x, y, rfl⟩
        simp [← h1]
        rw [h1]; simp
    | _ => simp
mutual
/-- how many draws a loose copy takes -/
def szP : PV → Nat
  | .lst l => szL l + 1
  | .tup l => szL l + 1
  | _ => 0
def szL : List PV → Nat
  | [] => 0
  | p :: l => szP p + szL l
end
/-- no dict in it -/
def noDct : Nat → PV → Prop
  | 0, _ => False
  | _ + 1, .dct ks vs => ks = [] ∧ vs = []
  | _ + 1, .ins _ _ _ => False
  | _ + 1, .rng => False
  | n + 1, .lst l => l.length ≤ qsz ∧ ∀ x ∈ l, noDct n x
  | n + 1, .tup l => l.length ≤ qsz ∧ ∀ x ∈ l, noDct n x
  | _ + 1, _ => True
/-- q is p, lists and tuples exchanged -/
inductive Lo : PV → PV → Prop where
  | same (p : PV) : Lo p p
  | seq {l m : List PV} {p q : PV} (hp : p = .lst l ∨ p = .tup l) (hq : q = .lst m ∨ q = .tup m) (hl : l.length = m.length) (h : ∀ (i : Nat) (a b : PV), l[i]? = some a → m[i]? = some b → Lo a b) : Lo p q
theorem szL_take {l : List PV} {k : Nat} (h : k < l.length) : szL (l.take (k + 1)) = szL (l.take k) + szP l[k] := by
  induction l generalizing k with
  | nil => simp at h
  | cons a l ih =>
    cases k with
    | zero => simp [szL]
    | succ k =>
      have := ih (k := k) (by simpa using h)
      simp only [List.take_succ_cons, szL, List.getElem_cons_succ]
      omega
theorem szL_le {l : List PV} {k : Nat} (h : k < l.length) : szL (l.take k) + szP l[k] ≤ szL l := by
  rw [← szL_take h]
  clear h
  induction l generalizing k with
  | nil => simp [szL]
  | cons a l ih =>
    have := ih (k := k - 1)
    cases k with
    | zero => simp [szL]
    | succ k => simp only [List.take_succ_cons, szL]; simp at this; omega
theorem w_loose : ∀ {n : Nat} {p : PV} {g : Rg} {Φ : PV → Rg → Prop}, noDct n p → g.cnt + szP p < 1000000000 → (∀ q g', Lo p q → g.cnt ≤ g'.cnt → g'.cnt ≤ g.cnt + szP p → Φ q g') → wE (d_law_loose_ n [.rng, p] g) Φ
  | 0, p, g, Φ, h, _, _ => h.elim
  | n + 1, p, g, Φ, h, hg, hΦ => by
    have seq : ∀ (l : List PV), p = .lst l ∨ p = .tup l → l.length ≤ qsz → (∀ x ∈ l, noDct n x) → ∀ (a b c d e : Option PV) (Ψ : List PV → Rg → Prop), (∀ m g', m.length = l.length → (∀ (i : Nat) (a b : PV), l[i]? = some a → m[i]? = some b → Lo a b) → g.cnt ≤ g'.cnt → g'.cnt ≤ g.cnt + szL l → Ψ m g') →
        wE (compL (gdName 5) dYes (dCall (d_law_loose_ n) (dCons (dV 0) (dCons (dV 5) dNil))) [some .rng, a, b, c, d, e] l g) Ψ := fun l hp hs hl a b c d e Ψ hΨ => by
      have hz : szP p = szL l + 1 := by rcases hp with rfl | rfl <;> rfl
      refine wE_compS (fun k qs g' => qs.length = k ∧ (∀ (i : Nat) (a b : PV), l[i]? = some a → qs[i]? = some b → Lo a b) ∧ g.cnt ≤ g'.cnt ∧ g'.cnt ≤ g.cnt + szL (l.take k)) [] 0 ?_ ?_ ?_
      · exact ⟨rfl, fun i a b _ h => by simp at h, by omega, by simp [szL]⟩
      · rintro k x qs g1 hk ⟨h1, h2, h3, h4⟩
        obtain ⟨hk1, rfl⟩ := List.getElem?_eq_some_iff.mp hk
        clear hk
        have hk := hk1
        have := szL_le hk
        simp only [Nat.zero_add] at h1 h4 ⊢
        simp
        refine w_loose (hl _ (List.getElem_mem hk)) (by omega) fun q g2 hq c1 c2 => ⟨h1, fun i a b ha hb => ?_, by omega, by rw [szL_take hk]; omega⟩
        by_cases hi : i < qs.length
        · rw [List.getElem?_append_left hi] at hb
          exact h2 i a b ha hb
        · obtain ⟨hb', _⟩ := List.getElem?_eq_some_iff.mp hb
          have hi : i = k := by simp at hb'; omega
          subst hi
          rw [List.getElem?_append_right (by omega)] at hb
          rw [List.getElem?_eq_getElem hk] at ha
          simp [h1] at hb
          cases ha
          rw [← hb]
          exact hq
      · rintro m g1 ⟨h1, h2, h3, h4⟩
        simp only [Nat.zero_add, List.nil_append, List.take_length] at h1 h2 h4
        exact hΨ m g1 h1 h2 h3 h4
    show wE (dDef 6 .rep (b_law_loose (d_law_loose_ n)) _ _) _
    unfold b_law_loose
    cases p with
    | ins _ _ _ => exact h.elim
    | rng => exact h.elim
    | dct ks vs =>
      obtain ⟨rfl, rfl⟩ := h
      simp
      refine w_mixed (by simp) (by simp; omega) fun m g1 hp hc => ?_
      have hm : m = [] := List.perm_nil.mp hp
      subst hm
      simp at hc ⊢
      simp [loopS]
      exact hΦ _ _ (.same _) (by omega) (by omega)
    | lst l =>
      have hz : szP (.lst l) = szL l + 1 := rfl
      simp
      refine ⟨h.1, seq l (.inl rfl) h.1 h.2 _ _ _ _ _ _ fun m g1 h1 h2 h3 h4 => ?_⟩
      simp
      refine w_pick (by decide) (by decide) (by omega) fun k g2 hk hc => ?_
      simp
      split
      · exact hΦ _ _ (.seq (.inl rfl) (.inl rfl) h1.symm h2) (by omega) (by omega)
      · exact hΦ _ _ (.seq (.inl rfl) (.inr rfl) h1.symm h2) (by omega) (by omega)
    | tup l =>
      have hz : szP (.tup l) = szL l + 1 := rfl
      simp
      refine ⟨h.1, seq l (.inr rfl) h.1 h.2 _ _ _ _ _ _ fun m g1 h1 h2 h3 h4 => ?_⟩
      simp
      refine w_pick (by decide) (by decide) (by omega) fun k g2 hk hc => ?_
      simp
      split
      · exact hΦ _ _ (.seq (.inr rfl) (.inl rfl) h1.symm h2) (by omega) (by omega)
      · exact hΦ _ _ (.seq (.inr rfl) (.inr rfl) h1.symm h2) (by omega) (by omega)
    | _ =>
      simp
      exact hΦ _ _ (.same _) (by omega) (by omega)
theorem Lo.int {i : Int} {q : PV} (h : Lo (.int i) q) : q = .int i := by
  cases h with
  | same => rfl
  | seq hp => rcases hp with h | h <;> cases h
theorem Lo.pair {i j : Int} {p q : PV} (h : Lo p q) (hp : p = .lst [.int i, .int j] ∨ p = .tup [.int i, .int j]) : q = .lst [.int i, .int j] ∨ q = .tup [.int i, .int j] := by
  cases h with
  | same => exact hp
  | @seq l m _ _ hp' hq hl h =>
    have e : l = [.int i, .int j] := by
      rcases hp with rfl | rfl <;> rcases hp' with h | h <;> cases h <;> rfl
    subst e
    match m, hl with
    | [a, b], _ =>
      have h0 := (h 0 _ a rfl rfl).int
      have h1 := (h 1 _ b rfl rfl).int
      subst h0 h1
      exact hq
end
end Tr

namespace Tr
open PySem PySem.Spec PyProof.Rows L2
inductive Lt where
  | m | v | q
deriving DecidableEq
def ltS : Lt → Str
  | .m => "m"
  | .v => "v"
  | .q => "?"
@[simp] theorem lt_q (c : Lt) : pEqB (.str (ltS c)) (.str "?") = some (decide (c = .q)) := by cases c <;> decide +kernel
@[simp] theorem lt_v (c : Lt) : pEqB (.str (ltS c)) (.str "v") = some (decide (c = .v)) := by cases c <;> decide +kernel
@[simp] theorem lt_m (c : Lt) : pEqB (.str (ltS c)) (.str "m") = some (decide (c = .m)) := by cases c <;> decide +kernel
@[simp] theorem lt_nq (c : Lt) : pNeB (.str (ltS c)) (.str "?") = some (!decide (c = .q)) := by cases c <;> decide +kernel
@[simp] theorem lt_eq (c d : Lt) : pEqB (.str (ltS c)) (.str (ltS d)) = some (decide (c = d)) := by cases c <;> cases d <;> decide +kernel
@[simp] theorem lt_ne (c d : Lt) : pNeB (.str (ltS c)) (.str (ltS d)) = some (!decide (c = d)) := by cases c <;> cases d <;> decide +kernel
theorem lt_ok (c : Lt) : PyData.strOk (ltS c) = true := by cases c <;> decide +kernel
/-- a list of numbers, of letters -/
def nvs (l : List Nat) : List PV := l.map fun (n : Nat) => PV.int (n : Nat)
def lvs (l : List Lt) : List PV := l.map fun c => PV.str (ltS c)
abbrev nv (l : List Nat) : PV := .lst (nvs l)
abbrev lv (l : List Lt) : PV := .lst (lvs l)
@[simp] theorem nvs_len (l : List Nat) : (nvs l).length = l.length := by simp [nvs]
@[simp] theorem lvs_len (l : List Lt) : (lvs l).length = l.length := by simp [lvs]
theorem nvs_app (l : List Nat) (n : Nat) : nvs l ++ [PV.int (n : Nat)] = nvs (l ++ [n]) := by simp [nvs]
theorem lvs_app (l : List Lt) (n : Lt) : lvs l ++ [PV.str (ltS n)] = lvs (l ++ [n]) := by simp [lvs]
theorem lv_eq (a b : List Lt) : pEqB (lv a) (lv b) = some (decide (a = b)) :=
  eq_list (fun c => .str (ltS c)) (fun c => .str (ltS c)) 0 (by decide) (fun _ => by simp [toD]) (fun c => by simp [PyData.canLay0, lt_ok]) (fun _ => by simp [PyData.depth]) (fun a b => by rw [eqv_str]; cases a <;> cases b <;> decide +kernel) a b
theorem nv_eq (a b : List Nat) : pEqB (nv a) (nv b) = some (decide (a = b)) :=
  eq_list (fun (c : Nat) => .int (c : Nat)) (fun (c : Nat) => .int (c : Nat)) 0 (by decide) (fun _ => by simp [toD]) (fun c => by simp [PyData.canLay0]) (fun _ => by simp [PyData.depth]) (fun a b => by rw [eqv_int]; exact decide_eq_decide.mpr (by omega)) a b
@[simp] theorem lv_nil (a : List Lt) : pEqB (lv a) (.lst []) = some (decide (a = [])) := lv_eq a []
@[simp] theorem nv_nil (a : List Nat) : pEqB (nv a) (.lst []) = some (decide (a = [])) := nv_eq a []
theorem nvs_at (l : List Nat) (i : Nat) : (nvs l)[i]? = l[i]?.map fun (n : Nat) => PV.int (n : Nat) := by simp [nvs]
theorem lvs_at (l : List Lt) (i : Nat) : (lvs l)[i]? = l[i]?.map fun c => PV.str (ltS c) := by simp [lvs]
@[simp] theorem nvs_atI (l : List Nat) (i : Nat) : atI (nvs l) (i : Int) = l[i]?.map fun (n : Nat) => PV.int (n : Nat) := by rw [atI_nat, nvs_at]
@[simp] theorem lvs_atI (l : List Lt) (i : Nat) : atI (lvs l) (i : Int) = l[i]?.map fun c => PV.str (ltS c) := by rw [atI_nat, lvs_at]
theorem wE_nvs {l : List Nat} {gd : DenG} {de : Den} {σ : Sl} {g : Rg} {Φ : List PV → Rg → Prop} (e : Nat → PV) (st : ∀ a ∈ l, wO (gd (.int (a : Nat)) σ) fun σ1 => wE (de σ1 g) fun q g2 => q = e a ∧ g2 = g) (h : Φ (l.map e) g) : wE (compL gd dYes de σ (nvs l) g) Φ := wE_compA (f := fun (n : Nat) => PV.int (n : Nat)) e st h
theorem wE_lvs {l : List Lt} {gd : DenG} {de : Den} {σ : Sl} {g : Rg} {Φ : List PV → Rg → Prop} (e : Lt → PV) (st : ∀ a ∈ l, wO (gd (.str (ltS a)) σ) fun σ1 => wE (de σ1 g) fun q g2 => q = e a ∧ g2 = g) (h : Φ (l.map e) g) : wE (compL gd dYes de σ (lvs l) g) Φ := wE_compA (f := fun c => PV.str (ltS c)) e st h
theorem wE_rng {lo : Int} {n : Nat} {gd : DenG} {de : Den} {σ : Sl} {g : Rg} {Φ : List PV → Rg → Prop} (e : Nat → PV) (st : ∀ a, a < n → wO (gd (.int (lo + (a : Nat))) σ) fun σ1 => wE (de σ1 g) fun q g2 => q = e a ∧ g2 = g) (h : Φ ((List.range n).map e) g) : wE (compL gd dYes de σ (rngP lo n) g) Φ := wE_compA (f := fun (a : Nat) => PV.int (lo + (a : Nat))) e (fun a ha => st a (List.mem_range.mp ha)) h
theorem wE_rngF {lo : Int} {n : Nat} {gd : DenG} {dt : DenT} {de : Den} {σ : Sl} {g : Rg} {Φ : List PV → Rg → Prop} (t : Nat → Bool) (e : Nat → PV) (st : ∀ a, a < n → wO (gd (.int (lo + (a : Nat))) σ) fun σ1 => wE (dt σ1 g) fun b g1 => b = t a ∧ g1 = g ∧ (t a = true → wE (de σ1 g) fun q g2 => q = e a ∧ g2 = g)) (h : Φ (((List.range n).filter t).map e) g) : wE (compL gd dt de σ (rngP lo n) g) Φ := wE_compM (f := fun (a : Nat) => PV.int (lo + (a : Nat))) t e (fun a ha => st a (List.mem_range.mp ha)) h
@[simp] theorem rngP_len (lo : Int) (n : Nat) : (rngP lo n).length = n := by simp [rngP]
theorem cut_nat {α : Type} (l : List α) (a b : Nat) : cutL l (some (a : Int)) (some (b : Int)) = (l.drop a).take (b - a) := by
  unfold cutL
  rw [HT.sIx_nat, HT.sIx_nat]
  by_cases h : a ≤ l.length
  · rw [Nat.min_eq_left h]
    rcases Nat.le_total b l.length with h2 | h2
    · rw [Nat.min_eq_left h2]
    · rw [Nat.min_eq_right h2, List.take_of_length_le (by simp), List.take_of_length_le (by simp; omega)]
  · have h : l.length ≤ a := by omega
    rw [Nat.min_eq_right h, List.drop_of_length_le (Nat.le_refl _), List.drop_of_length_le h]
    simp
theorem nvs_cut (l : List Nat) (a b : Nat) : ((nvs l).drop a).take b = nvs ((l.drop a).take b) := by simp [nvs]
theorem lvs_cut (l : List Lt) (a b : Nat) : ((lvs l).drop a).take b = lvs ((l.drop a).take b) := by simp [lvs]
def na (l : List Nat) (i : Nat) : Nat := l.getD i 0
def ca (l : List Lt) (i : Nat) : Lt := l.getD i .q
theorem na_some {l : List Nat} {i : Nat} (h : i < l.length) : l[i]? = some (na l i) := by simp [na, h]
theorem ca_some {l : List Lt} {i : Nat} (h : i < l.length) : l[i]? = some (ca l i) := by simp [ca, h]
theorem drop_take_all {l : List Nat} {a m : Nat} (h : a + m ≤ l.length) (f : Nat → Bool) : ((l.drop a).take m).all f = (List.range m).all fun j => f (na l (a + j)) := by
  induction m generalizing a with
  | zero => simp
  | succ m ih =>
    rw [List.drop_eq_getElem_cons (by omega), List.take_succ_cons, List.all_cons, List.range_succ_eq_map, List.all_cons, List.all_map, ih (by omega)]
    congr 1
    · simp [na, show a < l.length by omega]
    · congr 1; funext j; simp only [Function.comp]; rw [show a + (j + 1) = a + 1 + j by omega]
theorem drop_take_allL {l : List Lt} {a m : Nat} (h : a + m ≤ l.length) (f : Lt → Bool) : ((l.drop a).take m).all f = (List.range m).all fun j => f (ca l (a + j)) := by
  induction m generalizing a with
  | zero => simp
  | succ m ih =>
    rw [List.drop_eq_getElem_cons (by omega), List.take_succ_cons, List.all_cons, List.range_succ_eq_map, List.all_cons, List.all_map, ih (by omega)]
    congr 1
    · simp [ca, show a < l.length by omega]
    · congr 1; funext j; simp only [Function.comp]; rw [show a + (j + 1) = a + 1 + j by omega]
theorem na_at {ls : List Nat} {i : Nat} {x : Int} (h : i < ls.length) (e : x = i) : atI (nvs ls) x = some (.int (na ls i : Nat)) := by rw [e, nvs_atI, na_some h]; rfl
theorem ca_at {ls : List Lt} {i : Nat} {x : Int} (h : i < ls.length) (e : x = i) : atI (lvs ls) x = some (.str (ltS (ca ls i))) := by rw [e, lvs_atI, ca_some h]; rfl
section
variable {g : Rg}
@[simp] theorem p_is_integer (i : Int) : d_is_integer [.int i] g = .ok (.bl true) g := by simp [d_is_integer, b_is_integer]
@[simp] theorem p_is_number (i : Int) : d_is_number [.int i] g = .ok (.bl (decide (0 ≤ i))) g := by simp [d_is_number, b_is_number]
@[simp] theorem p_is_list (l : List PV) : d_is_list [.lst l] g = .ok (.bl true) g := by simp [d_is_list, b_is_list]
@[simp] theorem p_is_listT (l : List PV) : d_is_list [.tup l] g = .ok (.bl true) g := by simp [d_is_list, b_is_list]
@[simp] theorem p_is_text (s : Str) : d_is_text [.str s] g = .ok (.bl true) g := by simp [d_is_text, b_is_text]
def nStrip : List Str := ["_lengths", "_creases"]
def stripP (ls : List Nat) (cs : List Lt) : PV := .ins "Strip" nStrip [nv ls, lv cs]
@[simp] theorem f_lengths (a b : PV) : fldP nStrip [a, b] "_lengths" = some a := by rfl
@[simp] theorem f_creases (a b : PV) : fldP nStrip [a, b] "_creases" = some b := by rfl
@[simp] theorem l_lengths (a b : PV) : (nStrip.zip [a, b]).lookup ("lengths" : Str) = none := by rfl
@[simp] theorem l_creases (a b : PV) : (nStrip.zip [a, b]).lookup ("creases" : Str) = none := by rfl
theorem p_lengths (ls : List Nat) (cs : List Lt) : d_Strip_lengths [.ins "Strip" nStrip [nv ls, lv cs]] g = .ok (nv ls) g := by simp [d_Strip_lengths, b_Strip_lengths]
theorem p_creases (ls : List Nat) (cs : List Lt) : d_Strip_creases [.ins "Strip" nStrip [nv ls, lv cs]] g = .ok (lv cs) g := by simp [d_Strip_creases, b_Strip_creases]
@[simp] theorem w_lengths (ls : List Nat) (cs : List Lt) (σ : Sl) (d : Den) (Φ : PV → Rg → Prop) (h : d σ g = .ok (stripP ls cs) g) : wE (dMeth "Strip" "lengths" d_Strip_lengths d dNil σ g) Φ = Φ (nv ls) g := by
  rw [wE_dMeth, h]
  show (_ = _ ∧ _ ∧ wE (d_Strip_lengths [.ins "Strip" nStrip [nv ls, lv cs]] g) Φ) = _
  rw [p_lengths]
  simp
@[simp] theorem p_need_strip (ls : List Nat) (cs : List Lt) : d_need_strip [stripP ls cs] g = .ok .non g := by simp [d_need_strip, b_need_strip, stripP]
@[simp] theorem p_is_length (n : Nat) : d_is_length [.int (n : Nat)] g = .ok (.bl (decide (0 < n))) g := by simp [d_is_length, b_is_length]
@[simp] theorem p_is_letter (c : Lt) : d_is_letter [.str (ltS c)] g = .ok (.bl true) g := by
  have : pInA (.str (ltS c)) (.tup [.str "m", .str "v", .str "?"]) = some true := by cases c <;> decide +kernel
  simp [d_is_letter, b_is_letter, this]
theorem enum_map {α : Type} (f : α → PV) (l : List α) : enumP (l.map f) = l.zipIdx.map fun x => .tup [.int (x.2 : Nat), f x.1] := by
  simp only [enumP, List.mapIdx_eq_zipIdx_map, List.zipIdx_map, List.map_map]
  rfl
theorem p_wrong_lengths {ls : List Nat} (h0 : ls ≠ []) (h1 : ∀ l ∈ ls, 0 < l) : d_wrong_lengths [nv ls] g = .ok .non g := by
  apply wE_is
  unfold d_wrong_lengths b_wrong_lengths
  simp [h0]
  rw [nvs, enum_map]
  refine wS_loopM (fun k σ g' => g' = g ∧ ∃ x y, σ = [some (nv ls), x, y]) ⟨rfl, none, none, by simp⟩ ?_ ?_
  · rintro k a σ g' hk ⟨rfl, x, y, rfl⟩
    have := List.mem_of_getElem? hk
    obtain ⟨i, e⟩ := List.mem_iff_getElem.mp this
    obtain ⟨hi, e⟩ := e
    have ha : 0 < a.1 := h1 _ (by rw [← e]; simp)
    simp [ha]
  · rintro σ g' ⟨rfl, x, y, rfl⟩
    simp
theorem p_wrong_letters {cs : List Lt} {n : Nat} (hn : cs.length = n) : d_wrong_letters [.int (n : Nat), lv cs] g = .ok .non g := by
  apply wE_is
  unfold d_wrong_letters b_wrong_letters
  simp
  rw [lvs, enum_map]
  refine wS_loopM (fun k σ g' => g' = g ∧ ∃ x y, σ = [some (.int n), some (lv cs), x, y]) ⟨rfl, none, none, by simp⟩ ?_ ?_
  · rintro k a σ g' hk ⟨rfl, x, y, rfl⟩
    have := List.mem_of_getElem? hk
    obtain ⟨i, e⟩ := List.mem_iff_getElem.mp this
    obtain ⟨hi, e⟩ := e
    have ha : ¬ (a.2 : Int) = n := by rw [← e]; simp at hi ⊢; omega
    simp [ha]
  · rintro σ g' ⟨rfl, x, y, rfl⟩
    simp [hn]
@[simp] theorem put_s1 : putNs [] "_lengths" = (["_lengths"] : List Str) := rfl
@[simp] theorem put_s2 : putNs ["_lengths"] "_creases" = nStrip := rfl
@[simp] theorem putp_s1 (p : PV) : putPs [] [] "_lengths" p = [p] := rfl
@[simp] theorem putp_s2 (p q : PV) : putPs ["_lengths"] [p] "_creases" q = [p, q] := rfl
theorem p_Strip_init {ls : List Nat} {cs : List Lt} (h0 : ls ≠ []) (h1 : ∀ l ∈ ls, 0 < l) (h2 : cs.length + 1 = ls.length) : d_Strip_init__ [nv ls, lv cs] g = .ok (stripP ls cs) g := by
  apply wE_is
  unfold d_Strip_init__ b_Strip_init__
  have e : ((ls.length : Int) - 1) = ((cs.length : Nat) : Int) := by omega
  simp [p_wrong_lengths h0 h1, e, p_wrong_letters, stripP]
theorem p_strip_of {ls : List Nat} {cs : List Lt} (h0 : ls ≠ []) (h1 : ∀ l ∈ ls, 0 < l) (h2 : cs.length + 1 = ls.length) : d_law_strip_of [.lst [nv ls, lv cs]] g = .ok (stripP ls cs) g := by
  apply wE_is
  unfold d_law_strip_of b_law_strip_of
  have a0 : atI [nv ls, lv cs] 0 = some (nv ls) := rfl
  have a1 : atI [nv ls, lv cs] 1 = some (lv cs) := rfl
  simp [a0, a1, p_Strip_init h0 h1 h2]
theorem w_draw_lengths {n : Nat} {Φ : PV → Rg → Prop} (hn : n ≤ 1000) (hg : g.cnt + 2000 < 1000000000) (h : ∀ (ls : List Nat) (g' : Rg), ls.length = n → (∀ l ∈ ls, 0 < l ∧ l ≤ 18) → g.cnt ≤ g'.cnt → g'.cnt ≤ g.cnt + n + 2 → Φ (nv ls) g') : wE (d_law_draw_lengths [.rng, .int n] g) Φ := by
  unfold d_law_draw_lengths b_law_draw_lengths
  simp
  refine w_one (by simp) (by simp) (by omega) fun x g1 hx hc => ?_
  obtain ⟨t, rfl, ht⟩ : ∃ t : Nat, x = .int (t : Nat) ∧ 0 < t ∧ t ≤ 9 := by
    simp at hx
    rcases hx with rfl | rfl | rfl | rfl | rfl
    · exact ⟨1, rfl, by omega⟩
    · exact ⟨2, rfl, by omega⟩
    · exact ⟨3, rfl, by omega⟩
    · exact ⟨5, rfl, by omega⟩
    · exact ⟨9, rfl, by omega⟩
  simp
  refine ⟨by omega, small_q hn, ?_⟩
  refine wE_compS (fun k qs g' => (∃ ls : List Nat, qs = nvs ls ∧ ls.length = k ∧ ∀ l ∈ ls, 0 < l ∧ l ≤ 9) ∧ g.cnt ≤ g'.cnt ∧ g'.cnt ≤ g.cnt + 1 + k) [] 0 ?_ ?_ ?_
  · exact ⟨⟨[], rfl, rfl, by simp⟩, by omega, by omega⟩
  · rintro k p qs g2 hk ⟨⟨ls, rfl, hl, hb⟩, c1, c2⟩
    have hk' : k < n := by
      obtain ⟨h, _⟩ := List.getElem?_eq_some_iff.mp hk
      simpa using h
    simp
    refine w_pick (by omega) (by omega) (by omega) fun j g3 hj hc3 => ?_
    simp
    refine ⟨⟨ls ++ [1 + j], by rw [← nvs_app]; simp, by simp [hl], ?_⟩, by omega, by omega⟩
    intro l hm
    rcases List.mem_append.mp hm with h | h
    · exact hb l h
    · simp at h; omega
  · rintro rs g2 ⟨⟨ls, e, hl, hb⟩, c1, c2⟩
    simp only [List.nil_append] at e
    subst e
    simp at hl c2
    simp
    split
    · rename_i h2
      have h2 : 2 < n := by omega
      refine w_pick (by decide) (by decide) (by omega) fun j g3 hj hc3 => ?_
      simp
      split
      · obtain ⟨a, ls', rfl⟩ : ∃ a r, ls = a :: r := by cases ls with | nil => simp at hl; omega | cons a r => exact ⟨a, r, rfl⟩
        have hz : ls' ≠ [] := fun e => by subst e; simp at hl; omega
        obtain ⟨m, b, rfl⟩ : ∃ m b, ls' = m ++ [b] := ⟨ls'.dropLast, ls'.getLast hz, (List.dropLast_concat_getLast hz).symm⟩
        have e0 : atI (nvs (a :: (m ++ [b]))) 0 = some (.int a) := nvs_atI (a :: (m ++ [b])) 0
        have e1 : ixN (nvs (a :: (m ++ [b]))).length 0 = some 0 := ixN_nat (n := (nvs (a :: (m ++ [b]))).length) (k := 0) (by simp)
        have e2 : ixN (nvs (a :: (m ++ [b]))).length (-1) = some (m.length + 1) := by
          unfold ixN; simp; omega
        have e3 : atI (nvs (a :: (m ++ [b]))) (-1) = some (.int b) := by
          unfold atI; rw [e2]; simp [nvs]
        simp at e1 e2
        simp [e0, e1, e2, e3]
        have e4 : ((nvs (a :: (m ++ [b]))).set 0 (.int (a + t))).set (m.length + 1) (.int (b + t)) = nvs ((a + t) :: (m ++ [b + t])) := by
          simp [nvs]
        rw [e4]
        refine h _ g3 (by simp at hl ⊢; omega) (fun l hm => ?_) (by omega) (by omega)
        have ha := hb a (by simp)
        have hb' := hb b (by simp)
        simp at hm
        rcases hm with rfl | hm | rfl
        · omega
        · have := hb l (by simp [hm]); omega
        · omega
      · exact h ls g3 hl (fun l hm => by have := hb l hm; omega) (by omega) (by omega)
    · exact h ls g2 hl (fun l hm => by have := hb l hm; omega) (by omega) (by omega)
/-- a drawn strip: lengths and letters -/
structure RawS (ls : List Nat) (cs : List Lt) : Prop where
  ne : ls ≠ []
  pos : ∀ l ∈ ls, 0 < l
  len : cs.length + 1 = ls.length
theorem w_draw_strip {a b f : Int} {Φ : PV → Rg → Prop} (ha : 1 ≤ a) (hb : a ≤ b) (hb2 : b ≤ 1000) (hf : 0 ≤ f) (hf2 : f < 1000) (hg : g.cnt + 10000 < 1000000000)
    (h : ∀ (ls : List Nat) (cs : List Lt) (g' : Rg), RawS ls cs → a ≤ ls.length → ls.length ≤ b → (∀ l ∈ ls, l ≤ 18) → (f = 0 → ∀ c ∈ cs, c ≠ .q) → g.cnt ≤ g'.cnt → g'.cnt ≤ g.cnt + 4 * b + 10 → Φ (.lst [nv ls, lv cs]) g') : wE (d_law_draw_strip [.rng, .int a, .int b, .int f] g) Φ := by
  unfold d_law_draw_strip b_law_draw_strip
  simp
  refine w_between (by omega) (by omega) fun k g1 hk hc => ?_
  obtain ⟨n, hn⟩ := Int.eq_ofNat_of_zero_le (show 0 ≤ a + k by omega)
  rw [hn]
  simp
  refine w_pick (by decide) (by decide) (by omega) fun t g2 ht hc2 => ?_
  simp
  refine ⟨by omega, ?_⟩
  refine wS_rng (fun k σ g' => ∃ (x y : Option PV) (cs : List Lt), σ = [some .rng, some (.int a), some (.int b), some (.int f), some (.int n), some (.int t), some (lv cs), x, y] ∧ cs.length = k ∧ (f = 0 → ∀ c ∈ cs, c ≠ .q) ∧ g2.cnt ≤ g'.cnt ∧ g'.cnt ≤ g2.cnt + 2 * k) ?_ ?_ ?_
  · exact ⟨none, none, [], rfl, rfl, by simp, by omega, by omega⟩
  · rintro k σ g3 hk ⟨x, y, cs, rfl, hl, hq, c1, c2⟩
    have one : ∀ (N : PV → Rg → Prop), (∀ (c : Lt) g4, c ≠ .q → g4.cnt ≤ g3.cnt + 1 → g3.cnt ≤ g4.cnt → N (.str (ltS c)) g4) → wE (d_law_one [.rng, .lst [.str "m", .str "v"]] g3) N := fun N hN => by
      refine w_one (by simp) (by simp) (by omega) fun x g4 hx hc => ?_
      simp at hx
      rcases hx with rfl | rfl
      · exact hN .m g4 (by decide) (by omega) (by omega)
      · exact hN .v g4 (by decide) (by omega) (by omega)
    refine wS_cut (fun σ g4 => ∃ c : Lt, σ = [some .rng, some (.int a), some (.int b), some (.int f), some (.int n), some (.int t), some (lv cs), some (.int k), some (.str (ltS c))] ∧ (f = 0 → c ≠ .q) ∧ g3.cnt ≤ g4.cnt ∧ g4.cnt ≤ g3.cnt + 1) ?_ ?_
    · simp
      split
      · refine one _ fun c g4 h1 h2 h3 => ?_
        simp
        exact ⟨c, rfl, fun _ => h1, by omega, by omega⟩
      · split
        · refine one _ fun c g4 h1 h2 h3 => ?_
          simp
          exact ⟨c, rfl, fun _ => h1, by omega, by omega⟩
        · rename_i hne
          obtain ⟨cs', c, rfl⟩ : ∃ m b, cs = m ++ [b] := ⟨cs.dropLast, cs.getLast hne, (List.dropLast_concat_getLast hne).symm⟩
          have e : atI (lvs (cs' ++ [c])) (-1) = some (.str (ltS c)) := by rw [← lvs_app]; exact atI_last _ _
          simp [e]
          exact ⟨c, rfl, fun h => hq h c (by simp), by omega⟩
    · rintro σ g4 ⟨c, rfl, hc, c3, c4⟩
      have fin : ∀ (d : Lt) (g5 : Rg), (f = 0 → d ≠ .q) → g4.cnt ≤ g5.cnt → g5.cnt ≤ g4.cnt + 1 → cs.length < qsz ∧ ∃ (x y : Option PV) (cs_1 : List Lt), [some PV.rng, some (PV.int a), some (PV.int b), some (PV.int f), some (PV.int n), some (PV.int t), some (.lst (lvs cs ++ [.str (ltS d)])), some (PV.int k), some (PV.str (ltS c))] =
          [some PV.rng, some (PV.int a), some (PV.int b), some (PV.int f), some (PV.int n), some (PV.int t), some (lv cs_1), x, y] ∧ cs_1.length = k + 1 ∧ (f = 0 → ∀ c ∈ cs_1, c ≠ .q) ∧ g2.cnt ≤ g5.cnt ∧ g5.cnt ≤ g2.cnt + 2 * (k + 1 : Nat) := fun d g5 h1 h2 h3 =>
        ⟨lt_q' (by omega), _, _, cs ++ [d], by rw [lvs_app], by simp [hl], fun h0 c' hm => by
          rcases List.mem_append.mp hm with hm | hm
          · exact hq h0 c' hm
          · simp at hm; subst hm; exact h1 h0, by omega, by omega⟩
      simp
      split
      · rename_i hf0
        refine w_pick hf0 (by omega) (by omega) fun j g5 hj hc5 => ?_
        simp
        split
        · simpa [ltS] using fin .q g5 (fun h => by omega) (by omega) (by omega)
        · simpa using fin c g5 hc (by omega) (by omega)
      · simpa using fin c g4 hc (by omega) (by omega)
  · rintro σ g3 ⟨x, y, cs, rfl, hl, hq, c1, c2⟩
    simp
    refine w_draw_lengths (by omega) (by omega) fun ls g4 h1 h2 c3 c4 => ?_
    simp
    refine h ls cs g4 ⟨fun e => by subst e; simp at h1; omega, fun l hm => (h2 l hm).1, by omega⟩ (by omega) (by omega) (fun l hm => (h2 l hm).2) hq (by omega) (by omega)
end
end Tr

namespace Tr
open PySem PySem.Spec PyProof.Rows L2
section
variable {g : Rg}
theorem need_odd {q : PV} (h : isInP "Strip" q = some false) : d_need_strip [q] g = .exc "BadStrip" ["strip"] [q] g := by simp [d_need_strip, b_need_strip, h]
def odds2 : List PV := [.non, .int 5, .str "strip", .lst [], .dct [] []]
theorem odd2_in {q : PV} (h : q ∈ odds2) : isInP "Strip" q = some false := by
  simp only [odds2, List.mem_cons, List.not_mem_nil, or_false] at h
  rcases h with rfl | rfl | rfl | rfl | rfl <;> rfl
theorem good_odds2 {n : Nat} {q : PV} (hq : q ∈ odds2) : good (n + 3) q := by
  simp only [odds2, List.mem_cons, List.not_mem_nil, or_false] at hq
  have h4 : 0 < qsz := lt_q' (by decide)
  rcases hq with rfl | rfl | rfl | rfl | rfl <;> (simp [good, h4]) <;> decide +kernel
theorem compD_newC {α : Type} {gd : DenG} {dk dv : Den} {σ : Sl} (f : α → PV) (k : α → Key) (v : α → PV) : ∀ (l : List α) (ks : List Key) (ps : List PV), ks.length = ps.length → (∀ a ∈ l, ∃ σ1 q, gd (f a) σ = some σ1 ∧ dk σ1 g = .ok q g ∧ keyP q = some (k a) ∧ dv σ1 g = .ok (v a) g) → (ks ++ l.map k).Nodup →
    compD gd dYes dk dv σ (l.map f) ks ps g = .ok (.dct (ks ++ l.map k) (ps ++ l.map v)) g
  | [], ks, ps, _, _, _ => by simp [compD]
  | a :: l, ks, ps, hl, h, nd => by
    obtain ⟨σ1, q, h1, h2, h3, h4⟩ := h a (by simp)
    have nk : k a ∉ ks := fun z => by
      have := List.nodup_append.mp nd
      exact this.2.2 _ z (k a) (by simp) rfl
    simp only [List.map_cons, compD, h1, x_dYes, noX_ok, Res.bind_ok, if_true, h2, h3, h4, putKs_new nk, putVs_new hl nk]
    rw [compD_newC f k v l (ks ++ [k a]) (ps ++ [v a]) (by simp [hl]) (fun b hb => h b (by simp [hb])) (by simpa using nd)]
    simp
theorem wE_compD {α : Type} {gd : DenG} {dk dv : Den} {σ : Sl} {f : α → PV} (k : α → Key) (v : α → PV) {l : List α} {Φ : PV → Rg → Prop} (h : ∀ a ∈ l, wO (gd (f a) σ) fun σ1 => wE (dk σ1 g) fun q g1 => g1 = g ∧ keyP q = some (k a) ∧ wE (dv σ1 g) fun p g2 => p = v a ∧ g2 = g) (nd : (l.map k).Nodup) (hΦ : Φ (.dct (l.map k) (l.map v)) g) : wE (compD gd dYes dk dv σ (l.map f) [] [] g) Φ := by
  have := compD_newC (g := g) (gd := gd) (dk := dk) (dv := dv) (σ := σ) f k v l [] [] rfl (fun a ha => by
    have := h a ha
    cases e1 : gd (f a) σ with
    | none => rw [e1] at this; exact this.elim
    | some σ1 =>
      rw [e1, wO_some] at this
      cases e2 : dk σ1 g with
      | ok q g1 =>
        rw [e2, wE_ok] at this
        obtain ⟨rfl, h3, h4⟩ := this
        exact ⟨σ1, q, rfl, e2, h3, wE_is h4⟩
      | _ => rw [e2] at this; exact this.elim) (by simpa using nd)
  rw [this]
  simpa using hΦ
theorem in_nv (l : List Nat) (x : Int) : pInA (.int x) (nv l) = some (decide (∃ n : Nat, n ∈ l ∧ (n : Int) = x)) := by
  have e0 : pInB (.int x) (nv l) = some ((nvs l).any fun y => eqP y (.int x)) := by
    have : (nvs l).all flatP = true := by simp [nvs, flatP]
    simp only [pInB, this, flatP, and_self, if_true]
  simp only [pInA, e0, por_some]
  congr 1
  rw [nvs, List.any_map, Bool.eq_iff_iff, List.any_eq_true, decide_eq_true_eq]
  constructor
  · rintro ⟨n, h1, h2⟩; exact ⟨n, h1, by simpa [eqP] using h2⟩
  · rintro ⟨n, h1, h2⟩; exact ⟨n, h1, by simpa [eqP] using h2⟩
theorem lvs_set (cs : List Lt) (i : Nat) (c : Lt) : (lvs cs).set i (.str (ltS c)) = lvs (cs.set i c) := by simp [lvs, List.map_set]
theorem ixN_at {n k : Nat} {x : Int} (h : k < n) (e : x = k) : ixN n x = some k := by rw [e]; exact ixN_nat h
/-- a row of numbers, as a list or as a tuple -/
def SqN (l : List Nat) (q : PV) : Prop := q = nv l ∨ q = .tup (nvs l)
theorem good_nv {n : Nat} (l : List Nat) (h : l.length ≤ 1000) : good (n + 2) (nv l) := by
  refine ⟨by simpa using small_q h, fun x hx => ?_⟩
  obtain ⟨y, _, rfl⟩ := List.mem_map.mp hx; simp [good]
theorem good_lv {n : Nat} (l : List Lt) (h : l.length ≤ 1000) : good (n + 2) (lv l) := by
  refine ⟨by simpa using small_q h, fun x hx => ?_⟩
  obtain ⟨y, _, rfl⟩ := List.mem_map.mp hx; simp [good, lt_ok]
theorem Lo.sqN {o : List Nat} {q : PV} (h : Lo (nv o) q) : SqN o q := by
  cases h with
  | same => exact .inl rfl
  | @seq l m _ _ hp hq hl h =>
    have e : l = nvs o := by rcases hp with h | h <;> cases h; rfl
    subst e
    have em : m = nvs o := by
      apply List.ext_getElem?
      intro i
      cases e1 : (nvs o)[i]? with
      | none =>
        rw [List.getElem?_eq_none_iff] at e1 ⊢
        omega
      | some a =>
        have hi := (List.getElem?_eq_some_iff.mp e1).1
        have e2 : m[i]? = some (m[i]'(by omega)) := List.getElem?_eq_getElem (by omega)
        have h3 := h i a _ e1 e2
        obtain ⟨z, _, rfl⟩ := List.mem_map.mp (List.mem_of_getElem? e1)
        rw [e2, h3.int]
    subst em
    rcases hq with rfl | rfl
    · exact .inl rfl
    · exact .inr rfl
theorem good_SqN {n : Nat} {l : List Nat} {q : PV} (h : l.length ≤ 1000) (hq : SqN l q) : good (n + 2) q := by
  rcases hq with rfl | rfl
  · exact good_nv l h
  · refine ⟨by simpa using small_q h, fun x hx => ?_⟩
    obtain ⟨y, _, rfl⟩ := List.mem_map.mp hx; simp [good]
theorem perm_map_of {α β : Type} {f : α → β} : ∀ {m m' : List β}, m.Perm m' → ∀ l : List α, m' = l.map f → ∃ l' : List α, l'.Perm l ∧ m = l'.map f := by
  intro m m' h
  induction h with
  | nil => intro l e; exact ⟨l, List.Perm.refl _, e⟩
  | cons x _ ih =>
    intro l e
    cases l with
    | nil => cases e
    | cons a l =>
      simp only [List.map_cons, List.cons.injEq] at e
      obtain ⟨l', h1, h2⟩ := ih l e.2
      exact ⟨a :: l', h1.cons a, by rw [h2, e.1]; rfl⟩
  | swap x y r =>
    intro l e
    match l, e with
    | [], e => cases e
    | [_], e => cases e
    | a :: b :: l, e =>
      simp only [List.map_cons, List.cons.injEq] at e
      obtain ⟨rfl, rfl, rfl⟩ := e
      exact ⟨b :: a :: l, List.Perm.swap _ _ _, rfl⟩
  | trans _ _ ih1 ih2 =>
    intro l e
    obtain ⟨l1, h1, h2⟩ := ih2 l e
    obtain ⟨l2, h3, h4⟩ := ih1 l1 h2
    exact ⟨l2, h3.trans h1, h4⟩
theorem noDct_nv {n : Nat} (l : List Nat) (h : l.length ≤ 1000) : noDct (n + 2) (nv l) := by
  refine ⟨by simpa using small_q h, fun x hx => ?_⟩
  obtain ⟨y, _, rfl⟩ := List.mem_map.mp hx; simp [noDct]
theorem szL_nvs : ∀ l : List Nat, szL (nvs l) = 0
  | [] => rfl
  | a :: l => by show szP (.int a) + szL (nvs l) = 0; rw [szL_nvs l]; rfl
theorem sz_nv (l : List Nat) : szP (nv l) = 1 := by show szL (nvs l) + 1 = 1; rw [szL_nvs]
theorem cut_last {α : Type} (l : List α) : cutL l none (some (-1)) = l.dropLast := by
  unfold cutL
  simp only [HT.sIx]
  rw [List.dropLast_eq_take]
  simp
  omega
theorem cut_fromN {α : Type} (l : List α) (n : Nat) : cutL l (some (n : Int)) none = l.drop n := by
  unfold cutL
  rw [HT.sIx_nat, HT.sIx_none]
  by_cases h : n ≤ l.length
  · rw [Nat.min_eq_left h, List.take_of_length_le (by simp)]
  · have h : l.length ≤ n := by omega
    rw [Nat.min_eq_right h, List.drop_of_length_le (Nat.le_refl _), List.drop_of_length_le h]
    simp
theorem cut_toN {α : Type} (l : List α) (n : Nat) : cutL l none (some (n : Int)) = l.take n := by
  unfold cutL
  rw [HT.sIx_nat, HT.sIx_none]
  rcases Nat.le_total n l.length with h | h
  · rw [Nat.min_eq_left h]; simp
  · rw [Nat.min_eq_right h, List.take_of_length_le h]; simp
theorem wS_loopI {gd : DenG} {body : DenS} {R : PV → Rg → Prop} (I : Nat → Sl → Rg → Prop) {l : List PV} {σ : Sl} {g : Rg} {N : Sl → Rg → Prop} (h0 : I 0 σ g)
    (st : ∀ k a σ g, l[k]? = some a → I k σ g → wO (gd a σ) fun σ1 => wS (body σ1 g) (I (k + 1)) R) (hN : ∀ σ g, I l.length σ g → N σ g) : wS (loopS gd body l σ g) N R := by
  have := wS_loopM (f := id) (gd := gd) (body := body) (R := R) (N := N) I (l := l) h0 st hN
  rwa [List.map_id] at this
theorem wS_whileS {c : DenT} {body : DenS} {N : Sl → Rg → Prop} {R : PV → Rg → Prop} (I : Nat → Sl → Rg → Prop) (st : ∀ m σ g, I m σ g → wE (c σ g) fun t g1 => if t = true then wS (body σ g1) (fun σ2 g2 => ∃ m', m' < m ∧ I m' σ2 g2) R else N σ g1) : ∀ (fuel n : Nat) {σ : Sl} {g : Rg}, n < fuel → I n σ g → wS (whileS c body fuel σ g) N R
  | 0, n, _, _, hn, _ => by omega
  | f + 1, n, σ, g, hn, hi => by
    unfold whileS
    rw [wS_bindS]
    refine wE_mono (st n σ g hi) fun t g1 h => ?_
    cases t with
    | false => simpa using h
    | true =>
      simp only [if_true] at h ⊢
      cases e : body σ g1 with
      | next σ2 g2 =>
        rw [e] at h
        obtain ⟨m', h1, h2⟩ := h
        exact wS_whileS I st f m' (by omega) h2
      | ret p g2 => rw [e] at h; exact h
      | _ => rw [e] at h; exact h.elim
theorem wS_while {c : DenT} {body : DenS} {N : Sl → Rg → Prop} {R : PV → Rg → Prop} (I : Nat → Sl → Rg → Prop) (n : Nat) {fuel : Nat} {σ : Sl} {g : Rg} (hn : n < fuel) (hi : I n σ g) (st : ∀ m σ g, I m σ g → wE (c σ g) fun t g1 => if t = true then wS (body σ g1) (fun σ2 g2 => ∃ m', m' < m ∧ I m' σ2 g2) R else N σ g1) : wS (dWhile fuel c body σ g) N R := wS_whileS I st fuel n hn hi
end
end Tr

namespace Tr
open PySem PySem.Spec PyProof.Rows L2
def crimpB (ls : List Nat) (cs : List Lt) (s : Nat) : Bool := decide (na ls s ≤ na ls (s - 1)) && decide (na ls s ≤ na ls (s + 1)) && (decide (ca cs (s - 1) ≠ .q) && decide (ca cs s ≠ .q) && decide (ca cs (s - 1) ≠ ca cs s))
@[simp] theorem q_notin (c d : Lt) : pNinA (.str "?") (.tup [.str (ltS c), .str (ltS d)]) = some (decide (c ≠ .q) && decide (d ≠ .q)) := by cases c <;> cases d <;> decide +kernel
theorem sort_mv (c d : Lt) : ∃ w, oSortS2 [.lst [.str (ltS c), .str (ltS d)]] = some w ∧ pEqB w (.lst [.str "m", .str "v"]) = some (decide (c ≠ .q) && decide (d ≠ .q) && decide (c ≠ d)) := by
  have h : (oSortS2 [.lst [.str (ltS c), .str (ltS d)]]).bind (fun w => pEqB w (.lst [.str "m", .str "v"])) = some (decide (c ≠ .q) && decide (d ≠ .q) && decide (c ≠ d)) := by cases c <;> cases d <;> decide +kernel
  obtain ⟨w, h1, h2⟩ := Option.bind_eq_some_iff.mp h
  exact ⟨w, h1, h2⟩
theorem nvs_neg {l : List Nat} {i : Nat} (h1 : 1 ≤ i) (h2 : i ≤ l.length) : atI (nvs l) (-(i : Int)) = some (.int (na l (l.length - i) : Nat)) := by
  have e : ixN (nvs l).length (-(i : Int)) = some (l.length - i) := by
    unfold ixN
    rw [nvs_len, if_neg (by omega), if_pos (by omega)]
    congr 1
    omega
  unfold atI
  rw [e, Option.bind_some, nvs_at, na_some (by omega)]
  rfl
section
variable {g : Rg}
theorem p_can_crimp {ls : List Nat} {cs : List Lt} {s : Nat} (h2 : cs.length + 1 = ls.length) (h0 : 1 ≤ s) (h1 : s + 1 < ls.length) : d_can_crimp [nv ls, lv cs, .int s] g = .ok (.bl (crimpB ls cs s)) g := by
  have d1 := na_some (l := ls) (i := s) (by omega)
  have d2 : atI (nvs ls) ((s : Int) - 1) = some (.int (na ls (s - 1) : Nat)) := by rw [show (s : Int) - 1 = ((s - 1 : Nat) : Int) by omega, nvs_atI, na_some (by omega)]; rfl
  have d3 : atI (nvs ls) ((s : Int) + 1) = some (.int (na ls (s + 1) : Nat)) := by rw [show (s : Int) + 1 = ((s + 1 : Nat) : Int) by omega, nvs_atI, na_some (by omega)]; rfl
  have d4 : atI (lvs cs) ((s : Int) - 1) = some (.str (ltS (ca cs (s - 1)))) := by rw [show (s : Int) - 1 = ((s - 1 : Nat) : Int) by omega, lvs_atI, ca_some (by omega)]; rfl
  have d5 := ca_some (l := cs) (i := s) (by omega)
  apply wE_is
  unfold d_can_crimp b_can_crimp
  simp [d1, d2, d3, d4, d5]
  have e : crimpB ls cs s = (decide (na ls s ≤ na ls (s - 1)) && decide (na ls s ≤ na ls (s + 1)) && (decide (ca cs (s - 1) ≠ .q) && decide (ca cs s ≠ .q) && decide (ca cs (s - 1) ≠ ca cs s))) := rfl
  rw [e]
  clear e d1 d2 d3 d4 d5
  repeat' split
  all_goals first | (simp_all; done) | grind | trace_state
def stV (x : Bool × Nat) : PV := .tup [.str (if x.1 = true then "end" else "crimp"), .int (x.2 : Nat)]
def end0 (ls : List Nat) : List (Bool × Nat) := if 1 < ls.length ∧ na ls 0 ≤ na ls 1 then [(true, 0)] else []
def end1 (ls : List Nat) : List (Bool × Nat) := if 1 < ls.length ∧ na ls (ls.length - 1) ≤ na ls (ls.length - 2) then [(true, ls.length - 1)] else []
def crimps (ls : List Nat) (cs : List Lt) (k : Nat) : List (Bool × Nat) := ((List.range k).filter fun i => crimpB ls cs (1 + i)).map fun i => (false, 1 + i)
def stepsL (ls : List Nat) (cs : List Lt) : List (Bool × Nat) := end0 ls ++ end1 ls ++ crimps ls cs (ls.length - 2)
theorem p_steps_of {ls : List Nat} {cs : List Lt} (h0 : ls ≠ []) (h2 : cs.length + 1 = ls.length) (hs : ls.length ≤ 300) : d_steps_of [nv ls, lv cs] g = .ok (.lst ((stepsL ls cs).map stV)) g := by
  have hpos : 0 < ls.length := List.length_pos_iff.mpr h0
  apply wE_is
  unfold d_steps_of b_steps_of
  rw [wE_dDefF]
  refine wS_cut (fun σ g' => g' = g ∧ σ = [some (nv ls), some (lv cs), some (.int ls.length), none, none]) (by simp) ?_
  rintro σ g' ⟨rfl, rfl⟩
  refine wS_cut (fun σ g1 => g1 = g' ∧ σ = [some (nv ls), some (lv cs), some (.int ls.length), some (.lst []), none]) (by simp) ?_
  rintro σ g1 ⟨rfl, rfl⟩
  refine wS_cut (fun σ g2 => g2 = g1 ∧ σ = [some (nv ls), some (lv cs), some (.int ls.length), some (.lst ((end0 ls).map stV)), none]) ?_ ?_
  · by_cases h1 : 1 < ls.length
    · have d0 : atI (nvs ls) 0 = some (.int (na ls 0 : Nat)) := by rw [show (0 : Int) = ((0 : Nat) : Int) from rfl, nvs_atI, na_some (by omega)]; rfl
      have d1 : atI (nvs ls) 1 = some (.int (na ls 1 : Nat)) := by rw [show (1 : Int) = ((1 : Nat) : Int) from rfl, nvs_atI, na_some (by omega)]; rfl
      have h1' : (1 : Int) < ls.length := by omega
      have hz : 0 < qsz := lt_q' (by decide)
      simp [h1', d0, d1, hz, end0, h1]
      split
      · rename_i hc; simp [hc, stV]
      · rename_i hc; omega
    · have h1' : ¬ (1 : Int) < ls.length := by omega
      simp [h1', end0, h1]
  rintro σ g2 ⟨rfl, rfl⟩
  have hl0 : (end0 ls).length ≤ 1 := by unfold end0; split <;> simp
  have hl1 : (end1 ls).length ≤ 1 := by unfold end1; split <;> simp
  refine wS_cut (fun σ g3 => g3 = g2 ∧ σ = [some (nv ls), some (lv cs), some (.int ls.length), some (.lst ((end0 ls ++ end1 ls).map stV)), none]) ?_ ?_
  · by_cases h1 : 1 < ls.length
    · have d0 : atI (nvs ls) ((ls.length : Int) - 1) = some (.int (na ls (ls.length - 1) : Nat)) := by rw [show (ls.length : Int) - 1 = ((ls.length - 1 : Nat) : Int) by omega, nvs_atI, na_some (by omega)]; rfl
      have d1 : atI (nvs ls) ((ls.length : Int) - 2) = some (.int (na ls (ls.length - 2) : Nat)) := by rw [show (ls.length : Int) - 2 = ((ls.length - 2 : Nat) : Int) by omega, nvs_atI, na_some (by omega)]; rfl
      have h1' : (1 : Int) < ls.length := by omega
      have hz : (end0 ls).length < qsz := lt_q' (by omega)
      simp [h1', d0, d1, hz, end1, h1]
      split
      · rename_i hc; simp [hc, stV]; omega
      · rename_i hc; omega
    · have h1' : ¬ (1 : Int) < ls.length := by omega
      simp [h1', end1, h1]
  rintro σ g3 ⟨rfl, rfl⟩
  have e2 : ∀ (i : Nat), i < ls.length - 2 → d_can_crimp [nv ls, lv cs, .int (1 + (i : Int))] g3 = .ok (.bl (crimpB ls cs (1 + i))) g3 := fun i hi => by
    have := p_can_crimp (g := g3) (s := 1 + i) h2 (by omega) (by omega)
    simpa using this
  simp
  refine ⟨by omega, by have := small_q (n := ls.length) (by omega); omega, ?_⟩
  rw [show ls.length - 1 - 1 = ls.length - 2 by omega]
  refine wE_rngF (fun i => crimpB ls cs (1 + i)) (fun i => stV (false, 1 + i)) (fun i hi => ?_) ?_
  · simp [e2 i hi, stV]
  · have e3 : (List.filter (fun i => crimpB ls cs (1 + i)) (List.range (ls.length - 2))).map (fun i => stV (false, 1 + i)) = (crimps ls cs (ls.length - 2)).map stV := by
      unfold crimps; rw [List.map_map]; rfl
    have hc : (crimps ls cs (ls.length - 2)).length ≤ 300 := by
      unfold crimps
      rw [List.length_map]
      exact Nat.le_trans (List.length_filter_le _ _) (by simp; omega)
    have hz : (end0 ls).length + (end1 ls).length + (crimps ls cs (ls.length - 2)).length ≤ qsz := small_q (by omega)
    rw [e3]
    simp [hz, stepsL]
theorem crimps_succ (ls : List Nat) (cs : List Lt) (k : Nat) : crimps ls cs (k + 1) = crimps ls cs k ++ if crimpB ls cs (1 + k) = true then [(false, 1 + k)] else [] := by
  unfold crimps
  rw [List.range_succ, List.filter_append, List.map_append]
  congr 1
  by_cases h : crimpB ls cs (1 + k) = true <;> simp [h]
theorem p_law_steps {ls : List Nat} {cs : List Lt} (h0 : ls ≠ []) (h2 : cs.length + 1 = ls.length) (hs : ls.length ≤ 300) : d_law_steps [.lst [nv ls, lv cs]] g = .ok (.lst ((stepsL ls cs).map stV)) g := by
  have hpos : 0 < ls.length := List.length_pos_iff.mpr h0
  have hl0 : (end0 ls).length ≤ 1 := by unfold end0; split <;> simp
  have hl1 : (end1 ls).length ≤ 1 := by unfold end1; split <;> simp
  apply wE_is
  unfold d_law_steps b_law_steps
  rw [wE_dDefF]
  refine wS_cut (fun σ g' => g' = g ∧ σ = [some (.lst [nv ls, lv cs]), some (nv ls), some (lv cs), some (.lst []), none, none]) (by simp) ?_
  rintro σ g' ⟨rfl, rfl⟩
  refine wS_cut (fun σ g1 => g1 = g' ∧ σ = [some (.lst [nv ls, lv cs]), some (nv ls), some (lv cs), some (.lst []), some (.int ls.length), none]) (by simp) ?_
  rintro σ g1 ⟨rfl, rfl⟩
  refine wS_cut (fun σ g2 => g2 = g1 ∧ σ = [some (.lst [nv ls, lv cs]), some (nv ls), some (lv cs), some (.lst ((end0 ls).map stV)), some (.int ls.length), none]) ?_ ?_
  · by_cases h1 : 1 < ls.length
    · have d0 : atI (nvs ls) 0 = some (.int (na ls 0 : Nat)) := by rw [show (0 : Int) = ((0 : Nat) : Int) from rfl, nvs_atI, na_some (by omega)]; rfl
      have d1 : atI (nvs ls) 1 = some (.int (na ls 1 : Nat)) := by rw [show (1 : Int) = ((1 : Nat) : Int) from rfl, nvs_atI, na_some (by omega)]; rfl
      have h1' : (1 : Int) < ls.length := by omega
      have hz : 0 < qsz := lt_q' (by decide)
      simp [h1', d0, d1, hz, end0, h1]
      split
      · rename_i hc; simp [hc, stV]
      · rename_i hc; omega
    · have h1' : ¬ (1 : Int) < ls.length := by omega
      simp [h1', end0, h1]
  rintro σ g2 ⟨rfl, rfl⟩
  refine wS_cut (fun σ g3 => g3 = g2 ∧ σ = [some (.lst [nv ls, lv cs]), some (nv ls), some (lv cs), some (.lst ((end0 ls ++ end1 ls).map stV)), some (.int ls.length), none]) ?_ ?_
  · by_cases h1 : 1 < ls.length
    · have d0 : atI (nvs ls) (-1) = some (.int (na ls (ls.length - 1) : Nat)) := by
        exact nvs_neg (i := 1) (by omega) (by omega)
      have d1 : atI (nvs ls) (-2) = some (.int (na ls (ls.length - 2) : Nat)) := by
        exact nvs_neg (i := 2) (by omega) (by omega)
      have h1' : (1 : Int) < ls.length := by omega
      have hz : (end0 ls).length < qsz := lt_q' (by omega)
      simp [h1', d0, d1, hz, end1, h1]
      split
      · rename_i hc; simp [hc, stV]; omega
      · rename_i hc; omega
    · have h1' : ¬ (1 : Int) < ls.length := by omega
      simp [h1', end1, h1]
  rintro σ g3 ⟨rfl, rfl⟩
  simp
  refine ⟨by omega, ?_⟩
  refine wS_rng (fun k σ g' => g' = g3 ∧ ∃ x, σ = [some (.lst [nv ls, lv cs]), some (nv ls), some (lv cs), some (.lst ((end0 ls ++ end1 ls ++ crimps ls cs k).map stV)), some (.int ls.length), x]) ⟨rfl, none, by simp [crimps]⟩ ?_ ?_
  · rintro k σ g4 hk ⟨rfl, x, rfl⟩
    have d1 : atI (nvs ls) (1 + (k : Int)) = some (.int (na ls (1 + k) : Nat)) := by rw [show 1 + (k : Int) = ((1 + k : Nat) : Int) by omega, nvs_atI, na_some (by omega)]; rfl
    have d2 : atI (nvs ls) (1 + (k : Int) - 1) = some (.int (na ls (1 + k - 1) : Nat)) := by rw [show 1 + (k : Int) - 1 = ((1 + k - 1 : Nat) : Int) by omega, nvs_atI, na_some (by omega)]; rfl
    have d3 : atI (nvs ls) (1 + (k : Int) + 1) = some (.int (na ls (1 + k + 1) : Nat)) := by rw [show 1 + (k : Int) + 1 = ((1 + k + 1 : Nat) : Int) by omega, nvs_atI, na_some (by omega)]; rfl
    have d4 : atI (lvs cs) (1 + (k : Int) - 1) = some (.str (ltS (ca cs (1 + k - 1)))) := by rw [show 1 + (k : Int) - 1 = ((1 + k - 1 : Nat) : Int) by omega, lvs_atI, ca_some (by omega)]; rfl
    have d5 : atI (lvs cs) (1 + (k : Int)) = some (.str (ltS (ca cs (1 + k)))) := by rw [show 1 + (k : Int) = ((1 + k : Nat) : Int) by omega, lvs_atI, ca_some (by omega)]; rfl
    obtain ⟨w, w1, w2⟩ := sort_mv (ca cs k) (ca cs (1 + k))
    have ec : crimpB ls cs (1 + k) = (decide (na ls (1 + k) ≤ na ls k) && decide (na ls (1 + k) ≤ na ls (1 + k + 1)) && (decide (ca cs k ≠ .q) && decide (ca cs (1 + k) ≠ .q) && decide (ca cs k ≠ ca cs (1 + k)))) := by
      unfold crimpB; rw [show 1 + k - 1 = k by omega]
    have e := crimps_succ ls cs k
    have hc : (crimps ls cs k).length ≤ 300 := by
      unfold crimps
      rw [List.length_map]
      exact Nat.le_trans (List.length_filter_le _ _) (by simp; omega)
    have hz : (end0 ls).length + (end1 ls).length + (crimps ls cs k).length < qsz := lt_q' (by omega)
    simp [d1, d2, d3, d4, d5, w1, w2, e, hz]
    rw [ec]
    clear d1 d2 d3 d4 d5 w1 w2 e ec hz
    by_cases c1 : na ls (1 + k) ≤ na ls k
    · by_cases c2 : na ls (1 + k) ≤ na ls (1 + k + 1)
      · rw [if_pos (by omega)]
        split
        · rename_i c3; simp [c1, c2, c3, stV]; exact lt_q' (by omega)
        · rename_i c3; simp_all
      · rw [if_neg (by omega)]; simp [c2]
    · rw [if_neg (by omega)]; simp [c1]
  · rintro σ g4 ⟨rfl, x, rfl⟩
    rw [show ls.length - 1 - 1 = ls.length - 2 by omega]
    simp [stepsL]
theorem p_steps {ls : List Nat} {cs : List Lt} (hr : RawS ls cs) (hs : ls.length ≤ 300) : d_steps [stripP ls cs] g = .ok (.lst ((stepsL ls cs).map stV)) g := by
  apply wE_is
  unfold d_steps b_steps
  simp
  simp [stripP, p_lengths, p_creases, p_steps_of hr.ne hr.len hs]
/-- what is behind a step -/
def mid (ls : List Nat) (s : Nat) : Nat := na ls (s - 1) - na ls s + na ls (s + 1)
def aftL (ls : List Nat) (x : Bool × Nat) : List Nat := if x.1 = true then (if x.2 = 0 then ls.drop 1 else ls.dropLast) else ls.take (x.2 - 1) ++ [mid ls x.2] ++ ls.drop (x.2 + 2)
def aftC (cs : List Lt) (x : Bool × Nat) : List Lt := if x.1 = true then (if x.2 = 0 then cs.drop 1 else cs.dropLast) else cs.take (x.2 - 1) ++ cs.drop (x.2 + 1)
theorem step_mem {ls : List Nat} {cs : List Lt} {x : Bool × Nat} (h : x ∈ stepsL ls cs) : 1 < ls.length ∧ ((x.1 = true ∧ (x.2 = 0 ∨ x.2 = ls.length - 1)) ∨ (x.1 = false ∧ 1 ≤ x.2 ∧ x.2 + 1 < ls.length ∧ crimpB ls cs x.2 = true)) := by
  unfold stepsL at h
  rcases List.mem_append.mp h with h | h
  · rcases List.mem_append.mp h with h | h
    · unfold end0 at h
      split at h
      · rename_i c; rw [List.mem_singleton.mp h]; exact ⟨c.1, .inl ⟨rfl, .inl rfl⟩⟩
      · cases h
    · unfold end1 at h
      split at h
      · rename_i c; rw [List.mem_singleton.mp h]; exact ⟨c.1, .inl ⟨rfl, .inr rfl⟩⟩
      · cases h
  · unfold crimps at h
    obtain ⟨i, h1, rfl⟩ := List.mem_map.mp h
    obtain ⟨h2, h3⟩ := List.mem_filter.mp h1
    have := List.mem_range.mp h2
    exact ⟨by omega, .inr ⟨rfl, by show 1 ≤ 1 + i; omega, by show 1 + i + 1 < _; omega, h3⟩⟩
theorem p_parts_after {ls : List Nat} {cs : List Lt} {x : Bool × Nat} (h2 : cs.length + 1 = ls.length) (hs : ls.length ≤ 300) (hx : x ∈ stepsL ls cs) : d_parts_after [nv ls, lv cs, stV x] g = .ok (.tup [nv (aftL ls x), lv (aftC cs x)]) g := by
  obtain ⟨h1, hx⟩ := step_mem hx
  obtain ⟨b, s⟩ := x
  have s1 : pEqB (.str "crimp") (.str "end") = some false := by decide +kernel
  have s2 : pEqB (.str "end") (.str "end") = some true := by decide +kernel
  have k1 : cutL (nvs ls) (some 1) none = nvs (ls.drop 1) := by rw [show (1 : Int) = ((1 : Nat) : Int) from rfl, cut_fromN]; simp [nvs]
  have k2 : cutL (lvs cs) (some 1) none = lvs (cs.drop 1) := by rw [show (1 : Int) = ((1 : Nat) : Int) from rfl, cut_fromN]; simp [lvs]
  have k3 : cutL (nvs ls) none (some (-1)) = nvs ls.dropLast := by rw [cut_last]; simp [nvs]
  have k4 : cutL (lvs cs) none (some (-1)) = lvs cs.dropLast := by rw [cut_last]; simp [lvs]
  apply wE_is
  unfold d_parts_after b_parts_after
  cases b with
  | true =>
    by_cases h0 : s = 0
    · subst h0
      simp [stV, s2, k1, k2, aftL, aftC]
    · have h0' : ¬ (s : Int) = 0 := by omega
      simp [stV, s2, h0', h0, k3, k4, aftL, aftC]
  | false =>
    have hx : 1 ≤ s ∧ s + 1 < ls.length ∧ crimpB ls cs s = true := by
      rcases hx with ⟨a, _⟩ | ⟨_, a⟩
      · cases a
      · exact a
    obtain ⟨a1, a2, a3⟩ := hx
    have a4 : na ls s ≤ na ls (s - 1) := by
      unfold crimpB at a3
      simp only [Bool.and_eq_true, decide_eq_true_eq] at a3
      exact a3.1.1
    have d1 := na_some (l := ls) (i := s) (by omega)
    have d2 : atI (nvs ls) ((s : Int) - 1) = some (.int (na ls (s - 1) : Nat)) := by rw [show (s : Int) - 1 = ((s - 1 : Nat) : Int) by omega, nvs_atI, na_some (by omega)]; rfl
    have d3 : atI (nvs ls) ((s : Int) + 1) = some (.int (na ls (s + 1) : Nat)) := by rw [show (s : Int) + 1 = ((s + 1 : Nat) : Int) by omega, nvs_atI, na_some (by omega)]; rfl
    have c1 : cutL (nvs ls) none (some ((s : Int) - 1)) = nvs (ls.take (s - 1)) := by rw [show (s : Int) - 1 = ((s - 1 : Nat) : Int) by omega, cut_toN]; simp [nvs]
    have c2 : cutL (nvs ls) (some ((s : Int) + 2)) none = nvs (ls.drop (s + 2)) := by rw [show (s : Int) + 2 = ((s + 2 : Nat) : Int) by omega, cut_fromN]; simp [nvs]
    have c3 : cutL (lvs cs) none (some ((s : Int) - 1)) = lvs (cs.take (s - 1)) := by rw [show (s : Int) - 1 = ((s - 1 : Nat) : Int) by omega, cut_toN]; simp [lvs]
    have c4 : cutL (lvs cs) (some ((s : Int) + 1)) none = lvs (cs.drop (s + 1)) := by rw [show (s : Int) + 1 = ((s + 1 : Nat) : Int) by omega, cut_fromN]; simp [lvs]
    have e1 : (na ls (s - 1) : Int) - na ls s + na ls (s + 1) = (mid ls s : Nat) := by unfold mid; omega
    simp [stV, s1, d1, d2, d3, c1, c2, c3, c4, e1]
    exact ⟨small_q (by omega), small_q (by omega), small_q (by omega), by simp [aftL, nvs], by simp [aftC, lvs]⟩
theorem p_law_after {ls : List Nat} {cs : List Lt} {x : Bool × Nat} (h2 : cs.length + 1 = ls.length) (hs : ls.length ≤ 300) (hx : x ∈ stepsL ls cs) : d_law_after [.lst [nv ls, lv cs], stV x] g = .ok (.lst [nv (aftL ls x), lv (aftC cs x)]) g := by
  obtain ⟨h1, hx⟩ := step_mem hx
  obtain ⟨b, s⟩ := x
  have s1 : pEqB (.str "crimp") (.str "end") = some false := by decide +kernel
  have s2 : pEqB (.str "end") (.str "end") = some true := by decide +kernel
  have k1 : cutL (nvs ls) (some 1) none = nvs (ls.drop 1) := by rw [show (1 : Int) = ((1 : Nat) : Int) from rfl, cut_fromN]; simp [nvs]
  have k2 : cutL (lvs cs) (some 1) none = lvs (cs.drop 1) := by rw [show (1 : Int) = ((1 : Nat) : Int) from rfl, cut_fromN]; simp [lvs]
  have k3 : cutL (nvs ls) none (some (-1)) = nvs ls.dropLast := by rw [cut_last]; simp [nvs]
  have k4 : cutL (lvs cs) none (some (-1)) = lvs cs.dropLast := by rw [cut_last]; simp [lvs]
  apply wE_is
  unfold d_law_after b_law_after
  cases b with
  | true =>
    by_cases h0 : s = 0
    · subst h0
      simp [stV, s2, k1, k2, aftL, aftC]
    · have h0' : ¬ (s : Int) = 0 := by omega
      simp [stV, s2, h0', h0, k3, k4, aftL, aftC]
  | false =>
    have hx : 1 ≤ s ∧ s + 1 < ls.length ∧ crimpB ls cs s = true := by
      rcases hx with ⟨a, _⟩ | ⟨_, a⟩
      · cases a
      · exact a
    obtain ⟨a1, a2, a3⟩ := hx
    have a4 : na ls s ≤ na ls (s - 1) := by
      unfold crimpB at a3
      simp only [Bool.and_eq_true, decide_eq_true_eq] at a3
      exact a3.1.1
    have d1 := na_some (l := ls) (i := s) (by omega)
    have d2 : atI (nvs ls) ((s : Int) - 1) = some (.int (na ls (s - 1) : Nat)) := by rw [show (s : Int) - 1 = ((s - 1 : Nat) : Int) by omega, nvs_atI, na_some (by omega)]; rfl
    have d3 : atI (nvs ls) ((s : Int) + 1) = some (.int (na ls (s + 1) : Nat)) := by rw [show (s : Int) + 1 = ((s + 1 : Nat) : Int) by omega, nvs_atI, na_some (by omega)]; rfl
    have c1 : cutL (nvs ls) none (some ((s : Int) - 1)) = nvs (ls.take (s - 1)) := by rw [show (s : Int) - 1 = ((s - 1 : Nat) : Int) by omega, cut_toN]; simp [nvs]
    have c2 : cutL (nvs ls) (some ((s : Int) + 2)) none = nvs (ls.drop (s + 2)) := by rw [show (s : Int) + 2 = ((s + 2 : Nat) : Int) by omega, cut_fromN]; simp [nvs]
    have c3 : cutL (lvs cs) none (some ((s : Int) - 1)) = lvs (cs.take (s - 1)) := by rw [show (s : Int) - 1 = ((s - 1 : Nat) : Int) by omega, cut_toN]; simp [lvs]
    have c4 : cutL (lvs cs) (some ((s : Int) + 1)) none = lvs (cs.drop (s + 1)) := by rw [show (s : Int) + 1 = ((s + 1 : Nat) : Int) by omega, cut_fromN]; simp [lvs]
    have e1 : (na ls (s - 1) : Int) - na ls s + na ls (s + 1) = (mid ls s : Nat) := by unfold mid; omega
    simp [stV, s1, d1, d2, d3, c1, c2, c3, c4, e1]
    exact ⟨small_q (by omega), small_q (by omega), small_q (by omega), by simp [aftL, nvs], by simp [aftC, lvs]⟩
theorem aft_raw {ls : List Nat} {cs : List Lt} {x : Bool × Nat} (hr : RawS ls cs) (hx : x ∈ stepsL ls cs) : RawS (aftL ls x) (aftC cs x) := by
  obtain ⟨h1, hx⟩ := step_mem hx
  obtain ⟨b, s⟩ := x
  have hl := hr.len
  cases b with
  | true =>
    by_cases h0 : s = 0
    · subst h0
      refine ⟨fun e => ?_, fun l hm => ?_, ?_⟩
      · have := congrArg List.length e; simp [aftL] at this; omega
      · simp [aftL] at hm; exact hr.pos l (List.mem_of_mem_tail hm)
      · simp [aftL, aftC]; omega
    · refine ⟨fun e => ?_, fun l hm => ?_, ?_⟩
      · have := congrArg List.length e; simp [aftL, h0] at this; omega
      · simp [aftL, h0] at hm; exact hr.pos l ((List.dropLast_sublist _).mem hm)
      · simp [aftL, aftC, h0]; omega
  | false =>
    have hx : 1 ≤ s ∧ s + 1 < ls.length ∧ crimpB ls cs s = true := by
      rcases hx with ⟨a, _⟩ | ⟨_, a⟩
      · cases a
      · exact a
    obtain ⟨a1, a2, a3⟩ := hx
    have hp : 0 < na ls (s + 1) := by
      have := hr.pos ls[s + 1] (List.getElem_mem a2)
      simpa [na, a2] using this
    refine ⟨fun e => ?_, fun l hm => ?_, ?_⟩
    · simp [aftL] at e
    · simp only [aftL, Bool.false_eq_true, if_false, List.mem_append, List.mem_singleton] at hm
      rcases hm with (hm | rfl) | hm
      · exact hr.pos l (List.mem_of_mem_take hm)
      · unfold mid; omega
      · exact hr.pos l (List.mem_of_mem_drop hm)
    · simp [aftL, aftC]; omega
/-- a step, as a list or as a tuple -/
def Sq (x : Bool × Nat) (q : PV) : Prop := q = .lst [.str (if x.1 = true then "end" else "crimp"), .int (x.2 : Nat)] ∨ q = stV x
theorem w_eq (a b : Bool) : pEqB (.str (if a = true then "end" else "crimp")) (.str (if b = true then "end" else "crimp")) = some (decide (a = b)) := by cases a <;> cases b <;> decide +kernel
theorem p_step_in {ls : List Nat} {cs : List Lt} {x : Bool × Nat} {q : PV} (hr : RawS ls cs) (hs : ls.length ≤ 300) (hx : x ∈ stepsL ls cs) (hq : Sq x q) : d_step_in [nv ls, lv cs, q] g = .ok (stV x) g := by
  have e1 := p_steps_of (g := g) hr.ne hr.len hs
  apply wE_is
  unfold d_step_in b_step_in
  have key : ∀ (q0 : Option PV), (∃ q, q0 = some q ∧ Sq x q) → wS (loopS (gdName 3) (dSeq (dIf (dAndT (dCmp pEqB (dIx (dV 2) (dC (.int 0))) (dIx (dV 3) (dC (.int 0)))) (dCmp pEqB (dIx (dV 2) (dC (.int 1))) (dIx (dV 3) (dC (.int 1))))) (dSeq (dRet (dV 3)) dNever) dSkip) dSkip) ((stepsL ls cs).map stV) [some (nv ls), some (lv cs), q0, none] g) (fun _ _ => False) (fun a g' => a = stV x ∧ g' = g) := by
    rintro q0 ⟨q, rfl, hq⟩
    have hf : (stepsL ls cs).findSome? (fun y => if y = x then some (stV x) else none) = some (stV x) := by
      cases hh : (stepsL ls cs).findSome? (fun y => if y = x then some (stV x) else none) with
      | none => rw [List.findSome?_eq_none_iff] at hh; have := hh x hx; simp at this
      | some r =>
        obtain ⟨y, _, e⟩ := List.exists_of_findSome?_eq_some hh
        split at e
        · exact e.symm ▸ rfl
        · cases e
    refine wS_find (fun y => if y = x then some (stV x) else none) (fun σ => ∃ z, σ = [some (nv ls), some (lv cs), some q, z]) ?_ ⟨none, rfl⟩ ?_ ?_
    · rintro y hy σ ⟨z, rfl⟩
      have e2 : y = x ↔ (x.1 = y.1 ∧ x.2 = y.2) := by
        constructor
        · rintro rfl; exact ⟨rfl, rfl⟩
        · rintro ⟨a, b⟩; exact Prod.ext a.symm b.symm
      rcases hq with rfl | rfl
      · simp [stV, w_eq, e2]
        clear hf e1 e2
        by_cases a1 : x.1 = y.1
        · by_cases a2 : x.2 = y.2
          · simp [a1, a2]
          · rw [if_pos a1, if_neg (by omega)]; intro _; exact a2
        · simp [a1]
      · simp [stV, w_eq, e2]
        clear hf e1 e2
        by_cases a1 : x.1 = y.1
        · by_cases a2 : x.2 = y.2
          · simp [a1, a2]
          · rw [if_pos a1, if_neg (by omega)]; intro _; exact a2
        · simp [a1]
    · intro r hr2
      rw [hf] at hr2
      cases hr2
      exact ⟨rfl, rfl⟩
    · intro σ hn
      rw [hf] at hn
      cases hn
  rcases hq with rfl | rfl
  · simp [d_is_row, b_is_row, e1]
    exact wS_mono (key _ ⟨_, rfl, .inl rfl⟩) (fun _ _ h => h.elim) (fun _ _ h => h)
  · have := key (some (stV x)) ⟨_, rfl, .inr rfl⟩
    simp only [stV] at this
    simp [stV, d_is_row, b_is_row, e1]
    exact wS_mono this (fun _ _ h => h.elim) (fun _ _ h => h)
theorem p_after {ls : List Nat} {cs : List Lt} {x : Bool × Nat} {q : PV} (hr : RawS ls cs) (hs : ls.length ≤ 300) (hx : x ∈ stepsL ls cs) (hq : Sq x q) : d_after [stripP ls cs, q] g = .ok (stripP (aftL ls x) (aftC cs x)) g := by
  have e1 := p_step_in (g := g) hr hs hx hq
  have e2 := p_parts_after (g := g) hr.len hs hx
  have h3 := aft_raw hr hx
  have e3 := p_Strip_init (g := g) h3.ne h3.pos h3.len
  have e4 : d_need_strip [.ins "Strip" nStrip [nv ls, lv cs]] g = .ok .non g := p_need_strip ls cs
  have e5 : isNonP (stV x) = false := rfl
  apply wE_is
  unfold d_after b_after
  simp [stripP, e4, p_lengths, p_creases, e1, e2, e5]
  rw [e3]
  simp [stripP]
end
end Tr

namespace Tr
open PySem PySem.Spec PyProof.Rows L2
def wd (b : Bool) : Str := if b = true then "end" else "crimp"
theorem stV_wd (x : Bool × Nat) : stV x = .tup [.str (wd x.1), .int (x.2 : Nat)] := rfl
theorem wd_ok (b : Bool) : PyData.strOk (wd b) = true := by cases b <;> decide +kernel
theorem wd_inj {a b : Bool} : wd a = wd b ↔ a = b := by cases a <;> cases b <;> decide +kernel
theorem in_st (l : List (Bool × Nat)) (x : Bool × Nat) (h : l.length ≤ 1000) : pInA (stV x) (.lst (l.map stV)) = some (decide (x ∈ l)) := by
  have e1 : toDs (l.map stV) = some (l.map fun x => .tuple [.str (wd x.1), .int (x.2 : Nat)]) := toDs_map stV _ (fun x => by simp [toD, toDs, stV_wd]) l
  have e2 : SeqAt.shaped (.list (l.map fun x => PyData.tuple [.str (wd x.1), .int (x.2 : Nat)])) = true := by
    have h1 := canLay_map (fun x : Bool × Nat => PyData.tuple [.str (wd x.1), .int (x.2 : Nat)]) (fun x => by simp [PyData.canLay0, PyData.canLayAll0, wd_ok]) l
    have h2 := depth_map (fun x : Bool × Nat => PyData.tuple [.str (wd x.1), .int (x.2 : Nat)]) 1 (fun _ => by simp [PyData.depth, PyData.depthAll]) l
    simp only [SeqAt.shaped, PyData.canLay0, h1, PyData.depth, Bool.true_and]
    exact decide_eq_true (by omega)
  have e3 : toD (stV x) = some (.tuple [.str (wd x.1), .int (x.2 : Nat)]) := by simp [toD, toDs, stV_wd]
  have e4 : SeqAt.shaped (.tuple [.str (wd x.1), .int (x.2 : Nat)]) = true := by simp [SeqAt.shaped, PyData.canLay0, PyData.canLayAll0, PyData.depth, PyData.depthAll, wd_ok]
  have e0 : pInB (stV x) (.lst (l.map stV)) = none := by simp [pInB, flatP, stV]
  simp only [pInA, e0, por_none, pInD, e3, e1, e4, e2, and_self, if_true]
  congr 1
  rw [List.any_map, Bool.eq_iff_iff, List.any_eq_true, decide_eq_true_eq]
  constructor
  · rintro ⟨y, h, h1⟩
    simp [PyData.eqv, PyData.eqvAll] at h1
    have h2 : y.2 = x.2 := by omega
    have h1 : y.1 = x.1 := wd_inj.mp h1.1
    rw [show x = y from Prod.ext h1.symm h2.symm]; exact h
  · intro h
    exact ⟨x, h, by simp [PyData.eqv, PyData.eqvAll]⟩
theorem nin_st (l : List (Bool × Nat)) (x : Bool × Nat) (h : l.length ≤ 1000) : pNinA (stV x) (.lst (l.map stV)) = some (!decide (x ∈ l)) := by
  have e0 : pNin (stV x) (.lst (l.map stV)) = none := by simp [pNin, pInB, flatP, stV]
  have := in_st l x h
  have e1 : pInB (stV x) (.lst (l.map stV)) = none := by simp [pInB, flatP, stV]
  simp only [pInA, e1, por_none] at this
  simp [pNinA, e0, this]
theorem stepsL_len (ls : List Nat) (cs : List Lt) : (stepsL ls cs).length ≤ ls.length + 2 := by
  have hl0 : (end0 ls).length ≤ 1 := by unfold end0; split <;> simp
  have hl1 : (end1 ls).length ≤ 1 := by unfold end1; split <;> simp
  have hc : (crimps ls cs (ls.length - 2)).length ≤ ls.length - 2 := by
    unfold crimps
    rw [List.length_map]
    exact Nat.le_trans (List.length_filter_le _ _) (by simp)
  unfold stepsL
  simp only [List.length_append]
  omega
def oddF (n : Nat) : List PV := [.non, .int 5, .str "end", .lst [], .tup [.str "end"], .tup [.str "end", .int 0, .int 0], .tup [.str "End", .int 0], .tup [.str "end", .int (-1)], .tup [.str "end", .non], .tup [.str "end", .bl true], .tup [.str "crimp", .int 0], .tup [.str "crimp", .int ((n : Int) - 1)], .lst [.str "crimp"], .dct [] [], .tup [.int 0, .str "end"]]
def oddR (ls : List Nat) (cs : List Lt) (s : Nat) : List (Bool × Nat) := ([(true, s), (false, s)] : List (Bool × Nat)).filter fun x => !decide (x ∈ stepsL ls cs)
def oddTo (ls : List Nat) (cs : List Lt) (k : Nat) : List PV := oddF ls.length ++ (((List.range k).flatMap (oddR ls cs)).map stV)
def oddV (ls : List Nat) (cs : List Lt) : List PV := oddTo ls cs (ls.length + 1)
theorem oddTo_succ (ls : List Nat) (cs : List Lt) (k : Nat) : oddTo ls cs (k + 1) = oddTo ls cs k ++ (oddR ls cs k).map stV := by
  unfold oddTo
  rw [List.range_succ, List.flatMap_append, List.map_append, List.append_assoc]
  simp
theorem oddR_len (ls : List Nat) (cs : List Lt) (k : Nat) : (oddR ls cs k).length ≤ 2 := List.length_filter_le _ _
theorem oddTo_len (ls : List Nat) (cs : List Lt) (k : Nat) : (oddTo ls cs k).length ≤ 15 + 2 * k := by
  induction k with
  | zero => simp [oddTo, oddF]
  | succ k ih =>
    have := oddR_len ls cs k
    rw [oddTo_succ, List.length_append, List.length_map]
    omega
theorem odd_cases {ls : List Nat} {cs : List Lt} {q : PV} (h : q ∈ oddV ls cs) : q ∈ oddF ls.length ∨ ∃ x, q = stV x ∧ x ∉ stepsL ls cs := by
  unfold oddV oddTo at h
  rcases List.mem_append.mp h with h | h
  · exact .inl h
  · obtain ⟨x, h1, rfl⟩ := List.mem_map.mp h
    obtain ⟨s, _, h2⟩ := List.mem_flatMap.mp h1
    have := (List.mem_filter.mp h2).2
    exact .inr ⟨x, rfl, by simpa using this⟩
section
variable {g : Rg}
theorem p_law_odd_steps {ls : List Nat} {cs : List Lt} (h0 : ls ≠ []) (h2 : cs.length + 1 = ls.length) (hs : ls.length ≤ 200) : d_law_odd_steps [.rng, .lst [nv ls, lv cs]] g = .ok (.lst (oddV ls cs)) g := by
  have e1 := p_law_steps (g := g) h0 h2 (by omega : ls.length ≤ 300)
  have a0 : ∀ x y : PV, atI [x, y] 0 = some x := fun _ _ => rfl
  apply wE_is
  unfold d_law_odd_steps b_law_odd_steps
  rw [wE_dDefF]
  refine wS_cut (fun σ g' => g' = g ∧ σ = [some .rng, some (.lst [nv ls, lv cs]), some (.int ls.length), some (.lst ((stepsL ls cs).map stV)), none, none, none]) (by simp [a0, e1]) ?_
  rintro σ g' ⟨rfl, rfl⟩
  refine wS_cut (fun σ g1 => g1 = g' ∧ σ = [some .rng, some (.lst [nv ls, lv cs]), some (.int ls.length), some (.lst ((stepsL ls cs).map stV)), some (.lst (oddF ls.length)), none, none]) (by simp [oddF]) ?_
  rintro σ g1 ⟨rfl, rfl⟩
  simp
  refine ⟨by omega, ?_⟩
  have e3 : ((ls.length : Int) + 1).toNat = ls.length + 1 := by omega
  refine wS_rng (fun k σ g' => g' = g1 ∧ ∃ x, σ = [some .rng, some (.lst [nv ls, lv cs]), some (.int ls.length), some (.lst ((stepsL ls cs).map stV)), some (.lst (oddTo ls cs k)), x, none]) ⟨rfl, none, by simp [oddTo]⟩ ?_ ?_
  · rintro k σ g2 hk ⟨rfl, x, rfl⟩
    have hz : (oddTo ls cs k).length + (oddR ls cs k).length ≤ qsz := by
      have := oddTo_len ls cs k
      have := oddR_len ls cs k
      exact small_q (by omega)
    have h3 : (2 : Nat) ≤ qsz := small_q (by decide)
    have hn := stepsL_len ls cs
    simp [h3]
    have e4 : [PV.tup [.str "end", .int (k : Int)], .tup [.str "crimp", .int (k : Int)]] = ([(true, k), (false, k)] : List (Bool × Nat)).map stV := by simp [stV]
    rw [e4]
    refine wE_compM (fun x => !decide (x ∈ stepsL ls cs)) stV (fun x hx => ?_) ?_
    · simp [nin_st (stepsL ls cs) x (by omega)]
    · rw [show (List.filter (fun x => !decide (x ∈ stepsL ls cs)) [(true, k), (false, k)]) = oddR ls cs k from rfl]
      simp [hz, oddTo_succ]
  · rintro σ g2 ⟨rfl, x, rfl⟩
    simp [oddV]
theorem p_step_no {ls : List Nat} {cs : List Lt} {w : Str} {n : Int} (hr : RawS ls cs) (hs : ls.length ≤ 300) (hw : w = "End" ∨ w = "end" ∨ w = "crimp") (h : ∀ x ∈ stepsL ls cs, ¬ (w = wd x.1 ∧ n = x.2)) : d_step_in [nv ls, lv cs, .tup [.str w, .int n]] g = .ok .non g := by
  have e1 := p_steps_of (g := g) hr.ne hr.len hs
  have ok : PyData.strOk w = true := by rcases hw with rfl | rfl | rfl <;> decide +kernel
  apply wE_is
  unfold d_step_in b_step_in
  simp [d_is_row, b_is_row, e1]
  by_cases hn0 : 0 ≤ n
  · intro _
    have hf : (stepsL ls cs).findSome? (fun y => if w = wd y.1 ∧ n = y.2 then some (stV y) else none) = none := by
      rw [List.findSome?_eq_none_iff]
      intro y hy
      rw [if_neg (h y hy)]
    refine wS_find (fun y => if w = wd y.1 ∧ n = y.2 then some (stV y) else none) (fun σ => ∃ z, σ = [some (nv ls), some (lv cs), some (.tup [.str w, .int n]), z]) ?_ ⟨none, rfl⟩ ?_ ?_
    · rintro y hy σ ⟨z, rfl⟩
      simp [stV_wd, o_eqS ok (wd_ok y.1)]
      have := h y hy
      clear hf e1
      by_cases a1 : w = wd y.1
      · rw [if_pos a1]
        simp [a1] at this ⊢
      · rw [if_neg a1]
        simp [a1]
    · intro r hr2
      rw [hf] at hr2
      cases hr2
    · rintro σ _ ⟨z, rfl⟩
      simp
  · intro h0; exact absurd h0 hn0
theorem p_step_odd {ls : List Nat} {cs : List Lt} {q : PV} (hr : RawS ls cs) (hs : ls.length ≤ 300) (hq : q ∈ oddV ls cs) : d_step_in [nv ls, lv cs, q] g = .ok .non g := by
  rcases odd_cases hq with h | ⟨x, rfl, hx⟩
  · simp only [oddF, List.mem_cons, List.not_mem_nil, or_false] at h
    have sh : ∀ q : PV, wE (d_step_in [nv ls, lv cs, q] g) (fun a g' => a = .non ∧ g' = g) → d_step_in [nv ls, lv cs, q] g = .ok .non g := fun q h => wE_is h
    have a1 : ∀ x y : PV, atI [x, y] 1 = some y := fun _ _ => rfl
    have n1 : ∀ x : Bool × Nat, ¬ (("End" : Str) = wd x.1) := fun x => by cases x.1 <;> decide +kernel
    have n2 : ∀ x ∈ stepsL ls cs, ("crimp" : Str) = wd x.1 → 1 ≤ x.2 ∧ x.2 + 1 < ls.length := fun x hx e => by
      obtain ⟨_, h⟩ := step_mem hx
      rcases h with ⟨h, _⟩ | ⟨_, h1, h2, _⟩
      · rw [h] at e; exact absurd e (by decide +kernel)
      · exact ⟨h1, h2⟩
    rcases h with rfl | rfl | rfl | rfl | rfl | rfl | rfl | rfl | rfl | rfl | rfl | rfl | rfl | rfl | rfl
    case inr.inr.inr.inr.inr.inr.inl => exact p_step_no hr hs (.inl rfl) fun x hx h => n1 x h.1
    case inr.inr.inr.inr.inr.inr.inr.inr.inr.inr.inl => exact p_step_no hr hs (.inr (.inr rfl)) fun x hx h => by have := n2 x hx h.1; omega
    case inr.inr.inr.inr.inr.inr.inr.inr.inr.inr.inr.inl => exact p_step_no hr hs (.inr (.inr rfl)) fun x hx h => by have := n2 x hx h.1; omega
    all_goals
      apply sh
      unfold d_step_in b_step_in
      simp [d_is_row, b_is_row, d_is_list, b_is_list, d_is_number, b_is_number, d_is_integer, b_is_integer, a1]
  · obtain ⟨b, s⟩ := x
    refine p_step_no hr hs (by cases b <;> simp [wd]) fun y hy h => hx ?_
    have h1 : b = y.1 := wd_inj.mp h.1
    have h2 : s = y.2 := by have := h.2; simp only at this; omega
    rw [show (b, s) = y from Prod.ext h1 h2]
    exact hy
theorem p_after_odd {ls : List Nat} {cs : List Lt} {q : PV} (hr : RawS ls cs) (hs : ls.length ≤ 300) (hq : q ∈ oddV ls cs) : d_after [stripP ls cs, q] g = .exc "BadStep" ["step"] [q] g := by
  have e1 := p_step_odd (g := g) hr hs hq
  have e4 : d_need_strip [.ins "Strip" nStrip [nv ls, lv cs]] g = .ok .non g := p_need_strip ls cs
  have e2 : ∀ σ : Sl, slot σ 0 = some (stripP ls cs) → wE (dMeth "Strip" "lengths" d_Strip_lengths (dV 0) dNil σ g) (fun a g' => a = nv ls ∧ g' = g) := fun σ h => by simp [h, stripP, p_lengths]
  have e3 : ∀ σ : Sl, slot σ 0 = some (stripP ls cs) → wE (dMeth "Strip" "creases" d_Strip_creases (dV 0) dNil σ g) (fun a g' => a = lv cs ∧ g' = g) := fun σ h => by simp [h, stripP, p_creases]
  simp [d_after, b_after, stripP, e4, p_lengths, p_creases, e1]
theorem good_oddq {ls : List Nat} {cs : List Lt} {q : PV} (hq : q ∈ oddV ls cs) : good 8 q ∧ good 7 q := by
  have h3 : ∀ n, n ≤ 3 → n ≤ qsz := fun n h => small_q (by omega)
  have h4 : 0 < qsz := lt_q' (by decide)
  have k1 : PyData.strOk "end" = true := by decide +kernel
  have k2 : PyData.strOk "crimp" = true := by decide +kernel
  have k3 : PyData.strOk "End" = true := by decide +kernel
  rcases odd_cases hq with h | ⟨x, rfl, hx⟩
  · simp only [oddF, List.mem_cons, List.not_mem_nil, or_false] at h
    rcases h with rfl | rfl | rfl | rfl | rfl | rfl | rfl | rfl | rfl | rfl | rfl | rfl | rfl | rfl | rfl <;> simp [good, h3, h4, k1, k2, k3]
  · simp [good, stV_wd, h3, wd_ok]
theorem good_st {n : Nat} (x : Bool × Nat) : good (n + 2) (stV x) := by
  have h3 : 2 ≤ qsz := small_q (by omega)
  simp [good, stV_wd, h3, wd_ok]
theorem spoil_st {n : Nat} (x : Bool × Nat) : d_law_spoil_ (n + 2) [stV x] g = .ok (stV x) g := by
  have one : ∀ (i : Int) (g : Rg), d_law_spoil_ (n + 1) [.int i] g = .ok (.int i) g := fun i g => by
    apply wE_is
    show wE (dDef 3 .rep (b_law_spoil (d_law_spoil_ n)) _ _) _
    unfold b_law_spoil
    simp
  have two : ∀ (s : Str) (g : Rg), d_law_spoil_ (n + 1) [.str s] g = .ok (.str s) g := fun i g => by
    apply wE_is
    show wE (dDef 3 .rep (b_law_spoil (d_law_spoil_ n)) _ _) _
    unfold b_law_spoil
    simp
  apply wE_is
  show wE (dDef 3 .rep (b_law_spoil (d_law_spoil_ (n + 1))) _ _) _
  unfold b_law_spoil
  rw [stV_wd]
  simp
  refine wS_loopM (f := id) (l := [.str (wd x.1), .int (x.2 : Nat)]) (fun k σ g' => g' = g ∧ ∃ y z, σ = [some (.tup [.str (wd x.1), .int (x.2 : Nat)]), y, z]) ⟨rfl, none, none, rfl⟩ ?_ ?_
  · rintro k a σ g1 hk ⟨rfl, y, z, rfl⟩
    have := List.mem_of_getElem? hk
    simp at this
    rcases this with rfl | rfl <;> simp [one, two]
  · rintro σ g1 ⟨rfl, y, z, rfl⟩
    simp
theorem spoilO_sts {l : List (Bool × Nat)} (h : l.length < 1000) {Φ : PV → Rg → Prop} (hΦ : ∀ p, Φ p g) : wE (d_law_spoilO [.lst (l.map stV)] g) Φ := by
  unfold d_law_spoilO b_law_spoilO
  simp
  refine wS_loopM (fun k σ g' => g' = g ∧ ∃ y z, σ = [some (.lst (l.map stV)), y, z]) ⟨rfl, none, none, rfl⟩ ?_ ?_
  · rintro k a σ g1 hk ⟨rfl, y, z, rfl⟩
    simp [show d_law_spoil [stV a] g1 = .ok (stV a) g1 from spoil_st (n := 6) a]
  · rintro σ g1 ⟨rfl, y, z, rfl⟩
    simp
    exact ⟨lt_q' h, hΦ _⟩
theorem good_sts {l : List (Bool × Nat)} (h : l.length ≤ 1000) : good 8 (.lst (l.map stV)) := by
  refine ⟨by simpa using small_q h, fun x hx => ?_⟩
  obtain ⟨y, _, rfl⟩ := List.mem_map.mp hx
  exact good_st y
theorem good_raw {n : Nat} (ls : List Nat) (cs : List Lt) (h1 : ls.length ≤ 1000) (h2 : cs.length ≤ 1000) : good (n + 3) (.lst [nv ls, lv cs]) := by
  have h3 : 2 ≤ qsz := small_q (by omega)
  have h4 := small_q h1
  have h5 := small_q h2
  simp [good, h3, h4, h5]
  refine ⟨fun x hx => ?_, fun x hx => ?_⟩
  · obtain ⟨y, _, rfl⟩ := List.mem_map.mp hx; simp [good]
  · obtain ⟨y, _, rfl⟩ := List.mem_map.mp hx; simp [good, lt_ok]
theorem Lo.str {i : Str} {q : PV} (h : Lo (.str i) q) : q = .str i := by
  cases h with
  | same => rfl
  | seq hp => rcases hp with h | h <;> cases h
theorem Lo.step {x : Bool × Nat} {q : PV} (h : Lo (stV x) q) : Sq x q := by
  rw [stV_wd] at h
  cases h with
  | same => exact .inr rfl
  | @seq l m _ _ hp hq hl h =>
    have e : l = [.str (wd x.1), .int (x.2 : Nat)] := by
      rcases hp with h | h <;> cases h; rfl
    subst e
    match m, hl with
    | [a, b], _ =>
      have h0 := (h 0 _ a rfl rfl).str
      have h1 := (h 1 _ b rfl rfl).int
      subst h0 h1
      exact hq
theorem good_Sq {n : Nat} {x : Bool × Nat} {q : PV} (h : Sq x q) : good (n + 2) q := by
  have h3 : 2 ≤ qsz := small_q (by omega)
  rcases h with rfl | rfl
  · rw [show (if x.1 = true then ("end" : Str) else "crimp") = wd x.1 from rfl]
    simp [good, h3, wd_ok]
  · exact good_st x
end
end Tr

namespace Tr
open PySem PySem.Spec PyProof.Rows L2
def rowsB : List (List PV) := [[], [.str "end"], [.str "crimp"], [.str "end", .int 0, .int 0], [.str "end", .non], [.str "end", .bl true], [.int 0, .str "end"]]
inductive Itm : Option (Str × Int) → PV → Prop
  | flat (q : PV) (h : q ∈ ([.non, .int 5, .str "end", .dct [] []] : List PV)) : Itm none q
  | row (l : List PV) (h : l ∈ rowsB) (q : PV) (hq : q = .lst l ∨ q = .tup l) : Itm none q
  | pair (w : Str) (hw : w = "End" ∨ w = "end" ∨ w = "crimp") (n : Int) (q : PV) (hq : q = .lst [.str w, .int n] ∨ q = .tup [.str w, .int n]) : Itm (some (w, n)) q
theorem wd3 (b : Bool) : wd b = "End" ∨ wd b = "end" ∨ wd b = "crimp" := by cases b <;> simp [wd]
theorem w3_ok {w : Str} (h : w = "End" ∨ w = "end" ∨ w = "crimp") : PyData.strOk w = true := by rcases h with rfl | rfl | rfl <;> decide +kernel
theorem itm_st (x : Bool × Nat) : Itm (some (wd x.1, x.2)) (stV x) := .pair _ (wd3 x.1) _ _ (.inr rfl)
/-- the parts of a row of flat ones are themselves -/
theorem Lo.flat {p q : PV} (h : Lo p q) (hp : (∀ l, p ≠ .lst l) ∧ ∀ l, p ≠ .tup l) : q = p := by
  cases h with
  | same => rfl
  | seq h1 => rcases h1 with h1 | h1; exact absurd h1 (hp.1 _); exact absurd h1 (hp.2 _)
theorem Lo.row {l : List PV} {p q : PV} (hp : p = .lst l ∨ p = .tup l) (hf : ∀ x ∈ l, (∀ m, x ≠ .lst m) ∧ ∀ m, x ≠ .tup m) (h : Lo p q) : q = .lst l ∨ q = .tup l := by
  cases h with
  | same => exact hp
  | @seq l' m _ _ hp' hq hl h =>
    have e : l' = l := by rcases hp with rfl | rfl <;> rcases hp' with h | h <;> cases h <;> rfl
    subst e
    have em : m = l' := by
      apply List.ext_getElem?
      intro i
      cases e1 : l'[i]? with
      | none =>
        rw [List.getElem?_eq_none_iff] at e1 ⊢
        omega
      | some a =>
        have hi := (List.getElem?_eq_some_iff.mp e1).1
        have e2 : m[i]? = some (m[i]'(by omega)) := List.getElem?_eq_getElem (by omega)
        have h3 := h i a _ e1 e2
        rw [e2, h3.flat (hf a (List.mem_of_getElem? e1))]
    subst em
    exact hq
theorem Itm.lo {k : Option (Str × Int)} {p q : PV} (h : Itm k p) (hl : Lo p q) : Itm k q := by
  cases h with
  | flat p h =>
    rw [hl.flat]
    · exact .flat p h
    · simp only [List.mem_cons, List.not_mem_nil, or_false] at h
      rcases h with rfl | rfl | rfl | rfl <;> exact ⟨fun _ e => (nomatch e), fun _ e => (nomatch e)⟩
  | row l h p hq =>
    refine .row l h q (hl.row hq fun x hx => ?_)
    simp only [rowsB, List.mem_cons, List.not_mem_nil, or_false] at h
    rcases h with rfl | rfl | rfl | rfl | rfl | rfl | rfl <;> simp at hx <;> rcases hx with rfl | rfl | rfl <;> exact ⟨fun _ e => (nomatch e), fun _ e => (nomatch e)⟩
  | pair w hw n p hq =>
    refine .pair w hw n q (hl.row hq fun x hx => ?_)
    simp at hx
    rcases hx with rfl | rfl <;> exact ⟨fun _ e => (nomatch e), fun _ e => (nomatch e)⟩
theorem itm_odd {ls : List Nat} {cs : List Lt} {q : PV} (h : q ∈ oddV ls cs) : ∃ k, Itm k q := by
  rcases odd_cases h with h | ⟨x, rfl, _⟩
  · simp only [oddF, List.mem_cons, List.not_mem_nil, or_false] at h
    rcases h with rfl | rfl | rfl | rfl | rfl | rfl | rfl | rfl | rfl | rfl | rfl | rfl | rfl | rfl | rfl
    · exact ⟨_, .flat _ (by simp)⟩
    · exact ⟨_, .flat _ (by simp)⟩
    · exact ⟨_, .flat _ (by simp)⟩
    · exact ⟨_, .row [] (by simp [rowsB]) _ (.inl rfl)⟩
    · exact ⟨_, .row [.str "end"] (by simp [rowsB]) _ (.inr rfl)⟩
    · exact ⟨_, .row [.str "end", .int 0, .int 0] (by simp [rowsB]) _ (.inr rfl)⟩
    · exact ⟨_, .pair "End" (.inl rfl) 0 _ (.inr rfl)⟩
    · exact ⟨_, .pair "end" (.inr (.inl rfl)) (-1) _ (.inr rfl)⟩
    · exact ⟨_, .row [.str "end", .non] (by simp [rowsB]) _ (.inr rfl)⟩
    · exact ⟨_, .row [.str "end", .bl true] (by simp [rowsB]) _ (.inr rfl)⟩
    · exact ⟨_, .pair "crimp" (.inr (.inr rfl)) 0 _ (.inr rfl)⟩
    · exact ⟨_, .pair "crimp" (.inr (.inr rfl)) _ _ (.inr rfl)⟩
    · exact ⟨_, .row [.str "crimp"] (by simp [rowsB]) _ (.inl rfl)⟩
    · exact ⟨_, .flat _ (by simp)⟩
    · exact ⟨_, .row [.int 0, .str "end"] (by simp [rowsB]) _ (.inr rfl)⟩
  · exact ⟨_, itm_st x⟩
theorem good_itm {n : Nat} {k : Option (Str × Int)} {q : PV} (h : Itm k q) : good (n + 3) q := by
  have h3 : ∀ n, n ≤ 3 → n ≤ qsz := fun n h => small_q (by omega)
  have h4 : 0 < qsz := lt_q' (by decide)
  have k1 : PyData.strOk "end" = true := by decide +kernel
  have k2 : PyData.strOk "crimp" = true := by decide +kernel
  cases h with
  | flat p h =>
    simp only [List.mem_cons, List.not_mem_nil, or_false] at h
    rcases h with rfl | rfl | rfl | rfl <;> simp [good, k1, h4]
  | row l h p hq =>
    simp only [rowsB, List.mem_cons, List.not_mem_nil, or_false] at h
    rcases h with rfl | rfl | rfl | rfl | rfl | rfl | rfl <;> rcases hq with rfl | rfl <;> simp [good, k1, k2, h3]
  | pair w hw n p hq => rcases hq with rfl | rfl <;> simp [good, w3_ok hw, h3]
theorem nod_itm {n : Nat} {k : Option (Str × Int)} {q : PV} (h : Itm k q) : noDct (n + 3) q ∧ szP q ≤ 1 := by
  have h3 : ∀ n, n ≤ 3 → n ≤ qsz := fun n h => small_q (by omega)
  cases h with
  | flat p h =>
    simp only [List.mem_cons, List.not_mem_nil, or_false] at h
    rcases h with rfl | rfl | rfl | rfl <;> simp [noDct, szP]
  | row l h p hq =>
    simp only [rowsB, List.mem_cons, List.not_mem_nil, or_false] at h
    rcases h with rfl | rfl | rfl | rfl | rfl | rfl | rfl <;> rcases hq with rfl | rfl <;> simp [noDct, szP, szL, h3]
  | pair w hw n p hq => rcases hq with rfl | rfl <;> simp [noDct, szP, szL, h3]
/-- the step that a thing is -/
def stepAt (ls : List Nat) (cs : List Lt) : Option (Str × Int) → Option (Bool × Nat)
  | none => none
  | some (w, n) => (stepsL ls cs).find? fun x => decide (w = wd x.1 ∧ n = x.2)
theorem stepAt_mem {ls : List Nat} {cs : List Lt} {k : Option (Str × Int)} {x : Bool × Nat} (h : stepAt ls cs k = some x) : x ∈ stepsL ls cs ∧ k = some (wd x.1, (x.2 : Int)) := by
  cases k with
  | none => cases h
  | some k =>
    obtain ⟨w, n⟩ := k
    have h1 := List.mem_of_find?_eq_some h
    have h2 := List.find?_some h
    simp only [decide_eq_true_eq] at h2
    exact ⟨h1, by rw [h2.1, h2.2]⟩
theorem stepAt_st {ls : List Nat} {cs : List Lt} {x : Bool × Nat} (h : x ∈ stepsL ls cs) : stepAt ls cs (some (wd x.1, (x.2 : Int))) = some x := by
  cases e : stepAt ls cs (some (wd x.1, (x.2 : Int))) with
  | none =>
    have := List.find?_eq_none.mp e x h
    simp at this
  | some y =>
    obtain ⟨_, h2⟩ := stepAt_mem e
    have h2 : (wd x.1, (x.2 : Int)) = (wd y.1, (y.2 : Int)) := Option.some.inj h2
    have h3 := wd_inj.mp (Prod.mk.inj h2).1
    have h4 := (Prod.mk.inj h2).2
    rw [show y = x from Prod.ext h3.symm (by omega)]
theorem in_stG (l : List (Bool × Nat)) {w : Str} (hw : w = "End" ∨ w = "end" ∨ w = "crimp") (n : Int) (h : l.length ≤ 1000) : pNinA (.tup [.str w, .int n]) (.lst (l.map stV)) = some (!(l.find? fun x => decide (w = wd x.1 ∧ n = x.2)).isSome) := by
  have e1 : toDs (l.map stV) = some (l.map fun x => .tuple [.str (wd x.1), .int (x.2 : Nat)]) := toDs_map stV _ (fun x => by simp [toD, toDs, stV_wd]) l
  have e2 : SeqAt.shaped (.list (l.map fun x => PyData.tuple [.str (wd x.1), .int (x.2 : Nat)])) = true := by
    have h1 := canLay_map (fun x : Bool × Nat => PyData.tuple [.str (wd x.1), .int (x.2 : Nat)]) (fun x => by simp [PyData.canLay0, PyData.canLayAll0, wd_ok]) l
    have h2 := depth_map (fun x : Bool × Nat => PyData.tuple [.str (wd x.1), .int (x.2 : Nat)]) 1 (fun _ => by simp [PyData.depth, PyData.depthAll]) l
    simp only [SeqAt.shaped, PyData.canLay0, h1, PyData.depth, Bool.true_and]
    exact decide_eq_true (by omega)
  have e3 : toD (.tup [.str w, .int n]) = some (.tuple [.str w, .int n]) := by simp [toD, toDs]
  have e4 : SeqAt.shaped (.tuple [.str w, .int n]) = true := by simp [SeqAt.shaped, PyData.canLay0, PyData.canLayAll0, PyData.depth, PyData.depthAll, w3_ok hw]
  have e0 : pNin (.tup [.str w, .int n]) (.lst (l.map stV)) = none := by simp [pNin, pInB, flatP]
  simp only [pNinA, e0, por_none, pInD, e3, e1, e4, e2, and_self, if_true, Option.map_some]
  congr 1
  congr 1
  rw [List.any_map, Bool.eq_iff_iff, List.any_eq_true, List.find?_isSome]
  constructor
  · rintro ⟨y, h, h1⟩
    simp [PyData.eqv, PyData.eqvAll] at h1
    exact ⟨y, h, by simp [h1.1, h1.2]⟩
  · rintro ⟨y, h, h1⟩
    simp only [decide_eq_true_eq] at h1
    exact ⟨y, h, by simp [PyData.eqv, PyData.eqvAll, h1.1, h1.2]⟩
def stO : Option (Bool × Nat) → PV
  | some x => stV x
  | none => .non
section
variable {g : Rg}
theorem p_step_gen {ls : List Nat} {cs : List Lt} {k : Option (Str × Int)} {q : PV} (hr : RawS ls cs) (hs : ls.length ≤ 300) (hq : Itm k q) : d_step_in [nv ls, lv cs, q] g = .ok (stO (stepAt ls cs k)) g := by
  cases e : stepAt ls cs k with
  | some x =>
    obtain ⟨h1, rfl⟩ := stepAt_mem e
    cases hq with
    | pair w hw n q hq => exact p_step_in hr hs h1 hq
  | none =>
    have sh : ∀ q : PV, wE (d_step_in [nv ls, lv cs, q] g) (fun a g' => a = .non ∧ g' = g) → d_step_in [nv ls, lv cs, q] g = .ok .non g := fun q h => wE_is h
    have a1 : ∀ x y : PV, atI [x, y] 1 = some y := fun _ _ => rfl
    cases hq with
    | flat q h =>
      apply sh
      simp only [List.mem_cons, List.not_mem_nil, or_false] at h
      rcases h with rfl | rfl | rfl | rfl <;> (unfold d_step_in b_step_in; simp [d_is_row, b_is_row, d_is_list, b_is_list])
    | row l h q hq =>
      apply sh
      simp only [rowsB, List.mem_cons, List.not_mem_nil, or_false] at h
      rcases h with rfl | rfl | rfl | rfl | rfl | rfl | rfl <;> rcases hq with rfl | rfl <;> (unfold d_step_in b_step_in; simp [d_is_row, b_is_row, d_is_list, b_is_list, d_is_number, b_is_number, d_is_integer, b_is_integer, a1])
    | pair w hw n q hq =>
      have hno : ∀ x ∈ stepsL ls cs, ¬ (w = wd x.1 ∧ n = x.2) := fun x hx h => by
        have := List.find?_eq_none.mp e x hx
        simp only [decide_eq_true_eq] at this
        exact this h
      rcases hq with rfl | rfl
      · have e1 := p_steps_of (g := g) hr.ne hr.len hs
        have ok := w3_ok hw
        apply sh
        unfold d_step_in b_step_in
        simp [d_is_row, b_is_row, e1]
        intro _
        have hf : (stepsL ls cs).findSome? (fun y => if w = wd y.1 ∧ n = y.2 then some (stV y) else none) = none := by
          rw [List.findSome?_eq_none_iff]
          intro y hy
          rw [if_neg (hno y hy)]
        refine wS_find (fun y => if w = wd y.1 ∧ n = y.2 then some (stV y) else none) (fun σ => ∃ z, σ = [some (nv ls), some (lv cs), some (.lst [.str w, .int n]), z]) ?_ ⟨none, rfl⟩ ?_ ?_
        · rintro y hy σ ⟨z, rfl⟩
          simp [stV_wd, o_eqS ok (wd_ok y.1)]
          have := hno y hy
          clear hf e1 e
          by_cases a1 : w = wd y.1
          · rw [if_pos a1]
            simp [a1] at this ⊢
            try simp [this]
          · rw [if_neg a1]
            simp [a1]
        · intro r hr2
          rw [hf] at hr2
          cases hr2
        · rintro σ _ ⟨z, rfl⟩
          simp
      · exact p_step_no hr hs hw hno
/-- what is behind some things, or the place of the first that is no step -/
def doneF : List Nat → List Lt → List (Option (Str × Int)) → Nat → Nat ⊕ (List Nat × List Lt)
  | ls, cs, [], _ => .inr (ls, cs)
  | ls, cs, k :: r, i => match stepAt ls cs k with
    | none => .inl i
    | some x => doneF (aftL ls x) (aftC cs x) r (i + 1)
def doneV : Nat ⊕ (List Nat × List Lt) → PV
  | .inl i => .tup [.non, .non, .int (i : Nat)]
  | .inr x => .tup [nv x.1, lv x.2, .non]
def doneW : Nat ⊕ (List Nat × List Lt) → PV
  | .inl i => .tup [.non, .int (i : Nat)]
  | .inr x => .tup [.lst [nv x.1, lv x.2], .non]
theorem aftL_len {ls : List Nat} {cs : List Lt} {x : Bool × Nat} (hx : x ∈ stepsL ls cs) : (aftL ls x).length < ls.length := by
  obtain ⟨h1, hx⟩ := step_mem hx
  unfold aftL
  rcases hx with ⟨h, _⟩ | ⟨h, h2, h3, _⟩
  · rw [if_pos h]; split <;> simp <;> omega
  · rw [if_neg (by rw [h]; decide)]; simp; omega
structure Its (ks : List (Option (Str × Int))) (qs : List PV) : Prop where
  len : ks.length = qs.length
  at_ : ∀ (i : Nat) (k : Option (Str × Int)) (q : PV), ks[i]? = some k → qs[i]? = some q → Itm k q
theorem Its.mem {ks : List (Option (Str × Int))} {qs : List PV} (h : Its ks qs) {q : PV} (hq : q ∈ qs) : ∃ k, Itm k q := by
  obtain ⟨i, hi, rfl⟩ := List.getElem_of_mem hq
  have h2 : i < ks.length := by rw [h.len]; exact hi
  exact ⟨ks[i], h.at_ i _ _ (List.getElem?_eq_getElem h2) (List.getElem?_eq_getElem hi)⟩
theorem Its.lo {ks : List (Option (Str × Int))} {qs : List PV} (h : Its ks qs) {q : PV} (hl : Lo (.lst qs) q) : ∃ rs, Its ks rs ∧ (q = .lst rs ∨ q = .tup rs) := by
  cases hl with
  | same => exact ⟨qs, h, .inl rfl⟩
  | @seq l m _ _ hp hq hlen hh =>
    have e : l = qs := by rcases hp with h | h <;> cases h; rfl
    subst e
    refine ⟨m, ⟨by rw [h.len, hlen], fun i k q hk hq2 => ?_⟩, hq⟩
    have hi : i < l.length := by have := (List.getElem?_eq_some_iff.mp hk).1; rw [h.len] at this; exact this
    have e1 : l[i]? = some l[i] := List.getElem?_eq_getElem hi
    exact (h.at_ i k _ hk e1).lo (hh i _ q e1 hq2)
theorem Its.gd {ks : List (Option (Str × Int))} {qs : List PV} (h : Its ks qs) (hl : qs.length ≤ 1000) {q : PV} (hq : q = .lst qs ∨ q = .tup qs) : good 8 q := by
  have : ∀ x ∈ qs, good 7 x := fun x hx => by obtain ⟨k, hk⟩ := h.mem hx; exact good_itm (n := 4) hk
  rcases hq with rfl | rfl <;> exact ⟨small_q hl, this⟩
theorem szL_le1 : ∀ (l : List PV), (∀ x ∈ l, szP x ≤ 1) → szL l ≤ l.length
  | [], _ => Nat.le_refl 0
  | a :: l, h => by
    have := szL_le1 l fun x hx => h x (by simp [hx])
    have := h a (by simp)
    simp only [szL, List.length_cons]; omega
theorem Its.nod {ks : List (Option (Str × Int))} {qs : List PV} (h : Its ks qs) (hl : qs.length ≤ 1000) : noDct 8 (.lst qs) ∧ szP (.lst qs) ≤ qs.length + 1 := by
  refine ⟨⟨small_q hl, fun x hx => by obtain ⟨k, hk⟩ := h.mem hx; exact (nod_itm (n := 4) hk).1⟩, ?_⟩
  have := szL_le1 qs fun x hx => by obtain ⟨k, hk⟩ := h.mem hx; exact (nod_itm (n := 4) hk).2
  show szL qs + 1 ≤ _
  omega
theorem p_parts_done {ls : List Nat} {cs : List Lt} {ks : List (Option (Str × Int))} {qs : List PV} {q : PV} (hr : RawS ls cs) (hs : ls.length ≤ 300) (h : Its ks qs) (hq : q = .lst qs ∨ q = .tup qs) : d_parts_done [nv ls, lv cs, q] g = .ok (doneV (doneF ls cs ks 0)) g := by
  have key : wS (loopS (gdTupA 2 (gdCons (gdName 3) (gdCons (gdName 4) gdNil))) (dSeq (dSet 5 (dCall d_step_in (dCons (dV 0) (dCons (dV 1) (dCons (dV 4) dNil))))) (dSeq (dIf (dCmp pIs (dV 5) (dC .non)) (dSeq (dRet (dTup (dCons (dC .non) (dCons (dC .non) (dCons (dV 3) dNil))))) dNever) dSkip) (dSeq (dAsg (gdTupA 2 (gdCons (gdName 0) (gdCons (gdName 1) gdNil))) (dCall d_parts_after (dCons (dV 0) (dCons (dV 1) (dCons (dV 5) dNil))))) dSkip))) (enumP qs) [some (nv ls), some (lv cs), some q, none, none, none] g)
      (fun σ g' => g' = g ∧ ∃ l c x y z, σ = [some (nv l), some (lv c), some q, x, y, z] ∧ doneF ls cs ks 0 = .inr (l, c)) (fun p g' => g' = g ∧ p = doneV (doneF ls cs ks 0)) := by
    rw [show enumP qs = qs.zipIdx.map fun x => .tup [.int (x.2 : Nat), x.1] by have := enum_map (fun x : PV => x) qs; rwa [List.map_id'] at this]
    refine wS_loopM (fun k σ g' => g' = g ∧ ∃ l c x y z, RawS l c ∧ l.length ≤ 300 ∧ σ = [some (nv l), some (lv c), some q, x, y, z] ∧ doneF ls cs ks 0 = doneF l c (ks.drop k) k) ⟨rfl, ls, cs, none, none, none, hr, hs, rfl, rfl⟩ ?_ ?_
    · rintro k a σ g' hk ⟨rfl, l, c, x, y, z, hr1, hs1, rfl, hd⟩
      obtain ⟨hk1, rfl⟩ := List.getElem?_eq_some_iff.mp hk
      have hk2 : k < qs.length := by simpa using hk1
      have hk3 : k < ks.length := by rw [h.len]; exact hk2
      have hi := h.at_ k _ _ (List.getElem?_eq_getElem hk3) (List.getElem?_eq_getElem hk2)
      rw [List.drop_eq_getElem_cons hk3] at hd
      simp only [doneF] at hd
      have e1 := p_step_gen (g := g') hr1 hs1 hi
      cases e : stepAt l c ks[k] with
      | none =>
        rw [e] at hd e1
        simp [e1, stO]
        rw [hd]
        simp [doneV]
      | some st =>
        rw [e] at hd e1
        have hm := (stepAt_mem e).1
        have e2 := p_parts_after (g := g') hr1.len hs1 hm
        have e5 : isNonP (stV st) = false := rfl
        simp [e1, stO, e2, e5]
        exact ⟨_, _, aft_raw hr1 hm, by have := aftL_len hm; omega, ⟨rfl, rfl⟩, hd⟩
    · rintro σ g' ⟨rfl, l, c, x, y, z, hr1, hs1, rfl, hd⟩
      refine ⟨rfl, l, c, x, y, z, rfl, ?_⟩
      rw [hd, List.length_zipIdx, ← h.len, List.drop_length]
      rfl
  apply wE_is
  unfold d_parts_done b_parts_done
  rcases hq with rfl | rfl
  · simp
    refine wS_mono key ?_ (fun p g' hp => ⟨hp.2, hp.1⟩)
    rintro σ g' ⟨rfl, l, c, x, y, z, rfl, hd⟩
    rw [hd]
    simp [doneV]
  · simp
    refine wS_mono key ?_ (fun p g' hp => ⟨hp.2, hp.1⟩)
    rintro σ g' ⟨rfl, l, c, x, y, z, rfl, hd⟩
    rw [hd]
    simp [doneV]
theorem doneF_raw : ∀ {ks : List (Option (Str × Int))} {ls : List Nat} {cs : List Lt} {i : Nat} {x : List Nat × List Lt}, RawS ls cs → doneF ls cs ks i = .inr x → RawS x.1 x.2 ∧ x.1.length ≤ ls.length
  | [], ls, cs, i, x, hr, h => by cases h; exact ⟨hr, Nat.le_refl _⟩
  | k :: r, ls, cs, i, x, hr, h => by
    simp only [doneF] at h
    cases e : stepAt ls cs k with
    | none => rw [e] at h; cases h
    | some st =>
      rw [e] at h
      have hm := (stepAt_mem e).1
      obtain ⟨h1, h2⟩ := doneF_raw (aft_raw hr hm) h
      have := aftL_len hm
      exact ⟨h1, by omega⟩
theorem p_done_ok {ls : List Nat} {cs : List Lt} {ks : List (Option (Str × Int))} {qs : List PV} {q : PV} {x : List Nat × List Lt} (hr : RawS ls cs) (hs : ls.length ≤ 300) (h : Its ks qs) (hq : q = .lst qs ∨ q = .tup qs) (hd : doneF ls cs ks 0 = .inr x) : d_done [stripP ls cs, q] g = .ok (stripP x.1 x.2) g := by
  have e1 := p_parts_done (g := g) hr hs h hq
  rw [hd] at e1
  have hx := (doneF_raw hr hd).1
  have e3 := p_Strip_init (g := g) hx.ne hx.pos hx.len
  have e4 : d_need_strip [.ins "Strip" nStrip [nv ls, lv cs]] g = .ok .non g := p_need_strip ls cs
  apply wE_is
  unfold d_done b_done
  simp [stripP, e4, p_lengths, p_creases, e1, doneV]
  rw [e3]
  simp [stripP]
theorem p_done_no {ls : List Nat} {cs : List Lt} {ks : List (Option (Str × Int))} {qs : List PV} {q : PV} {i : Nat} (hr : RawS ls cs) (hs : ls.length ≤ 300) (h : Its ks qs) (hq : q = .lst qs ∨ q = .tup qs) (hd : doneF ls cs ks 0 = .inl i) : d_done [stripP ls cs, q] g = .exc "BadSteps" ["index"] [.int (i : Nat)] g := by
  have e1 := p_parts_done (g := g) hr hs h hq
  rw [hd] at e1
  have e4 : d_need_strip [.ins "Strip" nStrip [nv ls, lv cs]] g = .ok .non g := p_need_strip ls cs
  have e5 : gdTupA 3 (gdCons (gdName 2) (gdCons (gdName 3) (gdCons (gdName 4) gdNil))) (PV.tup [.non, .non, .int (i : Nat)]) [some (.ins "Strip" nStrip [nv ls, lv cs]), some q, none, none, none] = some [some (.ins "Strip" nStrip [nv ls, lv cs]), some q, some .non, some .non, some (.int (i : Nat))] := rfl
  simp [d_done, b_done, stripP, e4, p_lengths, p_creases, e1, doneV, e5]
theorem p_law_done {ls : List Nat} {cs : List Lt} {ks : List (Option (Str × Int))} {qs : List PV} (hr : RawS ls cs) (hs : ls.length ≤ 300) (h : Its ks qs) (hl : qs.length ≤ 900) : d_law_done [.lst [nv ls, lv cs], .lst qs] g = .ok (doneW (doneF ls cs ks 0)) g := by
  have a0 : ∀ x y : PV, atI [x, y] 0 = some x := fun _ _ => rfl
  have a1 : ∀ x y : PV, atI [x, y] 1 = some y := fun _ _ => rfl
  apply wE_is
  unfold d_law_done b_law_done
  simp
  refine ⟨by omega, ?_⟩
  refine wS_rng (fun k σ g' => g' = g ∧ ∃ l c x y, RawS l c ∧ l.length ≤ 300 ∧ σ = [some (.lst [nv l, lv c]), some (.lst qs), x, y] ∧ doneF ls cs ks 0 = doneF l c (ks.drop k) k) ⟨rfl, ls, cs, none, none, hr, hs, rfl, rfl⟩ ?_ ?_
  · rintro k σ g' hk2 ⟨rfl, l, c, x, y, hr1, hs1, rfl, hd⟩
    have hk3 : k < ks.length := by rw [h.len]; exact hk2
    have hi := h.at_ k _ _ (List.getElem?_eq_getElem hk3) (List.getElem?_eq_getElem hk2)
    have e0 : atI qs (k : Int) = some qs[k] := by rw [atI_nat, List.getElem?_eq_getElem hk2]
    rw [List.drop_eq_getElem_cons hk3] at hd
    simp only [doneF] at hd
    have hst := stepsL_len l c
    have e1 := p_law_steps (g := g') hr1.ne hr1.len hs1
    have out : stepAt l c ks[k] = none → doneF ls cs ks 0 = .inl k := fun e => by rw [e] at hd; exact hd
    simp [e0]
    generalize qs[k] = q at hi
    generalize ks[k] = kk at hi hd out
    cases hi with
    | flat q h =>
      simp only [List.mem_cons, List.not_mem_nil, or_false] at h
      rcases h with rfl | rfl | rfl | rfl <;> simp [out rfl, doneW]
    | row r h q hq =>
      simp only [rowsB, List.mem_cons, List.not_mem_nil, or_false] at h
      rcases h with rfl | rfl | rfl | rfl | rfl | rfl | rfl <;> rcases hq with rfl | rfl <;> simp [out rfl, doneW, a0, a1, d_law_is_number, b_law_is_number]
    | pair w hw n q hq =>
      by_cases hn : 0 ≤ n
      · have e2 := in_stG (stepsL l c) hw n (by omega)
        have e5 : ∀ x, stepAt l c (some (w, n)) = some x → PV.tup [.str w, .int n] = stV x := fun x hx => by
          obtain ⟨_, h2⟩ := stepAt_mem hx
          cases h2
          rfl
        cases e : stepAt l c (some (w, n)) with
        | none =>
          have e3 : ((stepsL l c).find? fun x => decide (w = wd x.1 ∧ n = x.2)) = none := e
          rw [e3] at e2
          rcases hq with rfl | rfl <;> simp [a0, a1, d_law_is_number, b_law_is_number, hn, e1, e2, out e, doneW]
        | some st =>
          have e3 : ((stepsL l c).find? fun x => decide (w = wd x.1 ∧ n = x.2)) = some st := e
          rw [e3] at e2
          have hm := (stepAt_mem e).1
          have e4 := p_law_after (g := g') hr1.len hs1 hm
          rw [← e5 st e] at e4
          rw [e] at hd
          have fin : RawS (aftL l st) (aftC c st) ∧ (aftL l st).length ≤ 300 := ⟨aft_raw hr1 hm, by have := aftL_len hm; omega⟩
          rcases hq with rfl | rfl <;> (simp [a0, a1, d_law_is_number, b_law_is_number, hn, e1, e2, e4]; exact ⟨_, _, fin.1, fin.2, ⟨rfl, rfl⟩, hd⟩)
      · have e : stepAt l c (some (w, n)) = none := by
          cases e : stepAt l c (some (w, n)) with
          | none => rfl
          | some st => obtain ⟨_, h2⟩ := stepAt_mem e; cases h2; omega
        rcases hq with rfl | rfl <;> simp [a0, a1, d_law_is_number, b_law_is_number, hn, out e, doneW]
  · rintro σ g' ⟨rfl, l, c, x, y, hr1, hs1, rfl, hd⟩
    rw [hd, ← h.len, List.drop_length]
    simp [doneF, doneW]
theorem w_things_right {ls : List Nat} {cs : List Lt} {ks : List (Option (Str × Int))} {qs : List PV} {Φ : PV → Rg → Prop} (hr : RawS ls cs) (hs : ls.length ≤ 300) (h : Its ks qs) (hl : qs.length ≤ 900) (hg : g.cnt + 1000 < 1000000000) (hΦ : ∀ g', g.cnt ≤ g'.cnt → g'.cnt ≤ g.cnt + qs.length + 1 → Φ (.bl true) g') : wE (d_law_things_right [.rng, .lst [nv ls, lv cs], stripP ls cs, .lst qs] g) Φ := by
  have a0 : ∀ x y : PV, atI [x, y] 0 = some x := fun _ _ => rfl
  have a1 : ∀ x y : PV, atI [x, y] 1 = some y := fun _ _ => rfl
  have e1 := p_law_done (g := g) hr hs h hl
  have hnd := h.nod (by omega : qs.length ≤ 1000)
  unfold d_law_things_right b_law_things_right
  cases hd : doneF ls cs ks 0 with
  | inl i =>
    rw [hd] at e1
    simp [e1, doneW]
    refine w_loose (n := 8) hnd.1 (by omega) fun q g1 hq c1 c2 => ?_
    obtain ⟨rs, hrs, hq⟩ := h.lo hq
    have hrl : rs.length = qs.length := by rw [← hrs.len, h.len]
    have e2 : ∀ g : Rg, d_law_copy_ 8 [q] g = .ok q g := fun g => copy_id (hrs.gd (by omega) hq)
    have e3 : ∀ g : Rg, d_law_same_ 8 [q, q] g = .ok (.bl true) g := fun g => same_refl (hrs.gd (by omega) hq)
    have e4 := fun g => p_done_no (g := g) hr hs hrs hq hd
    have e5 : ∀ (g : Rg), toldP "told" cl_law_told (.exc "BadSteps" ["index"] [.int (i : Nat)] g) = .ok (.lst [.str "steps", .int (i : Nat)]) g := fun g => rfl
    have e6 : good 8 (.lst [.str "steps", .int (i : Nat)]) := by
      have h2 : 2 ≤ qsz := small_q (by decide)
      have h4 : PyData.strOk "steps" = true := by decide +kernel
      simp [good, h2, h4]
    have e7 : ∀ g, d_law_same_ 8 [.lst [.str "steps", .int (i : Nat)], .lst [.str "steps", .int (i : Nat)]] g = .ok (.bl true) g := fun g => same_refl e6
    simp [e2, e3, e4, e5, e7]
    exact hΦ _ c1 (by omega)
  | inr x =>
    obtain ⟨l, c⟩ := x
    rw [hd] at e1
    have hx := doneF_raw hr hd
    simp [e1, doneW]
    refine w_loose (n := 8) hnd.1 (by omega) fun q g1 hq c1 c2 => ?_
    obtain ⟨rs, hrs, hq⟩ := h.lo hq
    have hrl : rs.length = qs.length := by rw [← hrs.len, h.len]
    have e2 : ∀ g : Rg, d_law_copy_ 8 [q] g = .ok q g := fun g => copy_id (hrs.gd (by omega) hq)
    have e3 : ∀ g : Rg, d_law_same_ 8 [q, q] g = .ok (.bl true) g := fun g => same_refl (hrs.gd (by omega) hq)
    have e4 := fun g => p_done_ok (g := g) hr hs hrs hq hd
    have e5 : ∀ (g : Rg), toldP "told" cl_law_told (.ok (stripP l c) g) = .ok (.lst [.str "told", stripP l c]) g := fun g => rfl
    have e6 : pEqB (.str "told") (.str "told") = some true := by decide +kernel
    have hlen := hx.1.len
    have e7 : ∀ g : Rg, d_law_same_ 8 [.lst [nv l, lv c], .lst [nv l, lv c]] g = .ok (.bl true) g := fun g => same_refl (good_raw (n := 5) l c (by simp at hx; omega) (by simp at hx hlen; omega))
    have e8 : isInP "Strip" (.ins "Strip" nStrip [nv l, lv c]) = some true := rfl
    simp [e2, e3, e4, e5, a0, a1, e6]
    simp [stripP, e8, p_lengths, p_creases, e7]
    exact hΦ _ c1 (by omega)
theorem w_law_down {ls : List Nat} {cs : List Lt} {Φ : PV → Rg → Prop} (hr : RawS ls cs) (hs : ls.length ≤ 300) (hg : g.cnt + 1000 < 1000000000) (hΦ : ∀ (xs : List (Bool × Nat)) (l : List Nat) (c : List Lt) (g' : Rg), xs.length ≤ ls.length → g.cnt ≤ g'.cnt → g'.cnt ≤ g.cnt + ls.length → Φ (.tup [.lst (xs.map stV), .lst [nv l, lv c]]) g') : wE (d_law_down [.rng, .lst [nv ls, lv cs]] g) Φ := by
  unfold d_law_down b_law_down
  simp
  refine wS_while (fun n σ g' => ∃ xs l c, σ = [some .rng, some (.lst [nv l, lv c]), some (.lst (xs.map stV))] ∧ RawS l c ∧ l.length = n ∧ xs.length + n ≤ ls.length ∧ g.cnt ≤ g'.cnt ∧ g'.cnt ≤ g.cnt + xs.length) ls.length (by omega) ⟨[], ls, cs, rfl, hr, rfl, by simp, by omega, by omega⟩ ?_
  rintro n σ g1 ⟨xs, l, c, rfl, hr1, rfl, hn, c1, c2⟩
  have e1 := fun g => p_law_steps (g := g) hr1.ne hr1.len (by omega : l.length ≤ 300)
  have hst := stepsL_len l c
  have e2 : pNeB (.lst ((stepsL l c).map stV)) (.lst []) = some (!decide (stepsL l c = [])) := by
    have e1 : toDs ((stepsL l c).map stV) = some ((stepsL l c).map fun x => .tuple [.str (wd x.1), .int (x.2 : Nat)]) := toDs_map stV _ (fun x => by simp [toD, toDs, stV_wd]) _
    have e2 : SeqAt.shaped (.list ((stepsL l c).map fun x => PyData.tuple [.str (wd x.1), .int (x.2 : Nat)])) = true := by
      have h1 := canLay_map (fun x : Bool × Nat => PyData.tuple [.str (wd x.1), .int (x.2 : Nat)]) (fun x => by simp [PyData.canLay0, PyData.canLayAll0, wd_ok]) (stepsL l c)
      have h2 := depth_map (fun x : Bool × Nat => PyData.tuple [.str (wd x.1), .int (x.2 : Nat)]) 1 (fun _ => by simp [PyData.depth, PyData.depthAll]) (stepsL l c)
      simp only [SeqAt.shaped, PyData.canLay0, h1, PyData.depth, Bool.true_and]
      exact decide_eq_true (by omega)
    have e3 : SeqAt.shaped (.list []) = true := by decide +kernel
    simp only [pNeB, pEqB, toD, toDs, e1, Option.map_some, e2, e3, and_self, if_true]
    congr 1
    cases stepsL l c <;> simp [PyData.eqv, PyData.eqvAll]
  simp [e1, e2]
  by_cases he : stepsL l c = []
  · rw [if_pos he]
    exact hΦ xs l c g1 (by omega) c1 (by omega)
  · rw [if_neg he]
    refine w_one (by simpa using he) (by simp; omega) (by omega) fun y g2 hy hc => ?_
    obtain ⟨x, hx, rfl⟩ := List.mem_map.mp hy
    have e3 := fun g => p_law_after (g := g) hr1.len (by omega : l.length ≤ 300) hx
    have e4 : atI (xs.map stV ++ [stV x]) (-1) = some (stV x) := by
      have : ixN (xs.map stV ++ [stV x]).length (-1) = some xs.length := by unfold ixN; simp; omega
      unfold atI; rw [this]; simp
    have hz : xs.length < qsz := lt_q' (by omega)
    have hlt := aftL_len hx
    simp [e3, e4, hz]
    exact ⟨(aftL l x).length, hlt, xs ++ [x], _, _, ⟨⟨rfl, rfl⟩, by simp⟩, aft_raw hr1 hx, rfl, by simp; omega, by omega, by simp; omega⟩
theorem its_sts (xs : List (Bool × Nat)) : Its (xs.map fun x => some (wd x.1, (x.2 : Int))) (xs.map stV) := by
  refine ⟨by simp, fun i k q hk hq => ?_⟩
  rw [List.getElem?_map] at hk hq
  cases e : xs[i]? with
  | none => rw [e] at hk; cases hk
  | some x => rw [e] at hk hq; cases hk; cases hq; exact itm_st x
theorem Its.app {ks ms : List (Option (Str × Int))} {qs rs : List PV} (h : Its ks qs) (h' : Its ms rs) : Its (ks ++ ms) (qs ++ rs) := by
  refine ⟨by simp [h.len, h'.len], fun i k q hk hq => ?_⟩
  by_cases hi : i < ks.length
  · rw [List.getElem?_append_left hi] at hk
    rw [List.getElem?_append_left (by rw [← h.len]; exact hi)] at hq
    exact h.at_ i k q hk hq
  · rw [List.getElem?_append_right (by omega)] at hk
    rw [List.getElem?_append_right (by rw [← h.len]; omega), ← h.len] at hq
    exact h'.at_ _ k q hk hq
theorem Its.one {k : Option (Str × Int)} {q : PV} (h : Itm k q) : Its [k] [q] := by
  refine ⟨rfl, fun i k' q' hk hq => ?_⟩
  match i, hk, hq with
  | 0, hk, hq => cases hk; cases hq; exact h
  | i + 1, hk, hq => simp at hk
def Thing (p : PV) : Prop := ∃ ks qs, p = .lst qs ∧ Its ks qs ∧ qs.length ≤ 30
theorem thing_sts (xs : List (Bool × Nat)) (h : xs.length ≤ 30) : Thing (.lst (xs.map stV)) := ⟨_, _, rfl, its_sts xs, by simpa using h⟩
theorem need_odd3 {q : PV} (h : isInP "Strip" q = some false) (p : PV) : d_done [q, p] g = .exc "BadStrip" ["strip"] [q] g := by simp [d_done, b_done, need_odd h]
theorem law_plain (ns : List Int) (_ : ns.length ≤ 63) : ∃ g2, b_law (lawP 12) ⟨ns, 0, 0, 29⟩ = .ret (.bl true) g2 := by
  have key : wS (b_law (lawP 12) ⟨ns, 0, 0, 29⟩) (fun _ _ => False) (fun p _ => p = .bl true) := by
    unfold b_law
    refine wS_cut (fun σ g => (∃ a b c d e f i j k l, σ = [none, some .rng, a, b, c, d, e, f, i, j, k, l])) ?_ ?_
    · simp [lawP]
      refine wS_rng (fun t σ g => (∃ a b c d e f i j k l, σ = [none, some .rng, a, b, c, d, e, f, i, j, k, l]) ∧ g.cnt ≤ 2000 * t) ?_ ?_ ?_
      · exact ⟨⟨_, _, _, _, _, _, _, _, _, _, rfl⟩, by simp⟩
      · rintro t σ g ht ⟨⟨a, b, c, d, e, f, i, j, k, l, rfl⟩, hg⟩
        refine wS_cut (fun σ g1 => (∃ ls cs, RawS ls cs ∧ ls.length ≤ 10 ∧ σ = [none, some .rng, some (.int t), some (.lst [nv ls, lv cs]), c, d, e, f, i, j, k, l]) ∧ g1.cnt ≤ 2000 * t + 60) ?_ ?_
        · simp
          refine w_one (by simp) (by simp) (by omega) fun x g1 hx h1 => ?_
          obtain ⟨mm, rfl, hm1, hm2⟩ : ∃ m : Nat, x = .int (m : Nat) ∧ 1 ≤ m ∧ m ≤ 10 := by
            simp at hx
            rcases hx with rfl | rfl | rfl
            · exact ⟨4, rfl, by omega⟩
            · exact ⟨7, rfl, by omega⟩
            · exact ⟨10, rfl, by omega⟩
          simp
          refine w_one (by simp) (by simp) (by omega) fun x g2 hx h2 => ?_
          obtain ⟨w, rfl, hw1⟩ : ∃ m : Nat, x = .int (m : Nat) ∧ m ≤ 3 := by
            simp at hx
            rcases hx with rfl | rfl
            · exact ⟨0, rfl, by omega⟩
            · exact ⟨3, rfl, by omega⟩
          simp
          refine w_draw_strip (by omega) (by omega) (by omega) (by omega) (by omega) (by omega) fun ls cs g3 hr c1 c2 _ _ c3 c4 => ?_
          simp
          exact ⟨⟨ls, cs, hr, by omega, rfl, rfl⟩, by omega⟩
        rintro σ g1 ⟨⟨ls, cs, hr, hl, rfl⟩, hg1⟩
        have hlen := hr.len
        have e1 := fun g => p_strip_of (g := g) hr.ne hr.pos hr.len
        refine wS_cut (fun σ g2 => g2 = g1 ∧ σ = [none, some .rng, some (.int t), some (.lst [nv ls, lv cs]), some (stripP ls cs), d, e, f, i, j, k, l]) ?_ ?_
        · simp [e1]
        rintro σ g2 ⟨rfl, rfl⟩
        refine wS_cut (fun σ g3 => (∃ (xs : List (Bool × Nat)) (e : Option PV), xs.length ≤ 10 ∧ σ = [none, some .rng, some (.int t), some (.lst [nv ls, lv cs]), some (stripP ls cs), some (.lst (xs.map stV)), e, f, i, j, k, l]) ∧ g3.cnt ≤ 2000 * t + 70) ?_ ?_
        · simp
          refine w_law_down hr (by omega) (by omega) fun xs l' c' g3 hx c1 c2 => ?_
          simp
          exact ⟨⟨xs, by omega, rfl⟩, by omega⟩
        rintro σ g3 ⟨⟨xs, e, hx, rfl⟩, hg3⟩
        refine wS_cut (fun σ g4 => (∃ L : List PV, (∀ p ∈ L, Thing p) ∧ L.length ≤ 6 ∧ σ = [none, some .rng, some (.int t), some (.lst [nv ls, lv cs]), some (stripP ls cs), some (.lst (xs.map stV)), e, some (.lst L), i, j, k, l]) ∧ g4.cnt ≤ 2000 * t + 90) ?_ ?_
        · have h3 : ∀ n, n ≤ 30 → n ≤ qsz := fun n h => small_q (by omega)
          have c1 : cutL (xs.map stV) none (some 1) = (xs.take 1).map stV := by
            rw [show (1 : Int) = ((1 : Nat) : Int) from rfl, cut_toN]; simp
          simp
          refine w_pick (by omega) (by omega) (by omega) fun z g4 hz hc4 => ?_
          have c2 : cutL (xs.map stV) none (some (z : Int)) = (xs.take z).map stV := by rw [cut_toN]; simp
          simp [c1, c2]
          refine ⟨h3 _ (by omega), h3 _ (by omega), ?_⟩
          refine w_mixed (by simp; omega) (by simp; omega) fun mm g5 hp hc => ?_
          obtain ⟨s, hs, rfl⟩ := perm_map_of hp xs rfl
          have hsl := hs.length_eq
          simp at hc ⊢
          have q1 := thing_sts xs (by omega)
          have q2 := thing_sts (xs.take z) (by simp; omega)
          have q3 : Thing (.lst []) := thing_sts [] (by simp)
          have q4 : Thing (.lst (xs.map stV ++ [.tup [.str "end", .int 0]])) := ⟨_, _, rfl, (its_sts xs).app (.one (.pair "end" (.inr (.inl rfl)) 0 _ (.inr rfl))), by simp; omega⟩
          have q5 : Thing (.lst (xs.map stV ++ (xs.take 1).map stV)) := ⟨_, _, rfl, (its_sts xs).app (its_sts (xs.take 1)), by simp; omega⟩
          have q6 := thing_sts s (by omega)
          simp only [List.map_take] at q2 q5
          exact ⟨⟨q1, q2, q3, q4, q5, q6⟩, by omega⟩
        rintro σ g4 ⟨⟨L, hL, hLl, rfl⟩, hg4⟩
        refine wS_cut (fun σ g5 => (∃ (L : List PV) (i l : Option PV), (∀ p ∈ L, Thing p) ∧ L.length ≤ 10 ∧ σ = [none, some .rng, some (.int t), some (.lst [nv ls, lv cs]), some (stripP ls cs), some (.lst (xs.map stV)), e, some (.lst L), i, j, k, l]) ∧ g5.cnt ≤ 2000 * t + 110) ?_ ?_
        · simp
          refine wS_rng (fun u σ g => (∃ (L : List PV) (i l : Option PV), (∀ p ∈ L, Thing p) ∧ L.length ≤ 6 + u ∧ σ = [none, some .rng, some (.int t), some (.lst [nv ls, lv cs]), some (stripP ls cs), some (.lst (xs.map stV)), e, some (.lst L), i, j, k, l]) ∧ g.cnt ≤ 2000 * t + 90 + 2 * u) ?_ ?_ ?_
          · exact ⟨⟨L, _, _, hL, by omega, rfl⟩, by omega⟩
          · rintro u σ g5 hu ⟨⟨L, i, l, hL, hLl, rfl⟩, hg5⟩
            have h3 : ∀ n, n ≤ 30 → n ≤ qsz := fun n h => small_q (by omega)
            have hz : L.length < qsz := lt_q' (by omega)
            have e2 := fun g => p_law_odd_steps (g := g) hr.ne hr.len (by omega : ls.length ≤ 200)
            have hol := oddTo_len ls cs (ls.length + 1)
            simp
            refine w_pick (by omega) (by omega) (by omega) fun z g6 hz6 hc6 => ?_
            have c2 : cutL (xs.map stV) none (some (z : Int)) = (xs.take z).map stV := by rw [cut_toN]; simp
            have c3 : cutL (xs.map stV) (some (z : Int)) none = (xs.drop z).map stV := by rw [cut_fromN]; simp
            simp [e2, c2, c3]
            refine w_one (by simp [oddV, oddTo, oddF]) (by unfold oddV; omega) (by omega) fun y g7 hy hc7 => ?_
            obtain ⟨kk, hk⟩ := itm_odd hy
            have ht : Thing (.lst ((xs.take z).map stV ++ [y] ++ (xs.drop z).map stV)) := ⟨_, _, rfl, ((its_sts (xs.take z)).app (.one hk)).app (its_sts (xs.drop z)), by simp; omega⟩
            simp only [List.map_take, List.map_drop, List.append_assoc, List.singleton_append] at ht
            simp [c3]
            refine ⟨h3 _ (by omega), h3 _ (by omega), hz, ⟨fun p hp => ?_, by omega⟩, by omega⟩
            rcases hp with hp | rfl
            · exact hL p hp
            · simpa using ht
          · rintro σ g5 ⟨⟨L, i, l, hL, hLl, rfl⟩, hg5⟩
            exact ⟨⟨L, hL, by omega, _, _, rfl⟩, by omega⟩
        rintro σ g5 ⟨⟨L, i, l, hL, hLl, rfl⟩, hg5⟩
        refine wS_cut (fun σ g6 => (∃ j, σ = [none, some .rng, some (.int t), some (.lst [nv ls, lv cs]), some (stripP ls cs), some (.lst (xs.map stV)), e, some (.lst L), i, j, k, l]) ∧ g6.cnt ≤ 2000 * t + 110 + 40 * L.length) ?_ ?_
        · simp
          refine wS_loopI (fun u σ g => (∃ j, σ = [none, some .rng, some (.int t), some (.lst [nv ls, lv cs]), some (stripP ls cs), some (.lst (xs.map stV)), e, some (.lst L), i, j, k, l]) ∧ g.cnt ≤ 2000 * t + 110 + 40 * u) ?_ ?_ ?_
          · exact ⟨⟨_, rfl⟩, by omega⟩
          · rintro u p σ g6 hu ⟨⟨j, rfl⟩, hg6⟩
            have hu2 := (List.getElem?_eq_some_iff.mp hu).1
            obtain ⟨ks, qs, rfl, hq, hql⟩ := hL p (List.mem_of_getElem? hu)
            simp
            refine w_things_right hr (by omega) hq (by omega) (by omega) fun g7 c1 c2 => ?_
            simp
            omega
          · rintro σ g6 ⟨⟨j, rfl⟩, hg6⟩
            exact ⟨⟨_, rfl⟩, hg6⟩
        rintro σ g6 ⟨⟨j, rfl⟩, hg6⟩
        have h40 : 40 * L.length ≤ 400 := by omega
        simp
        refine wS_loopI (fun u σ g => (∃ k, σ = [none, some .rng, some (.int t), some (.lst [nv ls, lv cs]), some (stripP ls cs), some (.lst (xs.map stV)), e, some (.lst L), i, j, k, l]) ∧ g.cnt ≤ 2000 * t + 600) ?_ ?_ ?_
        · exact ⟨⟨_, rfl⟩, by omega⟩
        · rintro u q σ g9 hu ⟨⟨b, rfl⟩, hg9⟩
          have hq := List.mem_of_getElem? hu
          simp only [List.mem_cons, List.not_mem_nil, or_false] at hq
          have hin : isInP "Strip" q = some false := by rcases hq with rfl | rfl | rfl | rfl | rfl <;> rfl
          have h4 : 0 < qsz := lt_q' (by decide)
          have hgd : good 7 q := by
            rcases hq with rfl | rfl | rfl | rfl | rfl <;> (simp [good, h4]) <;> decide +kernel
          have hgd8 : good 8 q := by
            rcases hq with rfl | rfl | rfl | rfl | rfl <;> (simp [good, h4]) <;> decide +kernel
          have e2 : ∀ (g : Rg), toldP "told" cl_law_told (.exc "BadStrip" ["strip"] [q] g) = .ok (.lst [.str "strip", q]) g := fun g => rfl
          have e3 : ∀ (g : Rg), toldP "told" cl_law_told (.exc "BadSteps" ["index"] [.int 0] g) = .ok (.lst [.str "steps", .int 0]) g := fun g => rfl
          have e4 : ∀ (g : Rg) (p : PV), d_done [q, p] g = .exc "BadStrip" ["strip"] [q] g := fun g p => need_odd3 hin p
          have e5 : ∀ (g : Rg), d_done [stripP ls cs, q] g = .exc "BadSteps" ["index"] [.int 0] g := fun g => by
            have e4 : d_need_strip [.ins "Strip" nStrip [nv ls, lv cs]] g = .ok .non g := p_need_strip ls cs
            have e6 : d_parts_done [nv ls, lv cs, q] g = .ok (.tup [.non, .non, .int 0]) g := by
              apply wE_is
              unfold d_parts_done b_parts_done
              rcases hq with rfl | rfl | rfl | rfl | rfl <;> simp [d_is_list, b_is_list]
            have e5 : gdTupA 3 (gdCons (gdName 2) (gdCons (gdName 3) (gdCons (gdName 4) gdNil))) (PV.tup [.non, .non, .int 0]) [some (.ins "Strip" nStrip [nv ls, lv cs]), some q, none, none, none] = some [some (.ins "Strip" nStrip [nv ls, lv cs]), some q, some .non, some .non, some (.int 0)] := rfl
            simp [d_done, b_done, stripP, e4, p_lengths, p_creases, e6, e5]
          have e6 : ∀ g : Rg, d_law_copy_ 8 [q] g = .ok q g := fun g => copy_id hgd8
          have e7 : good 8 (.lst [.str "strip", q]) := by
            have h2 : 2 ≤ qsz := small_q (by decide)
            have h4 : PyData.strOk "strip" = true := by decide +kernel
            simp [good, h2, h4]
            exact hgd
          have e8 : ∀ g, d_law_same_ 8 [.lst [.str "strip", q], .lst [.str "strip", q]] g = .ok (.bl true) g := fun g => same_refl e7
          have e9 : good 8 (.lst [.str "steps", .int 0]) := by
            have h2 : 2 ≤ qsz := small_q (by decide)
            have h4 : PyData.strOk "steps" = true := by decide +kernel
            simp [good, h2, h4]
          have f1 : ∀ g, d_law_same_ 8 [.lst [.str "steps", .int 0], .lst [.str "steps", .int 0]] g = .ok (.bl true) g := fun g => same_refl e9
          simp [e2, e3, e4, e5, e6, e8, f1]
          exact hg9
        · rintro σ g9 ⟨⟨b, rfl⟩, hg9⟩
          refine ⟨⟨_, _, _, _, _, _, _, _, _, _, rfl⟩, by omega⟩
      · rintro σ g ⟨h, hg⟩
        exact h
    · rintro σ g ⟨a, b, c, d, e, f, i, j, k, l, rfl⟩
      simp
  cases h : b_law (lawP 12) ⟨ns, 0, 0, 29⟩ with
  | ret p g => rw [h] at key; exact ⟨g, by rw [show p = .bl true from key]⟩
  | _ => rw [h] at key; exact key.elim
end
end Tr

namespace Tr
open PySem PySem.Spec PyProof.Rows L2
def top (i : Nat) : Stmt := PySem.Challenge.pw_foldflat_k15_steps_one_after_another.main.body.getD i (.Pass ⟨0, 0, 0, 0⟩)
def inClass (st : Stmt) (i : Nat) : Stmt := match st with
  | .ClassDef _ _ _ body _ _ _ _ _ _ _ => body.getD i (.Pass ⟨0, 0, 0, 0⟩)
  | _ => .Pass ⟨0, 0, 0, 0⟩
abbrev s_law_pick : Stmt := top 39
theorem sc_law_pick : FnScope ["state", "many", "cell", "digit", "mixed"] ["state", "many"] (defScope s_law_pick) := ⟨rfl, rfl, rfl, by decide +kernel, rfl, by decide +kernel, by decide +kernel⟩
section
variable {P : Program} {w : World} {K : PySem.W.Frag} {mg : Str → Option Value} {base : Heap}
theorem ok_pick {f : Addr} {fd : FuncData} (F : Fun K "_law_pick" "_law_pick" s_law_pick f fd) (hm : mg "_law_pick" = some (.ref f)) (hb : Binds K fd ["state", "many"] []) (bAbs : mg "abs" = none) (bInt : mg "int" = none) :
    FOk P w K mg base "_law_pick" 2 1 .rep dPick := by
  refine ⟨f, fd, _, hm, F.kp, hb, rfl, ?_⟩
  refine F.okX sc_law_pick (fun vs H Q E h => h.1) fun cdv A outer s H vs Q E hr h => ?_
  obtain ⟨hl, ρ, B, ps, g, St, rp, p⟩ := h
  have nd := sc_law_pick.nd
  -- what is handed
  obtain ⟨n, rfl, hn⟩ : ∃ n, ps = [.rng, .int n] ∧ (0 < n ∧ n < 1000000 ∧ g.cnt < 1000000000) := by
    unfold dPick at p
    split at p
    · rename_i n
      refine ⟨n, rfl, ?_⟩
      by_cases h : 0 < n ∧ n < 1000000 ∧ g.cnt < 1000000000
      · exact h
      · rw [if_neg h] at p; exact p.elim
    · exact p.elim
  have p : PstD ⟨K, mg, ρ, B⟩ H .rep (.ok (.int (pickR g n)) (pickG g n)) Q E := by
    have e : dPick [.rng, .int n] g = .ok (.int (pickR g n)) (pickG g n) := if_pos hn
    rw [e] at p
    exact p
  obtain ⟨v, r, rfl, ⟨⟨p0, q0⟩, hρ, rfl⟩, u, r', rfl, hu, hr'⟩ := rp
  have hu : u = .int n := hu
  have hr' : r' = [] := hr'
  subst hu hr'
  have hρ : ρ.rg = some (p0, q0) := hρ
  obtain ⟨hne, gok, hp, hq⟩ := St.rg.dr (p0, q0) hρ
  have hne : p0 ≠ q0 := hne
  obtain ⟨g1, g2, g3, g4, g5⟩ := gok
  have I0 : pickI p0 q0 H H g.cells g.cur g.cnt g.mix := ⟨hp, hq, fun b o e _ _ => e⟩
  have hR : ∃ tR, PSs (cxOf (L2.CX P w) P w K mg base ["state", "many", "cell", "digit", "mixed"] "_law_pick" (defScope s_law_pick) f cdv A outer s H E) ((defBody s_law_pick).drop 2) tR ∧
      ∀ (H3 : Hp) (x : Option V) (cells : List Int) (cur mix : Int), pickI p0 q0 H H3 cells cur (g.cnt + 1) mix → 0 ≤ cur → 0 ≤ mix → mix < 2147483647 → cells.length ≤ 63 → drain g.cells g.cur g.mix = (cells, cur, mix) → tR { nx := fun _ H' => Q .non H', rt := Q } [some (.ref p0), some (.int n), x, none, none] H3 := by
    refine ⟨_, (pss_cons (ps_if (pt_cmpR op_gt (pe_ix ix_list (pv 0) pe_int (fun _ _ => rfl)) pe_int (nomark _))
      (pss_cons (ps_set (i := 3) nd rfl (Or.inl rfl) (pe_op op_mod (pe_callTy call_int1 (by rfl) bInt (by decide +kernel) (pa_cons (pe_ix ix_list (pv 0) pe_int (fun _ _ => rfl)) pa_nil)) (pv 1)))
      (pss_cons (ps_asg (pe_op op_fdivN (pe_ix ix_list (pv 0) pe_int (fun _ _ => rfl)) (pv 1)) (pg_sub (pv 0) pe_int set_list))
      (pss_one (ps_ret (pv 3))))) pss_nil)
    (pss_cons (ps_set (i := 4) nd rfl (Or.inl rfl) (pe_op op_mod (pe_callTy call_int1 (by rfl) bInt (by decide +kernel) (pa_cons (pe_op op_pow (pe_op op_add (pe_op op_add (pe_ix ix_list (pv 0) pe_int (fun _ _ => rfl)) (pe_op op_mul pe_int (pe_ix ix_list (pv 0) pe_int (fun _ _ => rfl)))) pe_int) pe_int) pa_nil)) pe_int))
    (pss_one (ps_ret (pe_op op_mod (pe_op op_mod (pe_callTy call_int1 (by rfl) bInt (by decide +kernel) (pa_cons (pe_op op_pow (pe_op op_add (pe_op op_add (pe_op op_mul (pv 4) pe_int) (pe_op op_mul pe_int (pe_ix ix_list (pv 0) pe_int (fun _ _ => rfl)))) pe_int) pe_int) pa_nil)) pe_int) (pv 1)))))), ?_⟩
    intro H3 x cells cur mix I3 c1 c3 c4 c5 hd
    have fin : ∀ (r : Int) (g' : Rg) (H4 : Hp), r = pickR g n → g' = pickG g n → pickI p0 q0 H H4 g'.cells g'.cur g'.cnt g'.mix → g'.Ok → Q (.int r) H4 := by
      rintro r g' H4 rfl rfl I4 ok
      refine p _ H4 (fun b o e nr => I4.2.2 b o e (fun z => nr (.inl ⟨(p0, q0), hρ, .inl z⟩)) (fun z => nr (.inl ⟨(p0, q0), hρ, .inr z⟩))) ⟨fun pq hpq => ?_, ?_⟩ rfl
      · have hpq : ρ.rg = some pq := hpq
        rw [hρ] at hpq
        cases hpq
        exact ⟨hne, ok, I4.1, I4.2.1⟩
      · exact St.rg.tb.keep fun b o e n => I4.2.2 b o e (fun z => by rw [z, show H p0 = _ from hp] at e; cases e; exact n trivial) (fun z => by rw [z, show H q0 = _ from hq] at e; cases e; exact n trivial)
    refine ⟨_, rfl, p0, _, 1, _, rfl, rfl, .of I3.1, rfl, _, _, rfl, rfl, _, rfl, ?_⟩
    by_cases hc : 0 < cur
    · have e : decide (0 < cur) = true := by simp [hc]
      rw [e]
      refine iteT ?_
      refine ⟨_, rfl, p0, _, 1, _, rfl, rfl, .of I3.1, rfl, .inl ⟨cur, rfl, _, rfl, _, _, rfl, rfl, hn.1, ?_⟩⟩
      refine ⟨_, rfl, p0, _, 1, _, rfl, rfl, .of I3.1, rfl, _, rfl, _, _, rfl, rfl, ⟨by omega, by omega⟩, _, rfl, p0, _, 1, 1, rfl, rfl, I3.1, rfl, _, rfl, ?_⟩
      have I4 : pickI p0 q0 H _ cells (cur.fdiv n) (g.cnt + 1) mix := I3.setP (cur' := cur.fdiv n) (cnt' := g.cnt + 1) (mix' := mix) hne (xs := _) rfl
      have hq : 0 ≤ cur / n := Int.ediv_nonneg c1 (by omega)
      refine fin (cur % n) ⟨cells, cur / n, g.cnt + 1, mix⟩ _ ?_ ?_ (by rw [← fdiv_pos hn.1]; exact I4) ⟨hq, by show 0 ≤ g.cnt + 1; omega, c3, c4, c5⟩
      · unfold pickR; rw [hd]; simp [hc]
      · unfold pickG; rw [hd]; simp [hc]
    · have e : decide (0 < cur) = false := by simp [hc]
      rw [e]
      refine iteF ?_
      have hcnt : 0 ≤ g.cnt + 1 := by omega
      have b1 : (mix + 7907 * (g.cnt + 1) + 104723).natAbs < 2 ^ 64 := by omega
      refine ⟨_, rfl, p0, _, 3, _, rfl, rfl, .of I3.1, rfl, _, rfl, p0, _, 2, _, rfl, rfl, .of I3.1, rfl, _, _, rfl, rfl, .inl ⟨by decide, by decide⟩, _, _, rfl, rfl, _, _, rfl, rfl, _, _, rfl, rfl, ⟨by decide, by decide, b1⟩, .inl ⟨_, rfl, _, _, rfl, rfl, by show (0 : Int) < 2147483629; decide, ?_⟩⟩
      have em : (mix + 7907 * (g.cnt + 1) + 104723) ^ (5 : Int).toNat % 2147483629 = mixed mix (g.cnt + 1) := rfl
      have m1 : 0 ≤ mixed mix (g.cnt + 1) := Int.emod_nonneg _ (by decide)
      have m2 : mixed mix (g.cnt + 1) < 2147483629 := Int.emod_lt_of_pos _ (by decide)
      have b2 : (mixed mix (g.cnt + 1) * 48271 + 30011 * (g.cnt + 1) + 31).natAbs < 2 ^ 64 := by omega
      refine ⟨_, rfl, _, _, rfl, rfl, .inr ⟨by decide, by decide⟩, _, rfl, p0, _, 2, _, rfl, rfl, .of I3.1, rfl, _, _, rfl, rfl, .inl ⟨by decide, by decide⟩, _, _, rfl, rfl, _, _, rfl, rfl, _, _, rfl, rfl, ⟨by decide, by decide, b2⟩, .inl ⟨_, rfl, _, _, rfl, rfl, by show (0 : Int) < 1000000007; decide, _, rfl, _, _, rfl, rfl, hn.1, ?_⟩⟩
      refine fin _ ⟨cells, cur, g.cnt + 1, mix⟩ _ ?_ ?_ I3 ⟨c1, hcnt, c3, c4, c5⟩
      · unfold pickR; rw [hd]; simp only [gt_iff_lt, if_neg hc]; rfl
      · unfold pickG; rw [hd]; simp [hc]
  -- the state's element at i
  refine ⟨_, pss_cons (ps_asg (pe_op op_add (pe_ix ix_list (pv 0) pe_int (fun _ _ => rfl)) pe_int) (pg_sub (pv 0) pe_int set_list))
    (pss_cons (ps_while (passes_of rfl) (PW.pt (pw_and (pt_cmpR op_eq (pe_ix ix_list (pv 0) pe_int (fun _ _ => rfl)) pe_int (nomark _)) (pw_and1 (pt_cmpR (op_neD hr.units) (pe_ix ix_list (pv 0) pe_int (fun _ _ => rfl)) (pe_lst pa_nil) (nomark _)))))
      (pss_cons (ps_set (i := 2) nd rfl (Or.inl rfl) (pe_callB call_abs (by rfl) bAbs (by decide +kernel) (pa_cons (pe_bm PySem.F.plainAttrs_list PySem.F.slot_list_pop PySem.F.type_list_pop mt_popAt (pe_ix ix_list (pv 0) pe_int (fun _ _ => rfl)) (pa_cons pe_int pa_nil)) pa_nil)))
      (pss_cons (ps_asg (pe_op op_mod (pe_callTy call_int1 (by rfl) bInt (by decide +kernel) (pa_cons (pe_op op_add (pe_op op_add (pe_op op_mul (pe_ix ix_list (pv 0) pe_int (fun _ _ => rfl)) pe_int) (pv 2)) pe_int) pa_nil)) pe_int) (pg_sub (pv 0) pe_int set_list))
      (pss_one (ps_asg (pe_ifExp (pt_cmpR op_ge (pv 2) (pe_op op_pow pe_int pe_int) (nomark _)) (pv 2) pe_int) (pg_sub (pv 0) pe_int set_list))))))
    hR.choose_spec.1), ?_⟩
  -- state[2] = state[2] + 1
  refine ⟨_, rfl, p0, _, 2, _, rfl, rfl, .of hp, rfl, _, _, rfl, rfl, _, rfl, p0, _, 2, 2, rfl, rfl, hp, rfl, ?_⟩
  have I1 : pickI p0 q0 H _ g.cells g.cur (g.cnt + 1) g.mix := I0.setP (cur' := g.cur) (cnt' := g.cnt + 1) (mix' := g.mix) hne (xs := _) rfl
  -- the cells
  refine ⟨fun m σ H' => ∃ (cells : List Int) (cur mix : Int) (x : Option V), m = cells.length ∧ σ = [some (.ref p0), some (.int n), x, none, none] ∧ pickI p0 q0 H H' cells cur (g.cnt + 1) mix ∧ 0 ≤ cur ∧ 0 ≤ mix ∧ mix < 2147483647 ∧ cells.length ≤ 63 ∧ drain cells cur mix = drain g.cells g.cur g.mix,
    ⟨_, g.cells, g.cur, g.mix, none, rfl, rfl, I1, g1, g3, g4, g5, rfl⟩, ?_⟩
  rintro m σ H2 ⟨cells, cur, mix, x, rfl, rfl, I2, c1, c3, c4, c5, hd⟩
  refine ⟨_, rfl, p0, _, 1, _, rfl, rfl, .of I2.1, rfl, rfl, _, rfl, ?_⟩
  by_cases hc0 : cur = 0
  · -- no digits: are there cells?
    subst hc0
    refine iteT ?_
    refine ⟨_, rfl, p0, _, 0, _, rfl, rfl, .of I2.1, rfl, by show 0 ≤ sizeLine; decide, fun z hz => ?_⟩
    have I3 := I2.new (o := .lst []) hz
    refine ⟨.list (cells.map .int), .list [], .lst (.of I3.2.1) (dp_ints cells), .lst (.of upd_same) .nil, shaped_ints cells, by decide, _, rfl, ?_⟩
    rw [eqv_nil]
    cases cells with
    | nil =>
      refine iteF ?_
      exact hR.choose_spec.2 _ x [] 0 mix I3 (Int.le_refl 0) c3 c4 c5 hd.symm
    | cons c r =>
      refine iteT ?_
      refine ⟨fun σ' H' => ∃ m', m' < r.length + 1 ∧ ∃ (cells : List Int) (cur mix : Int) (x : Option V), m' = cells.length ∧ σ' = [some (.ref p0), some (.int n), x, none, none] ∧ pickI p0 q0 H H' cells cur (g.cnt + 1) mix ∧ 0 ≤ cur ∧ 0 ≤ mix ∧ mix < 2147483647 ∧ cells.length ≤ 63 ∧ drain cells cur mix = drain g.cells g.cur g.mix, fun _ _ z => z, ?_⟩
      -- cell = abs(state[0].pop(0))
      refine ⟨_, rfl, p0, _, 0, _, rfl, rfl, .of I3.1, rfl, .inl ⟨rfl, _, .of I3.2.1⟩, q0, _, 0, 0, _, rfl, rfl, I3.2.1, by decide, by decide, (ixN_seq (show ixN (List.map V.int (c :: r)).length 0 = some 0 by simp [ixN])).1, rfl, _, rfl, ?_⟩
      have I4 : pickI p0 q0 H _ r 0 (g.cnt + 1) mix := I3.setQ hne (cells' := r) (xs := _) rfl
      -- state[3] = ..
      have e3 : (mix * 6151 + (if c < 0 then -c else c) + 5) % 2147483647 = (mix * 6151 + iabs c + 5) % 2147483647 := rfl
      refine ⟨_, rfl, p0, _, 3, _, rfl, rfl, .of I4.1, rfl, _, _, rfl, rfl, .inr ⟨by decide, by decide⟩, _, rfl, _, _, rfl, rfl, _, _, rfl, rfl, .inl ⟨_, rfl, _, _, rfl, rfl, by show (0 : Int) < 2147483647; decide, _, rfl, p0, _, 3, 3, rfl, rfl, I4.1, rfl, ?_⟩⟩
      have I5 : pickI p0 q0 H _ r 0 (g.cnt + 1) ((mix * 6151 + iabs c + 5) % 2147483647) := I4.setP (cur' := 0) (cnt' := g.cnt + 1) (mix' := (mix * 6151 + iabs c + 5) % 2147483647) hne (xs := _) rfl
      -- state[1] = ..
      refine ⟨_, rfl, _, _, rfl, rfl, ⟨by decide, by decide, by decide⟩, _, _, rfl, rfl, _, rfl, ?_⟩
      have hia := iabs_nn c
      have fin2 : ∀ (cur' : Int) (H' : Hp), cur' = (if iabs c ≥ 1000000000000000000 then iabs c else 0) → pickI p0 q0 H H' r cur' (g.cnt + 1) ((mix * 6151 + iabs c + 5) % 2147483647) → ∃ m', m' < r.length + 1 ∧ ∃ (cells : List Int) (cur mix : Int) (x : Option V), m' = cells.length ∧ ([some (.ref p0), some (.int n), some (.int (iabs c)), none, none] : L2.St) = [some (.ref p0), some (.int n), x, none, none] ∧ pickI p0 q0 H H' cells cur (g.cnt + 1) mix ∧ 0 ≤ cur ∧ 0 ≤ mix ∧ mix < 2147483647 ∧ cells.length ≤ 63 ∧ drain cells cur mix = drain g.cells g.cur g.mix := by
        rintro cur' H' rfl I6
        exact ⟨r.length, Nat.lt_succ_self _, r, _, _, some (.int (iabs c)), rfl, rfl, I6, by split <;> omega, Int.emod_nonneg _ (by decide), Int.emod_lt_of_pos _ (by decide), by simp at c5; omega, by rw [← hd, drain_step]⟩
      by_cases hb : (10 : Int) ^ (18 : Int).toNat ≤ iabs c
      · have e : decide ((10 : Int) ^ (18 : Int).toNat ≤ (if c < 0 then -c else c)) = true := decide_eq_true hb
        rw [e]
        refine iteT ?_
        refine ⟨_, rfl, _, rfl, p0, _, 1, 1, rfl, rfl, I5.1, rfl, ?_⟩
        exact fin2 _ _ (by rw [if_pos (by simpa using hb)]) (I5.setP (cur' := iabs c) (cnt' := g.cnt + 1) (mix' := (mix * 6151 + iabs c + 5) % 2147483647) hne (xs := _) rfl)
      · have e : decide ((10 : Int) ^ (18 : Int).toNat ≤ (if c < 0 then -c else c)) = false := decide_eq_false hb
        rw [e]
        refine iteF ?_
        refine ⟨_, rfl, p0, _, 1, 1, rfl, rfl, I5.1, rfl, ?_⟩
        exact fin2 _ _ (by rw [if_neg (by simpa using hb)]) (I5.setP (cur' := 0) (cnt' := g.cnt + 1) (mix' := (mix * 6151 + iabs c + 5) % 2147483647) hne (xs := _) rfl)
  · have e : decide (V.int cur = V.int 0) = false := by simp [hc0]
    rw [e]
    refine iteF ?_
    exact hR.choose_spec.2 _ x cells cur mix I2 c1 c3 c4 c5 (by rw [← hd, drain_stop hc0])
end
end Tr

namespace Tr
open PySem PySem.Spec PyProof.Rows L2
section
variable {P : Program} {w : World} {K : PySem.W.Frag} {mg : Str → Option Value} {base : Heap}
abbrev s_law_told : Stmt := top 54
theorem sc_law_told : FnScope ["ask", "e"] ["ask"] (defScope s_law_told) := ⟨rfl, rfl, rfl, by decide +kernel, rfl, by decide +kernel, by decide +kernel⟩
theorem ok_law_told {f : Addr} {od an : Option Addr} {sl : Array (Option Value)} {oc kV dc pm cd ct : Value} (hm : mg "_law_told" = some (.ref f)) (l : K.lookup f = some ⟨oc, od, .func (PySem.W.fnOf "_law_told" "_law_told" (defArgs s_law_told) (defBody s_law_told) (defScope s_law_told) .none kV dc pm an cd ct), sl⟩) (c : PySem.W.codeIn K cd "_law_told" = true) (k : PySem.W.keepIn K (.ref f) = true) (hb : Binds K (PySem.W.fnOf "_law_told" "_law_told" (defArgs s_law_told) (defBody s_law_told) (defScope s_law_told) .none kV dc pm an cd ct) ["ask"] []) {C_BadStrip : Addr} (m_BadStrip : mg "BadStrip" = some (.ref C_BadStrip)) {C_BadRing : Addr} (m_BadRing : mg "BadRing" = some (.ref C_BadRing)) {C_BadOther : Addr} (m_BadOther : mg "BadOther" = some (.ref C_BadOther)) {C_BadOrder : Addr} (m_BadOrder : mg "BadOrder" = some (.ref C_BadOrder)) {C_BadStep : Addr} (m_BadStep : mg "BadStep" = some (.ref C_BadStep)) {C_BadSteps : Addr} (m_BadSteps : mg "BadSteps" = some (.ref C_BadSteps)) {C_BadLock : Addr} (m_BadLock : mg "BadLock" = some (.ref C_BadLock)) {C_NotTold : Addr} (m_NotTold : mg "NotTold" = some (.ref C_NotTold)) {C_BadAnswer : Addr} (m_BadAnswer : mg "BadAnswer" = some (.ref C_BadAnswer)) {C_BadAnswerText : Addr} (m_BadAnswerText : mg "BadAnswerText" = some (.ref C_BadAnswerText)) {C_BadWholeText : Addr} (m_BadWholeText : mg "BadWholeText" = some (.ref C_BadWholeText)) {C_BadCases : Addr} (m_BadCases : mg "BadCases" = some (.ref C_BadCases)) :
    TOk K mg "_law_told" "told" hs_law_told := by
  refine ⟨f, "ask", ["ask", "e"], _, _, _, _, _, _, _, _, _, _, _, _, _, hm, k, l, c, hb, sc_law_told, rfl, .inl rfl, by decide, by decide, fun X q hK hM => ?_⟩
  subst hK hM
  exact toldA_gives (hs := [("BadStrip", "strip", "strip"), ("BadRing", "ring", "ring"), ("BadOther", "other", "other"), ("BadOrder", "order", "order"), ("BadStep", "step", "step"), ("BadSteps", "steps", "index"), ("BadLock", "lock", "lock"), ("NotTold", "not told", "strip"), ("BadAnswer", "answer", "answer"), ("BadAnswerText", "answer text", "line"), ("BadWholeText", "whole text", "line"), ("BadCases", "cases", "rows")]) (i := 1) (n := "e") sc_law_told.nd rfl rfl (by decide) (by decide) (List.forall_mem_cons.mpr ⟨⟨rfl, by decide, C_BadStrip, m_BadStrip⟩, List.forall_mem_cons.mpr ⟨⟨rfl, by decide, C_BadRing, m_BadRing⟩, List.forall_mem_cons.mpr ⟨⟨rfl, by decide, C_BadOther, m_BadOther⟩, List.forall_mem_cons.mpr ⟨⟨rfl, by decide, C_BadOrder, m_BadOrder⟩, List.forall_mem_cons.mpr ⟨⟨rfl, by decide, C_BadStep, m_BadStep⟩, List.forall_mem_cons.mpr ⟨⟨rfl, by decide, C_BadSteps, m_BadSteps⟩, List.forall_mem_cons.mpr ⟨⟨rfl, by decide, C_BadLock, m_BadLock⟩, List.forall_mem_cons.mpr ⟨⟨rfl, by decide, C_NotTold, m_NotTold⟩, List.forall_mem_cons.mpr ⟨⟨rfl, by decide, C_BadAnswer, m_BadAnswer⟩, List.forall_mem_cons.mpr ⟨⟨rfl, by decide, C_BadAnswerText, m_BadAnswerText⟩, List.forall_mem_cons.mpr ⟨⟨rfl, by decide, C_BadWholeText, m_BadWholeText⟩, List.forall_mem_cons.mpr ⟨⟨rfl, by decide, C_BadCases, m_BadCases⟩, List.forall_mem_nil _⟩⟩⟩⟩⟩⟩⟩⟩⟩⟩⟩⟩) (.cons (.cons (.cons (.cons (.cons (.cons (.cons (.cons (.cons (.cons (.cons (.cons .nil)))))))))))) (fun _ => rfl)
abbrev s_BadSteps_init : Stmt := inClass (top 10) 0
theorem sc_BadSteps_init : FnScope ["self", "index"] ["self", "index"] (defScope s_BadSteps_init) := ⟨rfl, rfl, rfl, by decide +kernel, rfl, by decide +kernel, by decide +kernel⟩
theorem ok_BadSteps_init {f : Addr} {fd : FuncData} (F : Fun K "__init__" "BadSteps.__init__" s_BadSteps_init f fd) : FnOk P w K mg base (L2.CX P w) 1 f fd ["self", "index"] (spXi K "index") := xi_ok F sc_BadSteps_init rfl rfl rfl
abbrev s_BadStrip_init : Stmt := inClass (top 20) 0
theorem sc_BadStrip_init : FnScope ["self", "strip"] ["self", "strip"] (defScope s_BadStrip_init) := ⟨rfl, rfl, rfl, by decide +kernel, rfl, by decide +kernel, by decide +kernel⟩
theorem ok_BadStrip_init {f : Addr} {fd : FuncData} (F : Fun K "__init__" "BadStrip.__init__" s_BadStrip_init f fd) : FnOk P w K mg base (L2.CX P w) 1 f fd ["self", "strip"] (spXi K "strip") := xi_ok F sc_BadStrip_init rfl rfl rfl
abbrev s_is_integer : Stmt := top 1
theorem sc_is_integer : FnScope ["thing"] ["thing"] (defScope s_is_integer) := ⟨rfl, rfl, rfl, by decide +kernel, rfl, by decide +kernel, by decide +kernel⟩
theorem ok_is_integer {f : Addr} {fd : FuncData} (B : Bt mg) (F : Fun K "is_integer" "is_integer" s_is_integer f fd) (hm : mg "is_integer" = some (.ref f)) (hb : Binds K fd ["thing"] [])  :
    FOk P w K mg base "is_integer" 1 1 .rep d_is_integer := fok_of F hm hb sc_is_integer rfl rfl fun cdv A outer s H E hr => by
  have nd := sc_is_integer.nd; have tk := takes_of (X := cxOf (L2.CX P w) P w K mg base ["thing"] "is_integer" (defScope s_is_integer) f cdv A outer s H E) (E := E) rfl rfl rfl rfl; have hp := passes_of (X := cxOf (L2.CX P w) P w K mg base ["thing"] "is_integer" (defScope s_is_integer) f cdv A outer s H E) rfl
  exact ⟨[], (sss_cons (ss_ret (se_and (se_brw (se_isa (se_brw (se_var 0)) B.isinstance B.int (by decide +kernel))) (se_one (se_not (se_brw (se_isa (se_brw (se_var 0)) B.isinstance B.bool (by decide +kernel))))))) (sss_never (Wk := [])))⟩
abbrev s_is_number : Stmt := top 2
theorem sc_is_number : FnScope ["thing"] ["thing"] (defScope s_is_number) := ⟨rfl, rfl, rfl, by decide +kernel, rfl, by decide +kernel, by decide +kernel⟩
theorem ok_is_number {f : Addr} {fd : FuncData} (B : Bt mg) (F : Fun K "is_number" "is_number" s_is_number f fd) (hm : mg "is_number" = some (.ref f)) (hb : Binds K fd ["thing"] []) (h_is_integer : FOk P w K mg base "is_integer" 1 1 .rep d_is_integer) :
    FOk P w K mg base "is_number" 1 2 .rep d_is_number := fok_of F hm hb sc_is_number rfl rfl fun cdv A outer s H E hr => by
  have nd := sc_is_number.nd; have tk := takes_of (X := cxOf (L2.CX P w) P w K mg base ["thing"] "is_number" (defScope s_is_number) f cdv A outer s H E) (E := E) rfl rfl rfl rfl; have hp := passes_of (X := cxOf (L2.CX P w) P w K mg base ["thing"] "is_number" (defScope s_is_number) f cdv A outer s H E) rfl
  exact ⟨[], (sss_cons (ss_ret (se_and (se_brw (se_call h_is_integer hr (by omega) tk (sa_cons (se_var 0) sa_nil))) (se_one (se_cmp od_ge (se_brw (se_var 0)) (se_brw se_int))))) (sss_never (Wk := [])))⟩
abbrev s_is_list : Stmt := top 3
theorem sc_is_list : FnScope ["thing"] ["thing"] (defScope s_is_list) := ⟨rfl, rfl, rfl, by decide +kernel, rfl, by decide +kernel, by decide +kernel⟩
theorem ok_is_list {f : Addr} {fd : FuncData} (B : Bt mg) (F : Fun K "is_list" "is_list" s_is_list f fd) (hm : mg "is_list" = some (.ref f)) (hb : Binds K fd ["thing"] [])  :
    FOk P w K mg base "is_list" 1 1 .rep d_is_list := fok_of F hm hb sc_is_list rfl rfl fun cdv A outer s H E hr => by
  have nd := sc_is_list.nd; have tk := takes_of (X := cxOf (L2.CX P w) P w K mg base ["thing"] "is_list" (defScope s_is_list) f cdv A outer s H E) (E := E) rfl rfl rfl rfl; have hp := passes_of (X := cxOf (L2.CX P w) P w K mg base ["thing"] "is_list" (defScope s_is_list) f cdv A outer s H E) rfl
  exact ⟨[], (sss_cons (ss_ret (se_isa2 (se_brw (se_var 0)) B.isinstance B.list (by decide +kernel) B.tuple (by decide +kernel))) (sss_never (Wk := [])))⟩
abbrev s_is_row : Stmt := top 4
theorem sc_is_row : FnScope ["thing", "many"] ["thing", "many"] (defScope s_is_row) := ⟨rfl, rfl, rfl, by decide +kernel, rfl, by decide +kernel, by decide +kernel⟩
theorem ok_is_row {f : Addr} {fd : FuncData} (B : Bt mg) (F : Fun K "is_row" "is_row" s_is_row f fd) (hm : mg "is_row" = some (.ref f)) (hb : Binds K fd ["thing", "many"] []) (h_is_list : FOk P w K mg base "is_list" 1 1 .rep d_is_list) :
    FOk P w K mg base "is_row" 2 2 .rep d_is_row := fok_of F hm hb sc_is_row rfl rfl fun cdv A outer s H E hr => by
  have nd := sc_is_row.nd; have tk := takes_of (X := cxOf (L2.CX P w) P w K mg base ["thing", "many"] "is_row" (defScope s_is_row) f cdv A outer s H E) (E := E) rfl rfl rfl rfl; have hp := passes_of (X := cxOf (L2.CX P w) P w K mg base ["thing", "many"] "is_row" (defScope s_is_row) f cdv A outer s H E) rfl
  exact ⟨[], (sss_cons (ss_ret (se_and (se_brw (se_call h_is_list hr (by omega) tk (sa_cons (se_var 0) sa_nil))) (se_one (se_cmp (od_eq hr) (se_brw (se_callB cd_len B.len (by decide +kernel) (sb_cons (se_brw (se_var 0)) sa_nil))) (se_brw (se_var 1)))))) (sss_never (Wk := [])))⟩
abbrev s_is_text : Stmt := top 5
theorem sc_is_text : FnScope ["thing"] ["thing"] (defScope s_is_text) := ⟨rfl, rfl, rfl, by decide +kernel, rfl, by decide +kernel, by decide +kernel⟩
theorem ok_is_text {f : Addr} {fd : FuncData} (B : Bt mg) (F : Fun K "is_text" "is_text" s_is_text f fd) (hm : mg "is_text" = some (.ref f)) (hb : Binds K fd ["thing"] [])  :
    FOk P w K mg base "is_text" 1 1 .rep d_is_text := fok_of F hm hb sc_is_text rfl rfl fun cdv A outer s H E hr => by
  have nd := sc_is_text.nd; have tk := takes_of (X := cxOf (L2.CX P w) P w K mg base ["thing"] "is_text" (defScope s_is_text) f cdv A outer s H E) (E := E) rfl rfl rfl rfl; have hp := passes_of (X := cxOf (L2.CX P w) P w K mg base ["thing"] "is_text" (defScope s_is_text) f cdv A outer s H E) rfl
  exact ⟨[], (sss_cons (ss_ret (se_isa (se_brw (se_var 0)) B.isinstance B.str (by decide +kernel))) (sss_never (Wk := [])))⟩
abbrev s_is_length : Stmt := top 24
theorem sc_is_length : FnScope ["thing"] ["thing"] (defScope s_is_length) := ⟨rfl, rfl, rfl, by decide +kernel, rfl, by decide +kernel, by decide +kernel⟩
theorem ok_is_length {f : Addr} {fd : FuncData} (B : Bt mg) (F : Fun K "is_length" "is_length" s_is_length f fd) (hm : mg "is_length" = some (.ref f)) (hb : Binds K fd ["thing"] []) (h_is_integer : FOk P w K mg base "is_integer" 1 1 .rep d_is_integer) :
    FOk P w K mg base "is_length" 1 2 .rep d_is_length := fok_of F hm hb sc_is_length rfl rfl fun cdv A outer s H E hr => by
  have nd := sc_is_length.nd; have tk := takes_of (X := cxOf (L2.CX P w) P w K mg base ["thing"] "is_length" (defScope s_is_length) f cdv A outer s H E) (E := E) rfl rfl rfl rfl; have hp := passes_of (X := cxOf (L2.CX P w) P w K mg base ["thing"] "is_length" (defScope s_is_length) f cdv A outer s H E) rfl
  exact ⟨[], (sss_cons (ss_ret (se_and (se_brw (se_call h_is_integer hr (by omega) tk (sa_cons (se_var 0) sa_nil))) (se_one (se_cmp od_gt (se_brw (se_var 0)) (se_brw se_int))))) (sss_never (Wk := [])))⟩
abbrev s_is_letter : Stmt := top 25
theorem sc_is_letter : FnScope ["thing"] ["thing"] (defScope s_is_letter) := ⟨rfl, rfl, rfl, by decide +kernel, rfl, by decide +kernel, by decide +kernel⟩
theorem ok_is_letter {f : Addr} {fd : FuncData} (B : Bt mg) (F : Fun K "is_letter" "is_letter" s_is_letter f fd) (hm : mg "is_letter" = some (.ref f)) (hb : Binds K fd ["thing"] []) (h_is_text : FOk P w K mg base "is_text" 1 1 .rep d_is_text) :
    FOk P w K mg base "is_letter" 1 2 .rep d_is_letter := fok_of F hm hb sc_is_letter rfl rfl fun cdv A outer s H E hr => by
  have nd := sc_is_letter.nd; have tk := takes_of (X := cxOf (L2.CX P w) P w K mg base ["thing"] "is_letter" (defScope s_is_letter) f cdv A outer s H E) (E := E) rfl rfl rfl rfl; have hp := passes_of (X := cxOf (L2.CX P w) P w K mg base ["thing"] "is_letter" (defScope s_is_letter) f cdv A outer s H E) rfl
  exact ⟨[], (sss_cons (ss_ret (se_and (se_brw (se_call h_is_text hr (by omega) tk (sa_cons (se_var 0) sa_nil))) (se_one (se_cmp (od_inA hr) (se_brw (se_var 0)) (se_brw (se_tup (sa_cons se_str (sa_cons se_str (sa_cons se_str sa_nil))))))))) (sss_never (Wk := [])))⟩
abbrev s_wrong_lengths : Stmt := top 26
theorem sc_wrong_lengths : FnScope ["lengths", "index", "length"] ["lengths"] (defScope s_wrong_lengths) := ⟨rfl, rfl, rfl, by decide +kernel, rfl, by decide +kernel, by decide +kernel⟩
theorem ok_wrong_lengths {f : Addr} {fd : FuncData} (B : Bt mg) (F : Fun K "wrong_lengths" "wrong_lengths" s_wrong_lengths f fd) (hm : mg "wrong_lengths" = some (.ref f)) (hb : Binds K fd ["lengths"] []) (h_is_list : FOk P w K mg base "is_list" 1 1 .rep d_is_list) (h_is_length : FOk P w K mg base "is_length" 1 2 .rep d_is_length) :
    FOk P w K mg base "wrong_lengths" 1 3 .rep d_wrong_lengths := fok_of F hm hb sc_wrong_lengths rfl rfl fun cdv A outer s H E hr => by
  have nd := sc_wrong_lengths.nd; have tk := takes_of (X := cxOf (L2.CX P w) P w K mg base ["lengths", "index", "length"] "wrong_lengths" (defScope s_wrong_lengths) f cdv A outer s H E) (E := E) rfl rfl rfl rfl; have hp := passes_of (X := cxOf (L2.CX P w) P w K mg base ["lengths", "index", "length"] "wrong_lengths" (defScope s_wrong_lengths) f cdv A outer s H E) rfl
  exact ⟨[], (sss_cons (ss_if (sw_st (sw_or (st_not (st_val (se_brw (se_call h_is_list hr (by omega) tk (sa_cons (se_var 0) sa_nil))))) (sw_or1 (st_cmp (od_eq hr) (se_brw (se_callB cd_len B.len (by decide +kernel) (sb_cons (se_brw (se_var 0)) sa_nil))) (se_brw se_int))))) (sss_cons (ss_ret se_int) (sss_never (Wk := []))) sss_nil) (sss_cons (ss_for hp rfl (si_enumA B.enumerate (sa_cons (se_var 0) sa_nil)) (sg_tupA rfl (sgs_cons (sg_name 1 nd) (sgs_cons (sg_name 2 nd) sgs_nil))) (sss_cons (ss_if (st_not (st_val (se_brw (se_call h_is_length hr (by omega) tk (sa_cons (se_var 2) sa_nil))))) (sss_cons (ss_ret (se_var 1)) (sss_never (Wk := []))) sss_nil) sss_nil)) (sss_cons (ss_ret se_non) (sss_never (Wk := [])))))⟩
abbrev s_wrong_letters : Stmt := top 27
theorem sc_wrong_letters : FnScope ["many", "letters", "index", "letter"] ["many", "letters"] (defScope s_wrong_letters) := ⟨rfl, rfl, rfl, by decide +kernel, rfl, by decide +kernel, by decide +kernel⟩
theorem ok_wrong_letters {f : Addr} {fd : FuncData} (B : Bt mg) (F : Fun K "wrong_letters" "wrong_letters" s_wrong_letters f fd) (hm : mg "wrong_letters" = some (.ref f)) (hb : Binds K fd ["many", "letters"] []) (h_is_list : FOk P w K mg base "is_list" 1 1 .rep d_is_list) (h_is_letter : FOk P w K mg base "is_letter" 1 2 .rep d_is_letter) :
    FOk P w K mg base "wrong_letters" 2 3 .rep d_wrong_letters := fok_of F hm hb sc_wrong_letters rfl rfl fun cdv A outer s H E hr => by
  have nd := sc_wrong_letters.nd; have tk := takes_of (X := cxOf (L2.CX P w) P w K mg base ["many", "letters", "index", "letter"] "wrong_letters" (defScope s_wrong_letters) f cdv A outer s H E) (E := E) rfl rfl rfl rfl; have hp := passes_of (X := cxOf (L2.CX P w) P w K mg base ["many", "letters", "index", "letter"] "wrong_letters" (defScope s_wrong_letters) f cdv A outer s H E) rfl
  exact ⟨[], (sss_cons (ss_if (st_not (st_val (se_brw (se_call h_is_list hr (by omega) tk (sa_cons (se_var 1) sa_nil))))) (sss_cons (ss_ret se_int) (sss_never (Wk := []))) sss_nil) (sss_cons (ss_for hp rfl (si_enumA B.enumerate (sa_cons (se_var 1) sa_nil)) (sg_tupA rfl (sgs_cons (sg_name 2 nd) (sgs_cons (sg_name 3 nd) sgs_nil))) (sss_cons (ss_if (sw_st (sw_or (st_cmp (od_eq hr) (se_brw (se_var 2)) (se_brw (se_var 0))) (sw_or1 (st_not (st_val (se_brw (se_call h_is_letter hr (by omega) tk (sa_cons (se_var 3) sa_nil)))))))) (sss_cons (ss_ret (se_var 2)) (sss_never (Wk := []))) sss_nil) sss_nil)) (sss_cons (ss_ret (se_if (st_cmp od_lt (se_brw (se_callB cd_len B.len (by decide +kernel) (sb_cons (se_brw (se_var 1)) sa_nil))) (se_brw (se_var 0))) (se_callB cd_len B.len (by decide +kernel) (sb_cons (se_brw (se_var 1)) sa_nil)) se_non)) (sss_never (Wk := [])))))⟩
abbrev s_Strip_init__ : Stmt := inClass (top 28) 0
theorem sc_Strip_init__ : FnScope ["self", "lengths", "creases", "index"] ["self", "lengths", "creases"] (defScope s_Strip_init__) := ⟨rfl, rfl, rfl, by decide +kernel, rfl, by decide +kernel, by decide +kernel⟩
theorem ok_Strip_init__ {f C : Addr} {fd : FuncData} (B : Bt mg) (F : Fun K "__init__" "Strip.__init__" s_Strip_init__ f fd) (hm : mg "Strip" = some (.ref C)) (hM : Mk K C f) (hb : Binds K fd ["self", "lengths", "creases"] []) (h_wrong_lengths : FOk P w K mg base "wrong_lengths" 1 3 .rep d_wrong_lengths) (h_wrong_letters : FOk P w K mg base "wrong_letters" 2 3 .rep d_wrong_letters) (T_Strip : ClF K mg "Strip") (T_Strip__creases : ∀ C, mg "Strip" = some (.ref C) → NoAttr K C "_creases") (T_Strip__lengths : ∀ C, mg "Strip" = some (.ref C) → NoAttr K C "_lengths") :
    IOk P w K mg base "Strip" 3 4 d_Strip_init__ := iok_of F hm hM hb sc_Strip_init__ rfl rfl fun cdv A outer s H E hr => by
  have nd := sc_Strip_init__.nd; have tk := takes_of (X := cxOf (L2.CX P w) P w K mg base ["self", "lengths", "creases", "index"] "Strip.__init__" (defScope s_Strip_init__) f cdv A outer s H E) (E := E) rfl rfl rfl rfl; have hp := passes_of (X := cxOf (L2.CX P w) P w K mg base ["self", "lengths", "creases", "index"] "Strip.__init__" (defScope s_Strip_init__) f cdv A outer s H E) rfl
  exact (sss_cons (ss_set 3 nd (se_call h_wrong_lengths hr (by omega) tk (sa_cons (se_var 1) sa_nil))) (sss_cons (ss_if (st_cmp od_isnt (se_brw (se_var 3)) (se_brw se_non)) (sss_cons ss_never (sss_never (Wk := []))) sss_nil) (sss_cons (ss_set 3 nd (se_call h_wrong_letters hr (by omega) tk (sa_cons (se_op od_sub (se_brw (se_callB cd_len B.len (by decide +kernel) (sb_cons (se_brw (se_var 1)) sa_nil))) (se_brw se_int)) (sa_cons (se_var 2) sa_nil)))) (sss_cons (ss_if (st_cmp od_isnt (se_brw (se_var 3)) (se_brw se_non)) (sss_cons ss_never (sss_never (Wk := []))) sss_nil) (sss_cons (ss_fldS 0 T_Strip T_Strip__lengths (se_rep (se_callTy (cd_listA rfl) B.list (by decide +kernel) (sb_cons (se_brw (se_var 1)) sa_nil)))) (sss_cons (ss_fldS 0 T_Strip T_Strip__creases (se_rep (se_callTy (cd_listA rfl) B.list (by decide +kernel) (sb_cons (se_brw (se_var 2)) sa_nil)))) sss_nil))))))
abbrev s_Strip_lengths : Stmt := inClass (top 28) 1
theorem sc_Strip_lengths : FnScope ["self"] ["self"] (defScope s_Strip_lengths) := ⟨rfl, rfl, rfl, by decide +kernel, rfl, by decide +kernel, by decide +kernel⟩
theorem ok_Strip_lengths {f C : Addr} {fd : FuncData} (B : Bt mg) (F : Fun K "lengths" "Strip.lengths" s_Strip_lengths f fd) (hm : mg "Strip" = some (.ref C)) (hc : Cls K C) (hM : Meth K C "lengths" f) (hb : Binds K fd ["self"] []) (T_Strip : ClF K mg "Strip") (T_Strip__lengths : ∀ C, mg "Strip" = some (.ref C) → NoAttr K C "_lengths") :
    MOk P w K mg base "Strip" "lengths" 1 1 .frs d_Strip_lengths := mok_of F hm hc hM hb sc_Strip_lengths rfl rfl fun cdv A outer s H E hr => by
  have nd := sc_Strip_lengths.nd; have tk := takes_of (X := cxOf (L2.CX P w) P w K mg base ["self"] "Strip.lengths" (defScope s_Strip_lengths) f cdv A outer s H E) (E := E) rfl rfl rfl rfl; have hp := passes_of (X := cxOf (L2.CX P w) P w K mg base ["self"] "Strip.lengths" (defScope s_Strip_lengths) f cdv A outer s H E) rfl
  exact ⟨[], (sss_cons (ss_retF (se_callTy (cd_listA rfl) B.list (by decide +kernel) (sb_cons (se_brw (se_fld T_Strip (T_Strip__lengths) (se_brw (se_var 0)))) sa_nil))) (sss_never (Wk := [])))⟩
abbrev s_Strip_creases : Stmt := inClass (top 28) 2
theorem sc_Strip_creases : FnScope ["self"] ["self"] (defScope s_Strip_creases) := ⟨rfl, rfl, rfl, by decide +kernel, rfl, by decide +kernel, by decide +kernel⟩
theorem ok_Strip_creases {f C : Addr} {fd : FuncData} (B : Bt mg) (F : Fun K "creases" "Strip.creases" s_Strip_creases f fd) (hm : mg "Strip" = some (.ref C)) (hc : Cls K C) (hM : Meth K C "creases" f) (hb : Binds K fd ["self"] []) (T_Strip : ClF K mg "Strip") (T_Strip__creases : ∀ C, mg "Strip" = some (.ref C) → NoAttr K C "_creases") :
    MOk P w K mg base "Strip" "creases" 1 1 .frs d_Strip_creases := mok_of F hm hc hM hb sc_Strip_creases rfl rfl fun cdv A outer s H E hr => by
  have nd := sc_Strip_creases.nd; have tk := takes_of (X := cxOf (L2.CX P w) P w K mg base ["self"] "Strip.creases" (defScope s_Strip_creases) f cdv A outer s H E) (E := E) rfl rfl rfl rfl; have hp := passes_of (X := cxOf (L2.CX P w) P w K mg base ["self"] "Strip.creases" (defScope s_Strip_creases) f cdv A outer s H E) rfl
  exact ⟨[], (sss_cons (ss_retF (se_callTy (cd_listA rfl) B.list (by decide +kernel) (sb_cons (se_brw (se_fld T_Strip (T_Strip__creases) (se_brw (se_var 0)))) sa_nil))) (sss_never (Wk := [])))⟩
abbrev s_need_strip : Stmt := top 29
theorem sc_need_strip : FnScope ["strip"] ["strip"] (defScope s_need_strip) := ⟨rfl, rfl, rfl, by decide +kernel, rfl, by decide +kernel, by decide +kernel⟩
theorem ok_need_strip {f : Addr} {fd : FuncData} (B : Bt mg) (F : Fun K "need_strip" "need_strip" s_need_strip f fd) (hm : mg "need_strip" = some (.ref f)) (hb : Binds K fd ["strip"] []) (IG_Strip : InG K mg "Strip") (X_BadStrip : XOk P w K mg base "BadStrip" "strip") :
    FOk P w K mg base "need_strip" 1 3 .rep d_need_strip := fok_of F hm hb sc_need_strip rfl rfl fun cdv A outer s H E hr => by
  have nd := sc_need_strip.nd; have tk := takes_of (X := cxOf (L2.CX P w) P w K mg base ["strip"] "need_strip" (defScope s_need_strip) f cdv A outer s H E) (E := E) rfl rfl rfl rfl; have hp := passes_of (X := cxOf (L2.CX P w) P w K mg base ["strip"] "need_strip" (defScope s_need_strip) f cdv A outer s H E) rfl
  exact ⟨[], (sss_cons (ss_if (st_not (st_val (se_brw (se_isInG IG_Strip (se_brw (se_var 0)) B.isinstance)))) (sss_cons (ss_raise X_BadStrip hr (by omega) rfl tk (sa_cons (se_var 0) sa_nil)) (sss_never (Wk := []))) sss_nil) sss_nil)⟩
abbrev s_can_crimp : Stmt := top 31
theorem sc_can_crimp : FnScope ["lengths", "letters", "segment", "pair"] ["lengths", "letters", "segment"] (defScope s_can_crimp) := ⟨rfl, rfl, rfl, by decide +kernel, rfl, by decide +kernel, by decide +kernel⟩
theorem ok_can_crimp {f : Addr} {fd : FuncData} (B : Bt mg) (F : Fun K "can_crimp" "can_crimp" s_can_crimp f fd) (hm : mg "can_crimp" = some (.ref f)) (hb : Binds K fd ["lengths", "letters", "segment"] [])  :
    FOk P w K mg base "can_crimp" 3 1 .rep d_can_crimp := fok_of F hm hb sc_can_crimp rfl rfl fun cdv A outer s H E hr => by
  have nd := sc_can_crimp.nd; have tk := takes_of (X := cxOf (L2.CX P w) P w K mg base ["lengths", "letters", "segment", "pair"] "can_crimp" (defScope s_can_crimp) f cdv A outer s H E) (E := E) rfl rfl rfl rfl; have hp := passes_of (X := cxOf (L2.CX P w) P w K mg base ["lengths", "letters", "segment", "pair"] "can_crimp" (defScope s_can_crimp) f cdv A outer s H E) rfl
  exact ⟨[], (sss_cons (ss_if (sw_st (sw_or (st_cmp od_gt (se_brw (se_ix hr (se_brw (se_var 0)) (se_brw (se_var 2)))) (se_brw (se_ix hr (se_brw (se_var 0)) (se_brw (se_op od_sub (se_brw (se_var 2)) (se_brw se_int)))))) (sw_or1 (st_cmp od_gt (se_brw (se_ix hr (se_brw (se_var 0)) (se_brw (se_var 2)))) (se_brw (se_ix hr (se_brw (se_var 0)) (se_brw (se_op od_plus (se_brw (se_var 2)) (se_brw se_int))))))))) (sss_cons (ss_ret se_bl) (sss_never (Wk := []))) sss_nil) (sss_cons (ss_set 3 nd (se_tup (sa_cons (se_ix hr (se_brw (se_var 1)) (se_brw (se_op od_sub (se_brw (se_var 2)) (se_brw se_int)))) (sa_cons (se_ix hr (se_brw (se_var 1)) (se_brw (se_var 2))) sa_nil)))) (sss_cons (ss_ret (se_and (se_brw (se_cmp (od_ninA hr) (se_brw se_str) (se_brw (se_var 3)))) (se_one (se_cmp (od_ne hr) (se_brw (se_ix hr (se_brw (se_var 3)) (se_brw se_int))) (se_brw (se_ix hr (se_brw (se_var 3)) (se_brw se_int))))))) (sss_never (Wk := [])))))⟩
abbrev s_steps_of : Stmt := top 32
theorem sc_steps_of : FnScope ["lengths", "letters", "many", "found", "segment"] ["lengths", "letters"] (defScope s_steps_of) := ⟨rfl, rfl, rfl, by decide +kernel, rfl, by decide +kernel, by decide +kernel⟩
theorem ok_steps_of {f : Addr} {fd : FuncData} (B : Bt mg) (F : Fun K "steps_of" "steps_of" s_steps_of f fd) (hm : mg "steps_of" = some (.ref f)) (hb : Binds K fd ["lengths", "letters"] []) (h_can_crimp : FOk P w K mg base "can_crimp" 3 1 .rep d_can_crimp) :
    FOk P w K mg base "steps_of" 2 2 .frs d_steps_of := fok_of F hm hb sc_steps_of rfl rfl fun cdv A outer s H E hr => by
  have nd := sc_steps_of.nd; have tk := takes_of (X := cxOf (L2.CX P w) P w K mg base ["lengths", "letters", "many", "found", "segment"] "steps_of" (defScope s_steps_of) f cdv A outer s H E) (E := E) rfl rfl rfl rfl; have hp := passes_of (X := cxOf (L2.CX P w) P w K mg base ["lengths", "letters", "many", "found", "segment"] "steps_of" (defScope s_steps_of) f cdv A outer s H E) rfl
  exact ⟨[], (sss_cons (ss_set 2 nd (se_callB cd_len B.len (by decide +kernel) (sb_cons (se_brw (se_var 0)) sa_nil))) (sss_cons (ss_setW 3 nd (se_lst sa_nil)) (sss_cons (ss_if (sw_st (sw_and (st_cmp od_gt (se_brw (se_var 2)) (se_brw se_int)) (sw_and1 (st_cmp od_le (se_brw (se_ix hr (se_brw (se_var 0)) (se_brw se_int))) (se_brw (se_ix hr (se_brw (se_var 0)) (se_brw se_int))))))) (sss_cons (ss_append 3 (se_tup (sa_cons se_str (sa_cons se_int sa_nil)))) sss_nil) sss_nil) (sss_cons (ss_if (sw_st (sw_and (st_cmp od_gt (se_brw (se_var 2)) (se_brw se_int)) (sw_and1 (st_cmp od_le (se_brw (se_ix hr (se_brw (se_var 0)) (se_brw (se_op od_sub (se_brw (se_var 2)) (se_brw se_int))))) (se_brw (se_ix hr (se_brw (se_var 0)) (se_brw (se_op od_sub (se_brw (se_var 2)) (se_brw se_int))))))))) (sss_cons (ss_append 3 (se_tup (sa_cons se_str (sa_cons (se_op od_sub (se_brw (se_var 2)) (se_brw se_int)) sa_nil)))) sss_nil) sss_nil) (sss_cons (ss_retF (se_op od_cat (sb_var 3) (se_brw (se_lc rfl nd (own := [("segment", 4)]) (blkOk_by (N := ["lengths", "letters", "many", "found", "segment"]) (sc := defScope s_steps_of) (by decide +kernel)) (si_range2 B.range (sb_cons (se_brw se_int) (sb_cons (se_brw (se_op od_sub (se_brw (se_var 2)) (se_brw se_int))) sa_nil))) (fun _ _ _ _ _ => (sg_name 4 nd)) (fun _ _ _ _ _ => (sts_one (st_val (se_brw (se_call h_can_crimp hr (by omega) takes0 (sa_cons (se_var 0) (sa_cons (se_var 1) (sa_cons (se_var 4) sa_nil)))))))) (fun _ _ _ _ _ => (se_tup (sa_cons se_str (sa_cons (se_var 4) sa_nil)))))))) (sss_never (Wk := [])))))))⟩
abbrev s_step_in : Stmt := top 33
theorem sc_step_in : FnScope ["lengths", "letters", "thing", "step"] ["lengths", "letters", "thing"] (defScope s_step_in) := ⟨rfl, rfl, rfl, by decide +kernel, rfl, by decide +kernel, by decide +kernel⟩
theorem ok_step_in {f : Addr} {fd : FuncData} (B : Bt mg) (F : Fun K "step_in" "step_in" s_step_in f fd) (hm : mg "step_in" = some (.ref f)) (hb : Binds K fd ["lengths", "letters", "thing"] []) (h_is_number : FOk P w K mg base "is_number" 1 2 .rep d_is_number) (h_is_row : FOk P w K mg base "is_row" 2 2 .rep d_is_row) (h_steps_of : FOk P w K mg base "steps_of" 2 2 .frs d_steps_of) :
    FOk P w K mg base "step_in" 3 3 .rep d_step_in := fok_of F hm hb sc_step_in rfl rfl fun cdv A outer s H E hr => by
  have nd := sc_step_in.nd; have tk := takes_of (X := cxOf (L2.CX P w) P w K mg base ["lengths", "letters", "thing", "step"] "step_in" (defScope s_step_in) f cdv A outer s H E) (E := E) rfl rfl rfl rfl; have hp := passes_of (X := cxOf (L2.CX P w) P w K mg base ["lengths", "letters", "thing", "step"] "step_in" (defScope s_step_in) f cdv A outer s H E) rfl
  exact ⟨[], (sss_cons (ss_if (sw_st (sw_or (st_not (st_val (se_brw (se_call h_is_row hr (by omega) tk (sa_cons (se_var 2) (sa_cons se_int sa_nil)))))) (sw_or1 (st_not (st_val (se_brw (se_call h_is_number hr (by omega) tk (sa_cons (se_ix hr (se_brw (se_var 2)) (se_brw se_int)) sa_nil)))))))) (sss_cons (ss_ret se_non) (sss_never (Wk := []))) sss_nil) (sss_cons (ss_for hp rfl (si_seq (se_rep (se_call h_steps_of hr (by omega) tk (sa_cons (se_var 0) (sa_cons (se_var 1) sa_nil))))) (sg_name 3 nd) (sss_cons (ss_if (sw_st (sw_and (st_cmp (od_eq hr) (se_brw (se_ix hr (se_brw (se_var 2)) (se_brw se_int))) (se_brw (se_ix hr (se_brw (se_var 3)) (se_brw se_int)))) (sw_and1 (st_cmp (od_eq hr) (se_brw (se_ix hr (se_brw (se_var 2)) (se_brw se_int))) (se_brw (se_ix hr (se_brw (se_var 3)) (se_brw se_int))))))) (sss_cons (ss_ret (se_var 3)) (sss_never (Wk := []))) sss_nil) sss_nil)) (sss_cons (ss_ret se_non) (sss_never (Wk := [])))))⟩
abbrev s_parts_after : Stmt := top 34
theorem sc_parts_after : FnScope ["lengths", "letters", "step", "word", "segment", "one"] ["lengths", "letters", "step"] (defScope s_parts_after) := ⟨rfl, rfl, rfl, by decide +kernel, rfl, by decide +kernel, by decide +kernel⟩
theorem ok_parts_after {f : Addr} {fd : FuncData} (B : Bt mg) (F : Fun K "parts_after" "parts_after" s_parts_after f fd) (hm : mg "parts_after" = some (.ref f)) (hb : Binds K fd ["lengths", "letters", "step"] [])  :
    FOk P w K mg base "parts_after" 3 1 .rep d_parts_after := fok_of F hm hb sc_parts_after rfl rfl fun cdv A outer s H E hr => by
  have nd := sc_parts_after.nd; have tk := takes_of (X := cxOf (L2.CX P w) P w K mg base ["lengths", "letters", "step", "word", "segment", "one"] "parts_after" (defScope s_parts_after) f cdv A outer s H E) (E := E) rfl rfl rfl rfl; have hp := passes_of (X := cxOf (L2.CX P w) P w K mg base ["lengths", "letters", "step", "word", "segment", "one"] "parts_after" (defScope s_parts_after) f cdv A outer s H E) rfl
  exact ⟨[], (sss_cons (ss_asg (se_var 2) (sg_tupA rfl (sgs_cons (sg_name 3 nd) (sgs_cons (sg_name 4 nd) sgs_nil)))) (sss_cons (ss_if (sw_st (sw_and (st_cmp (od_eq hr) (se_brw (se_var 3)) (se_brw se_str)) (sw_and1 (st_cmp (od_eq hr) (se_brw (se_var 4)) (se_brw se_int))))) (sss_cons (ss_ret (se_tup (sa_cons (se_rep (se_slice (se_brw (se_var 0)) (so_some (se_brw se_int)) so_none)) (sa_cons (se_rep (se_slice (se_brw (se_var 1)) (so_some (se_brw se_int)) so_none)) sa_nil)))) (sss_never (Wk := []))) sss_nil) (sss_cons (ss_if (st_cmp (od_eq hr) (se_brw (se_var 3)) (se_brw se_str)) (sss_cons (ss_ret (se_tup (sa_cons (se_rep (se_slice (se_brw (se_var 0)) so_none (so_some (se_brw (se_neg (se_brw se_int)))))) (sa_cons (se_rep (se_slice (se_brw (se_var 1)) so_none (so_some (se_brw (se_neg (se_brw se_int)))))) sa_nil)))) (sss_never (Wk := []))) sss_nil) (sss_cons (ss_set 5 nd (se_op od_plus (se_brw (se_op od_sub (se_brw (se_ix hr (se_brw (se_var 0)) (se_brw (se_op od_sub (se_brw (se_var 4)) (se_brw se_int))))) (se_brw (se_ix hr (se_brw (se_var 0)) (se_brw (se_var 4)))))) (se_brw (se_ix hr (se_brw (se_var 0)) (se_brw (se_op od_plus (se_brw (se_var 4)) (se_brw se_int))))))) (sss_cons (ss_ret (se_tup (sa_cons (se_op od_plus (se_brw (se_op od_plus (se_brw (se_slice (se_brw (se_var 0)) so_none (so_some (se_brw (se_op od_sub (se_brw (se_var 4)) (se_brw se_int)))))) (se_brw (se_lst (sa_cons (se_var 5) sa_nil))))) (se_brw (se_slice (se_brw (se_var 0)) (so_some (se_brw (se_op od_plus (se_brw (se_var 4)) (se_brw se_int)))) so_none))) (sa_cons (se_op od_plus (se_brw (se_slice (se_brw (se_var 1)) so_none (so_some (se_brw (se_op od_sub (se_brw (se_var 4)) (se_brw se_int)))))) (se_brw (se_slice (se_brw (se_var 1)) (so_some (se_brw (se_op od_plus (se_brw (se_var 4)) (se_brw se_int)))) so_none))) sa_nil)))) (sss_never (Wk := [])))))))⟩
abbrev s_parts_done : Stmt := top 35
theorem sc_parts_done : FnScope ["lengths", "letters", "things", "index", "thing", "told"] ["lengths", "letters", "things"] (defScope s_parts_done) := ⟨rfl, rfl, rfl, by decide +kernel, rfl, by decide +kernel, by decide +kernel⟩
theorem ok_parts_done {f : Addr} {fd : FuncData} (B : Bt mg) (F : Fun K "parts_done" "parts_done" s_parts_done f fd) (hm : mg "parts_done" = some (.ref f)) (hb : Binds K fd ["lengths", "letters", "things"] []) (h_is_list : FOk P w K mg base "is_list" 1 1 .rep d_is_list) (h_step_in : FOk P w K mg base "step_in" 3 3 .rep d_step_in) (h_parts_after : FOk P w K mg base "parts_after" 3 1 .rep d_parts_after) :
    FOk P w K mg base "parts_done" 3 4 .rep d_parts_done := fok_of F hm hb sc_parts_done rfl rfl fun cdv A outer s H E hr => by
  have nd := sc_parts_done.nd; have tk := takes_of (X := cxOf (L2.CX P w) P w K mg base ["lengths", "letters", "things", "index", "thing", "told"] "parts_done" (defScope s_parts_done) f cdv A outer s H E) (E := E) rfl rfl rfl rfl; have hp := passes_of (X := cxOf (L2.CX P w) P w K mg base ["lengths", "letters", "things", "index", "thing", "told"] "parts_done" (defScope s_parts_done) f cdv A outer s H E) rfl
  exact ⟨[], (sss_cons (ss_if (st_not (st_val (se_brw (se_call h_is_list hr (by omega) tk (sa_cons (se_var 2) sa_nil))))) (sss_cons (ss_ret (se_tup (sa_cons se_non (sa_cons se_non (sa_cons se_int sa_nil))))) (sss_never (Wk := []))) sss_nil) (sss_cons (ss_for hp rfl (si_enumA B.enumerate (sa_cons (se_var 2) sa_nil)) (sg_tupA rfl (sgs_cons (sg_name 3 nd) (sgs_cons (sg_name 4 nd) sgs_nil))) (sss_cons (ss_set 5 nd (se_call h_step_in hr (by omega) tk (sa_cons (se_var 0) (sa_cons (se_var 1) (sa_cons (se_var 4) sa_nil))))) (sss_cons (ss_if (st_cmp od_is (se_brw (se_var 5)) (se_brw se_non)) (sss_cons (ss_ret (se_tup (sa_cons se_non (sa_cons se_non (sa_cons (se_var 3) sa_nil))))) (sss_never (Wk := []))) sss_nil) (sss_cons (ss_asg (se_call h_parts_after hr (by omega) tk (sa_cons (se_var 0) (sa_cons (se_var 1) (sa_cons (se_var 5) sa_nil)))) (sg_tupA rfl (sgs_cons (sg_name 0 nd) (sgs_cons (sg_name 1 nd) sgs_nil)))) sss_nil)))) (sss_cons (ss_ret (se_tup (sa_cons (se_var 0) (sa_cons (se_var 1) (sa_cons se_non sa_nil))))) (sss_never (Wk := [])))))⟩
abbrev s_done : Stmt := top 36
theorem sc_done : FnScope ["strip", "steps", "lengths", "letters", "wrong"] ["strip", "steps"] (defScope s_done) := ⟨rfl, rfl, rfl, by decide +kernel, rfl, by decide +kernel, by decide +kernel⟩
theorem ok_done {f : Addr} {fd : FuncData} (B : Bt mg) (F : Fun K "done" "done" s_done f fd) (hm : mg "done" = some (.ref f)) (hb : Binds K fd ["strip", "steps"] []) (h_need_strip : FOk P w K mg base "need_strip" 1 3 .rep d_need_strip) (h_parts_done : FOk P w K mg base "parts_done" 3 4 .rep d_parts_done) (h_Strip_creases : MOk P w K mg base "Strip" "creases" 1 1 .frs d_Strip_creases) (h_Strip_lengths : MOk P w K mg base "Strip" "lengths" 1 1 .frs d_Strip_lengths) (h_Strip_init__ : IOk P w K mg base "Strip" 3 4 d_Strip_init__) (X_BadSteps : XOk P w K mg base "BadSteps" "index") :
    FOk P w K mg base "done" 2 6 .frs d_done := fok_of F hm hb sc_done rfl rfl fun cdv A outer s H E hr => by
  have nd := sc_done.nd; have tk := takes_of (X := cxOf (L2.CX P w) P w K mg base ["strip", "steps", "lengths", "letters", "wrong"] "done" (defScope s_done) f cdv A outer s H E) (E := E) rfl rfl rfl rfl; have hp := passes_of (X := cxOf (L2.CX P w) P w K mg base ["strip", "steps", "lengths", "letters", "wrong"] "done" (defScope s_done) f cdv A outer s H E) rfl
  exact ⟨[], (sss_cons (ss_expr (se_call h_need_strip hr (by omega) tk (sa_cons (se_var 0) sa_nil))) (sss_cons (ss_asg (se_call h_parts_done hr (by omega) tk (sa_cons (se_rep (se_meth0 h_Strip_lengths hr (by omega) (se_var 0))) (sa_cons (se_rep (se_meth0 h_Strip_creases hr (by omega) (se_var 0))) (sa_cons (se_var 1) sa_nil)))) (sg_tupA rfl (sgs_cons (sg_name 2 nd) (sgs_cons (sg_name 3 nd) (sgs_cons (sg_name 4 nd) sgs_nil))))) (sss_cons (ss_if (st_cmp od_isnt (se_brw (se_var 4)) (se_brw se_non)) (sss_cons (ss_raise X_BadSteps hr (by omega) rfl tk (sa_cons (se_var 4) sa_nil)) (sss_never (Wk := []))) sss_nil) (sss_cons (ss_retF (se_make h_Strip_init__ hr (by omega) (sa_cons (se_var 2) (sa_cons (se_var 3) sa_nil)))) (sss_never (Wk := []))))))⟩
abbrev s_law_between : Stmt := top 40
theorem sc_law_between : FnScope ["state", "low", "high"] ["state", "low", "high"] (defScope s_law_between) := ⟨rfl, rfl, rfl, by decide +kernel, rfl, by decide +kernel, by decide +kernel⟩
theorem ok_law_between {f : Addr} {fd : FuncData} (B : Bt mg) (F : Fun K "_law_between" "_law_between" s_law_between f fd) (hm : mg "_law_between" = some (.ref f)) (hb : Binds K fd ["state", "low", "high"] []) (h_law_pick : FOk P w K mg base "_law_pick" 2 1 .rep dPick) :
    FOk P w K mg base "_law_between" 3 2 .rep d_law_between := fok_of F hm hb sc_law_between rfl rfl fun cdv A outer s H E hr => by
  have nd := sc_law_between.nd; have tk := takes_of (X := cxOf (L2.CX P w) P w K mg base ["state", "low", "high"] "_law_between" (defScope s_law_between) f cdv A outer s H E) (E := E) rfl rfl rfl rfl; have hp := passes_of (X := cxOf (L2.CX P w) P w K mg base ["state", "low", "high"] "_law_between" (defScope s_law_between) f cdv A outer s H E) rfl
  exact ⟨[], (sss_cons (ss_ret (se_op od_plus (se_brw (se_var 1)) (se_brw (se_call h_law_pick hr (by omega) tk (sa_cons (se_var 0) (sa_cons (se_op od_plus (se_brw (se_callB (cd_max rfl) B.max (by decide +kernel) (sb_cons (se_brw (se_op od_sub (se_brw (se_var 2)) (se_brw (se_var 1)))) (sb_cons (se_brw se_int) sa_nil)))) (se_brw se_int)) sa_nil)))))) (sss_never (Wk := [])))⟩
abbrev s_law_one : Stmt := top 41
theorem sc_law_one : FnScope ["state", "things"] ["state", "things"] (defScope s_law_one) := ⟨rfl, rfl, rfl, by decide +kernel, rfl, by decide +kernel, by decide +kernel⟩
theorem ok_law_one {f : Addr} {fd : FuncData} (B : Bt mg) (F : Fun K "_law_one" "_law_one" s_law_one f fd) (hm : mg "_law_one" = some (.ref f)) (hb : Binds K fd ["state", "things"] []) (h_law_pick : FOk P w K mg base "_law_pick" 2 1 .rep dPick) :
    FOk P w K mg base "_law_one" 2 2 .rep d_law_one := fok_of F hm hb sc_law_one rfl rfl fun cdv A outer s H E hr => by
  have nd := sc_law_one.nd; have tk := takes_of (X := cxOf (L2.CX P w) P w K mg base ["state", "things"] "_law_one" (defScope s_law_one) f cdv A outer s H E) (E := E) rfl rfl rfl rfl; have hp := passes_of (X := cxOf (L2.CX P w) P w K mg base ["state", "things"] "_law_one" (defScope s_law_one) f cdv A outer s H E) rfl
  exact ⟨[], (sss_cons (ss_ret (se_ix hr (se_brw (se_var 1)) (se_brw (se_call h_law_pick hr (by omega) tk (sa_cons (se_var 0) (sa_cons (se_callB cd_len B.len (by decide +kernel) (sb_cons (se_brw (se_var 1)) sa_nil)) sa_nil)))))) (sss_never (Wk := [])))⟩
abbrev s_law_mixed : Stmt := top 42
theorem sc_law_mixed : FnScope ["state", "things", "left", "found", "k"] ["state", "things"] (defScope s_law_mixed) := ⟨rfl, rfl, rfl, by decide +kernel, rfl, by decide +kernel, by decide +kernel⟩
theorem ok_law_mixed {f : Addr} {fd : FuncData} (B : Bt mg) (F : Fun K "_law_mixed" "_law_mixed" s_law_mixed f fd) (hm : mg "_law_mixed" = some (.ref f)) (hb : Binds K fd ["state", "things"] []) (h_law_pick : FOk P w K mg base "_law_pick" 2 1 .rep dPick) :
    FOk P w K mg base "_law_mixed" 2 2 .frs d_law_mixed := fok_of F hm hb sc_law_mixed rfl rfl fun cdv A outer s H E hr => by
  have nd := sc_law_mixed.nd; have tk := takes_of (X := cxOf (L2.CX P w) P w K mg base ["state", "things", "left", "found", "k"] "_law_mixed" (defScope s_law_mixed) f cdv A outer s H E) (E := E) rfl rfl rfl rfl; have hp := passes_of (X := cxOf (L2.CX P w) P w K mg base ["state", "things", "left", "found", "k"] "_law_mixed" (defScope s_law_mixed) f cdv A outer s H E) rfl
  exact ⟨[], (sss_cons (ss_parW 2 3 rfl nd (se_callTy (cd_listA rfl) B.list (by decide +kernel) (sb_cons (se_brw (se_var 1)) sa_nil)) (se_lst sa_nil)) (sss_cons (ss_for hp rfl (si_range1 B.range (sb_cons (se_brw (se_callB cd_len B.len (by decide +kernel) (sb_cons (sb_var 2) sa_nil))) sa_nil)) (sg_name 4 nd) (sss_cons (ss_appPop 3 2 (se_brw (se_call h_law_pick hr (by omega) tk (sa_cons (se_var 0) (sa_cons (se_callB cd_len B.len (by decide +kernel) (sb_cons (sb_var 2) sa_nil)) sa_nil))))) sss_nil)) (sss_cons (ss_retW 3) (sss_never (Wk := [])))))⟩
abbrev s_law_same : Stmt := top 43
theorem sc_law_same : FnScope ["found", "due", "key", "mine", "theirs"] ["found", "due"] (defScope s_law_same) := ⟨rfl, rfl, rfl, by decide +kernel, rfl, by decide +kernel, by decide +kernel⟩
theorem okr_law_same {f : Addr} {fd : FuncData} (B : Bt mg) (F : Fun K "_law_same" "_law_same" s_law_same f fd) (hm : mg "_law_same" = some (.ref f)) (hb : Binds K fd ["found", "due"] [])  : (n : Nat) →
    FOk P w K mg base "_law_same" 2 (1 + n) .rep (d_law_same_ n)
  | 0 => fok_zero hm F.kp hb rfl
  | n + 1 => fok_of (k := 1 + n) F hm hb sc_law_same rfl rfl fun cdv A outer s H E hr => by
    have ih := okr_law_same B F hm hb n
    have nd := sc_law_same.nd; have tk := takes_of (X := cxOf (L2.CX P w) P w K mg base ["found", "due", "key", "mine", "theirs"] "_law_same" (defScope s_law_same) f cdv A outer s H E) (E := E) rfl rfl rfl rfl; have hp := passes_of (X := cxOf (L2.CX P w) P w K mg base ["found", "due", "key", "mine", "theirs"] "_law_same" (defScope s_law_same) f cdv A outer s H E) rfl
    exact ⟨[], (sss_cons (ss_if (st_val (se_brw (se_isa2 (se_brw (se_var 1)) B.isinstance B.list (by decide +kernel) B.tuple (by decide +kernel)))) (sss_cons (ss_if (sw_st (sw_or (st_cmp (od_ne hr) (se_brw (se_isa (se_brw (se_var 0)) B.isinstance B.list (by decide +kernel))) (se_brw (se_isa (se_brw (se_var 1)) B.isinstance B.list (by decide +kernel)))) (sw_or1 (st_cmp (od_ne hr) (se_brw (se_isa (se_brw (se_var 0)) B.isinstance B.tuple (by decide +kernel))) (se_brw (se_isa (se_brw (se_var 1)) B.isinstance B.tuple (by decide +kernel))))))) (sss_cons (ss_ret se_bl) (sss_never (Wk := []))) sss_nil) (sss_cons (ss_ret (se_and (se_brw (se_cmp (od_eq hr) (se_brw (se_callB cd_len B.len (by decide +kernel) (sb_cons (se_brw (se_var 0)) sa_nil))) (se_brw (se_callB cd_len B.len (by decide +kernel) (sb_cons (se_brw (se_var 1)) sa_nil))))) (se_one (se_callB (cd_all rfl) B.all (by decide +kernel) (sb_cons (se_brw (se_lc rfl nd (own := [("mine", 3), ("theirs", 4)]) (blkOk_by (N := ["found", "due", "key", "mine", "theirs"]) (sc := defScope s_law_same) (by decide +kernel)) (si_zipA B.zip (sa_cons (se_var 0) (sa_cons (se_var 1) sa_nil))) (fun _ _ _ _ _ => (sg_tupA rfl (sgs_cons (sg_name 3 nd) (sgs_cons (sg_name 4 nd) sgs_nil)))) (fun _ _ _ _ _ => sts_nil) (fun _ _ _ _ _ => (se_call ih hr (by omega) takes0 (sa_cons (se_var 3) (sa_cons (se_var 4) sa_nil)))))) sa_nil))))) (sss_never (Wk := [])))) sss_nil) (sss_cons (ss_if (st_val (se_brw (se_isa (se_brw (se_var 1)) B.isinstance B.dict (by decide +kernel)))) (sss_cons (ss_if (sw_st (sw_or (st_not (st_val (se_brw (se_isa (se_brw (se_var 0)) B.isinstance B.dict (by decide +kernel))))) (sw_or1 (st_not (st_val (se_brw (se_call ih hr (by omega) tk (sa_cons (se_rep (se_callTy (cd_listA rfl) B.list (by decide +kernel) (sb_cons (se_brw (se_var 0)) sa_nil))) (sa_cons (se_rep (se_callTy (cd_listA rfl) B.list (by decide +kernel) (sb_cons (se_brw (se_var 1)) sa_nil))) sa_nil))))))))) (sss_cons (ss_ret se_bl) (sss_never (Wk := []))) sss_nil) (sss_cons (ss_ret (se_callB (cd_all rfl) B.all (by decide +kernel) (sb_cons (se_brw (se_lcK 1 rfl nd (own := [("key", 2)]) (blkOk_by (N := ["found", "due", "key", "mine", "theirs"]) (sc := defScope s_law_same) (by decide +kernel)) (fun _ _ _ _ _ => (sg_name 2 nd)) (fun _ _ _ _ _ => sts_nil) (fun _ _ _ _ _ => (se_call ih hr (by omega) takes0 (sa_cons (se_ix hr (se_brw (se_var 0)) (se_brw (se_var 2))) (sa_cons (se_ix hr (se_brw (se_var 1)) (se_brw (se_var 2))) sa_nil)))))) sa_nil))) (sss_never (Wk := [])))) sss_nil) (sss_cons (ss_if (st_cmp od_is (se_brw (se_var 1)) (se_brw se_non)) (sss_cons (ss_ret (se_cmp od_is (se_brw (se_var 0)) (se_brw se_non))) (sss_never (Wk := []))) sss_nil) (sss_cons (ss_if (st_val (se_brw (se_isa (se_brw (se_var 1)) B.isinstance B.bool (by decide +kernel)))) (sss_cons (ss_ret (se_and (se_brw (se_isa (se_brw (se_var 0)) B.isinstance B.bool (by decide +kernel))) (se_one (se_cmp (od_eq hr) (se_brw (se_var 0)) (se_brw (se_var 1)))))) (sss_never (Wk := []))) sss_nil) (sss_cons (ss_if (st_val (se_brw (se_isa (se_brw (se_var 1)) B.isinstance B.int (by decide +kernel)))) (sss_cons (ss_ret (se_and (se_brw (se_isa (se_brw (se_var 0)) B.isinstance B.int (by decide +kernel))) (se_and (se_brw (se_not (se_brw (se_isa (se_brw (se_var 0)) B.isinstance B.bool (by decide +kernel))))) (se_one (se_cmp (od_eq hr) (se_brw (se_var 0)) (se_brw (se_var 1))))))) (sss_never (Wk := []))) sss_nil) (sss_cons (ss_ret (se_and (se_brw (se_isa (se_brw (se_var 0)) B.isinstance B.str (by decide +kernel))) (se_one (se_cmp (od_eq hr) (se_brw (se_var 0)) (se_brw (se_var 1)))))) (sss_never (Wk := []))))))))⟩
theorem ok_law_same {f : Addr} {fd : FuncData} (B : Bt mg) (F : Fun K "_law_same" "_law_same" s_law_same f fd) (hm : mg "_law_same" = some (.ref f)) (hb : Binds K fd ["found", "due"] [])  :
    FOk P w K mg base "_law_same" 2 9 .rep d_law_same := okr_law_same B F hm hb 8
abbrev s_law_copy : Stmt := top 44
theorem sc_law_copy : FnScope ["thing", "found", "key", "one"] ["thing"] (defScope s_law_copy) := ⟨rfl, rfl, rfl, by decide +kernel, rfl, by decide +kernel, by decide +kernel⟩
theorem okr_law_copy {f : Addr} {fd : FuncData} (B : Bt mg) (F : Fun K "_law_copy" "_law_copy" s_law_copy f fd) (hm : mg "_law_copy" = some (.ref f)) (hb : Binds K fd ["thing"] [])  : (n : Nat) →
    FOk P w K mg base "_law_copy" 1 (1 + n) .rep (d_law_copy_ n)
  | 0 => fok_zero hm F.kp hb rfl
  | n + 1 => fok_of (k := 1 + n) F hm hb sc_law_copy rfl rfl fun cdv A outer s H E hr => by
    have ih := okr_law_copy B F hm hb n
    have nd := sc_law_copy.nd; have tk := takes_of (X := cxOf (L2.CX P w) P w K mg base ["thing", "found", "key", "one"] "_law_copy" (defScope s_law_copy) f cdv A outer s H E) (E := E) rfl rfl rfl rfl; have hp := passes_of (X := cxOf (L2.CX P w) P w K mg base ["thing", "found", "key", "one"] "_law_copy" (defScope s_law_copy) f cdv A outer s H E) rfl
    exact ⟨[], (sss_cons (ss_if (st_val (se_brw (se_isa (se_brw (se_var 0)) B.isinstance B.list (by decide +kernel)))) (sss_cons (ss_ret (se_rep (se_lc rfl nd (own := [("one", 3)]) (blkOk_by (N := ["thing", "found", "key", "one"]) (sc := defScope s_law_copy) (by decide +kernel)) (si_seq (se_var 0)) (fun _ _ _ _ _ => (sg_name 3 nd)) (fun _ _ _ _ _ => sts_nil) (fun _ _ _ _ _ => (se_call ih hr (by omega) takes0 (sa_cons (se_var 3) sa_nil)))))) (sss_never (Wk := []))) sss_nil) (sss_cons (ss_if (st_val (se_brw (se_isa (se_brw (se_var 0)) B.isinstance B.tuple (by decide +kernel)))) (sss_cons (ss_ret (se_callTy cd_tuple B.tuple (by decide +kernel) (sb_cons (se_brw (se_lc rfl nd (own := [("one", 3)]) (blkOk_by (N := ["thing", "found", "key", "one"]) (sc := defScope s_law_copy) (by decide +kernel)) (si_seq (se_var 0)) (fun _ _ _ _ _ => (sg_name 3 nd)) (fun _ _ _ _ _ => sts_nil) (fun _ _ _ _ _ => (se_call ih hr (by omega) takes0 (sa_cons (se_var 3) sa_nil))))) sa_nil))) (sss_never (Wk := []))) sss_nil) (sss_cons (ss_if (st_val (se_brw (se_isa (se_brw (se_var 0)) B.isinstance B.dict (by decide +kernel)))) (sss_cons (ss_setW 1 nd se_dnew) (sss_cons (ss_forK 0 hp rfl (sg_name 2 nd) (sss_cons (ss_dput 1 hr (se_call ih hr (by omega) tk (sa_cons (se_ix hr (se_brw (se_var 0)) (se_brw (se_var 2))) sa_nil)) (se_brw (se_var 2))) sss_nil)) (sss_cons (ss_drop (Wk1 := []) (fun i => i != 1) (ss_ret (se_var 1))) (sss_never (Wk := []))))) sss_nil) (sss_cons (ss_ret (se_var 0)) (sss_never (Wk := []))))))⟩
theorem ok_law_copy {f : Addr} {fd : FuncData} (B : Bt mg) (F : Fun K "_law_copy" "_law_copy" s_law_copy f fd) (hm : mg "_law_copy" = some (.ref f)) (hb : Binds K fd ["thing"] [])  :
    FOk P w K mg base "_law_copy" 1 9 .rep d_law_copy := okr_law_copy B F hm hb 8
abbrev s_law_loose : Stmt := top 45
theorem sc_law_loose : FnScope ["state", "thing", "some", "found", "key", "one"] ["state", "thing"] (defScope s_law_loose) := ⟨rfl, rfl, rfl, by decide +kernel, rfl, by decide +kernel, by decide +kernel⟩
theorem okr_law_loose {f : Addr} {fd : FuncData} (B : Bt mg) (F : Fun K "_law_loose" "_law_loose" s_law_loose f fd) (hm : mg "_law_loose" = some (.ref f)) (hb : Binds K fd ["state", "thing"] []) (h_law_pick : FOk P w K mg base "_law_pick" 2 1 .rep dPick) (h_law_mixed : FOk P w K mg base "_law_mixed" 2 2 .frs d_law_mixed) : (n : Nat) →
    FOk P w K mg base "_law_loose" 2 (3 + n) .rep (d_law_loose_ n)
  | 0 => fok_zero hm F.kp hb rfl
  | n + 1 => fok_of (k := 3 + n) F hm hb sc_law_loose rfl rfl fun cdv A outer s H E hr => by
    have ih := okr_law_loose B F hm hb h_law_pick h_law_mixed n
    have nd := sc_law_loose.nd; have tk := takes_of (X := cxOf (L2.CX P w) P w K mg base ["state", "thing", "some", "found", "key", "one"] "_law_loose" (defScope s_law_loose) f cdv A outer s H E) (E := E) rfl rfl rfl rfl; have hp := passes_of (X := cxOf (L2.CX P w) P w K mg base ["state", "thing", "some", "found", "key", "one"] "_law_loose" (defScope s_law_loose) f cdv A outer s H E) rfl
    exact ⟨[], (sss_cons (ss_if (st_val (se_brw (se_isa2 (se_brw (se_var 1)) B.isinstance B.list (by decide +kernel) B.tuple (by decide +kernel)))) (sss_cons (ss_setLc 2 rfl nd (own := [("one", 5)]) (blkOk_by (N := ["state", "thing", "some", "found", "key", "one"]) (sc := defScope s_law_loose) (by decide +kernel)) (si_seq (se_var 1)) (fun _ _ _ _ _ => (sg_name 5 nd)) (fun _ _ _ _ _ => sts_nil) (fun _ _ _ _ _ => (se_call ih hr (by omega) takes0 (sa_cons (se_var 0) (sa_cons (se_var 5) sa_nil)))) (sw_true rfl rfl rfl (by decide +kernel))) (sss_cons (ss_ret (se_if (st_cmp (od_eq hr) (se_brw (se_call h_law_pick hr (by omega) tk (sa_cons (se_var 0) (sa_cons se_int sa_nil)))) (se_brw se_int)) (se_var 2) (se_callTy cd_tuple B.tuple (by decide +kernel) (sb_cons (se_brw (se_var 2)) sa_nil)))) (sss_never (Wk := [])))) sss_nil) (sss_cons (ss_if (st_val (se_brw (se_isa (se_brw (se_var 1)) B.isinstance B.dict (by decide +kernel)))) (sss_cons (ss_setW 3 nd se_dnew) (sss_cons (ss_for hp rfl (si_seq (se_rep (se_call h_law_mixed hr (by omega) tk (sa_cons (se_var 0) (sa_cons (se_rep (se_callTy (cd_listA rfl) B.list (by decide +kernel) (sb_cons (se_brw (se_var 1)) sa_nil))) sa_nil))))) (sg_name 4 nd) (sss_cons (ss_dput 3 hr (se_call ih hr (by omega) tk (sa_cons (se_var 0) (sa_cons (se_ix hr (se_brw (se_var 1)) (se_brw (se_var 4))) sa_nil))) (se_brw (se_var 4))) sss_nil)) (sss_cons (ss_drop (Wk1 := []) (fun i => i != 3) (ss_ret (se_var 3))) (sss_never (Wk := []))))) sss_nil) (sss_cons (ss_ret (se_var 1)) (sss_never (Wk := [])))))⟩
theorem ok_law_loose {f : Addr} {fd : FuncData} (B : Bt mg) (F : Fun K "_law_loose" "_law_loose" s_law_loose f fd) (hm : mg "_law_loose" = some (.ref f)) (hb : Binds K fd ["state", "thing"] []) (h_law_pick : FOk P w K mg base "_law_pick" 2 1 .rep dPick) (h_law_mixed : FOk P w K mg base "_law_mixed" 2 2 .frs d_law_mixed) :
    FOk P w K mg base "_law_loose" 2 11 .rep d_law_loose := okr_law_loose B F hm hb h_law_pick h_law_mixed 8
abbrev s_law_is_number : Stmt := top 46
theorem sc_law_is_number : FnScope ["thing"] ["thing"] (defScope s_law_is_number) := ⟨rfl, rfl, rfl, by decide +kernel, rfl, by decide +kernel, by decide +kernel⟩
theorem ok_law_is_number {f : Addr} {fd : FuncData} (B : Bt mg) (F : Fun K "_law_is_number" "_law_is_number" s_law_is_number f fd) (hm : mg "_law_is_number" = some (.ref f)) (hb : Binds K fd ["thing"] [])  :
    FOk P w K mg base "_law_is_number" 1 1 .rep d_law_is_number := fok_of F hm hb sc_law_is_number rfl rfl fun cdv A outer s H E hr => by
  have nd := sc_law_is_number.nd; have tk := takes_of (X := cxOf (L2.CX P w) P w K mg base ["thing"] "_law_is_number" (defScope s_law_is_number) f cdv A outer s H E) (E := E) rfl rfl rfl rfl; have hp := passes_of (X := cxOf (L2.CX P w) P w K mg base ["thing"] "_law_is_number" (defScope s_law_is_number) f cdv A outer s H E) rfl
  exact ⟨[], (sss_cons (ss_ret (se_and (se_brw (se_isa (se_brw (se_var 0)) B.isinstance B.int (by decide +kernel))) (se_and (se_brw (se_not (se_brw (se_isa (se_brw (se_var 0)) B.isinstance B.bool (by decide +kernel))))) (se_one (se_cmp od_ge (se_brw (se_var 0)) (se_brw se_int)))))) (sss_never (Wk := [])))⟩
abbrev s_law_strip_of : Stmt := top 47
theorem sc_law_strip_of : FnScope ["raw"] ["raw"] (defScope s_law_strip_of) := ⟨rfl, rfl, rfl, by decide +kernel, rfl, by decide +kernel, by decide +kernel⟩
theorem ok_law_strip_of {f : Addr} {fd : FuncData} (B : Bt mg) (F : Fun K "_law_strip_of" "_law_strip_of" s_law_strip_of f fd) (hm : mg "_law_strip_of" = some (.ref f)) (hb : Binds K fd ["raw"] []) (h_Strip_init__ : IOk P w K mg base "Strip" 3 4 d_Strip_init__) :
    FOk P w K mg base "_law_strip_of" 1 6 .frs d_law_strip_of := fok_of F hm hb sc_law_strip_of rfl rfl fun cdv A outer s H E hr => by
  have nd := sc_law_strip_of.nd; have tk := takes_of (X := cxOf (L2.CX P w) P w K mg base ["raw"] "_law_strip_of" (defScope s_law_strip_of) f cdv A outer s H E) (E := E) rfl rfl rfl rfl; have hp := passes_of (X := cxOf (L2.CX P w) P w K mg base ["raw"] "_law_strip_of" (defScope s_law_strip_of) f cdv A outer s H E) rfl
  exact ⟨[], (sss_cons (ss_retF (se_make h_Strip_init__ hr (by omega) (sa_cons (se_rep (se_callTy (cd_listA rfl) B.list (by decide +kernel) (sb_cons (se_brw (se_ix hr (se_brw (se_var 0)) (se_brw se_int))) sa_nil))) (sa_cons (se_rep (se_callTy (cd_listA rfl) B.list (by decide +kernel) (sb_cons (se_brw (se_ix hr (se_brw (se_var 0)) (se_brw se_int))) sa_nil))) sa_nil)))) (sss_never (Wk := [])))⟩
abbrev s_law_draw_lengths : Stmt := top 48
theorem sc_law_draw_lengths : FnScope ["state", "many", "top", "found", "k"] ["state", "many"] (defScope s_law_draw_lengths) := ⟨rfl, rfl, rfl, by decide +kernel, rfl, by decide +kernel, by decide +kernel⟩
theorem ok_law_draw_lengths {f : Addr} {fd : FuncData} (B : Bt mg) (F : Fun K "_law_draw_lengths" "_law_draw_lengths" s_law_draw_lengths f fd) (hm : mg "_law_draw_lengths" = some (.ref f)) (hb : Binds K fd ["state", "many"] []) (h_law_one : FOk P w K mg base "_law_one" 2 2 .rep d_law_one) (h_law_pick : FOk P w K mg base "_law_pick" 2 1 .rep dPick) :
    FOk P w K mg base "_law_draw_lengths" 2 3 .frs d_law_draw_lengths := fok_of F hm hb sc_law_draw_lengths rfl rfl fun cdv A outer s H E hr => by
  have nd := sc_law_draw_lengths.nd; have tk := takes_of (X := cxOf (L2.CX P w) P w K mg base ["state", "many", "top", "found", "k"] "_law_draw_lengths" (defScope s_law_draw_lengths) f cdv A outer s H E) (E := E) rfl rfl rfl rfl; have hp := passes_of (X := cxOf (L2.CX P w) P w K mg base ["state", "many", "top", "found", "k"] "_law_draw_lengths" (defScope s_law_draw_lengths) f cdv A outer s H E) rfl
  exact ⟨[], (sss_cons (ss_set 2 nd (se_call h_law_one hr (by omega) tk (sa_cons (se_var 0) (sa_cons (se_rep (se_lst (sa_cons se_int (sa_cons se_int (sa_cons se_int (sa_cons se_int (sa_cons se_int sa_nil))))))) sa_nil)))) (sss_cons (ss_setLcW 3 rfl nd (own := [("k", 4)]) (blkOk_by (N := ["state", "many", "top", "found", "k"]) (sc := defScope s_law_draw_lengths) (by decide +kernel)) (si_range1 B.range (sb_cons (se_brw (se_var 1)) sa_nil)) (fun _ _ _ _ _ => (sg_name 4 nd)) (fun _ _ _ _ _ => sts_nil) (fun _ _ _ _ _ => (se_op od_plus (se_brw se_int) (se_brw (se_call h_law_pick hr (by omega) takes0 (sa_cons (se_var 0) (sa_cons (se_var 2) sa_nil)))))) (sw_true rfl rfl rfl (by decide +kernel))) (sss_cons (ss_if (sw_st (sw_and (st_cmp od_gt (se_brw (se_var 1)) (se_brw se_int)) (sw_and1 (st_cmp (od_eq hr) (se_brw (se_call h_law_pick hr (by omega) tk (sa_cons (se_var 0) (sa_cons se_int sa_nil)))) (se_brw se_int))))) (sss_cons (ss_put2 3 rfl (se_op od_plus (se_brw (se_ix hr (sb_var 3) (se_brw se_int))) (se_brw (se_var 2))) (se_op od_plus (se_brw (se_ix hr (sb_var 3) (se_brw (se_neg (se_brw se_int))))) (se_brw (se_var 2))) (se_brw se_int) (se_brw (se_neg (se_brw se_int))) (still_neg (still_c _ _))) sss_nil) sss_nil) (sss_cons (ss_retW 3) (sss_never (Wk := []))))))⟩
abbrev s_law_draw_strip : Stmt := top 49
theorem sc_law_draw_strip : FnScope ["state", "least", "most", "free", "many", "turn", "letters", "k", "letter"] ["state", "least", "most", "free"] (defScope s_law_draw_strip) := ⟨rfl, rfl, rfl, by decide +kernel, rfl, by decide +kernel, by decide +kernel⟩
theorem ok_law_draw_strip {f : Addr} {fd : FuncData} (B : Bt mg) (F : Fun K "_law_draw_strip" "_law_draw_strip" s_law_draw_strip f fd) (hm : mg "_law_draw_strip" = some (.ref f)) (hb : Binds K fd ["state", "least", "most", "free"] []) (h_law_between : FOk P w K mg base "_law_between" 3 2 .rep d_law_between) (h_law_pick : FOk P w K mg base "_law_pick" 2 1 .rep dPick) (h_law_one : FOk P w K mg base "_law_one" 2 2 .rep d_law_one) (h_law_draw_lengths : FOk P w K mg base "_law_draw_lengths" 2 3 .frs d_law_draw_lengths) :
    FOk P w K mg base "_law_draw_strip" 4 4 .frs d_law_draw_strip := fok_of F hm hb sc_law_draw_strip rfl rfl fun cdv A outer s H E hr => by
  have nd := sc_law_draw_strip.nd; have tk := takes_of (X := cxOf (L2.CX P w) P w K mg base ["state", "least", "most", "free", "many", "turn", "letters", "k", "letter"] "_law_draw_strip" (defScope s_law_draw_strip) f cdv A outer s H E) (E := E) rfl rfl rfl rfl; have hp := passes_of (X := cxOf (L2.CX P w) P w K mg base ["state", "least", "most", "free", "many", "turn", "letters", "k", "letter"] "_law_draw_strip" (defScope s_law_draw_strip) f cdv A outer s H E) rfl
  exact ⟨[], (sss_cons (ss_par 4 5 rfl nd (se_call h_law_between hr (by omega) tk (sa_cons (se_var 0) (sa_cons (se_var 1) (sa_cons (se_var 2) sa_nil)))) (se_call h_law_pick hr (by omega) tk (sa_cons (se_var 0) (sa_cons se_int sa_nil)))) (sss_cons (ss_setW 6 nd (se_lst sa_nil)) (sss_cons (ss_for hp rfl (si_range1 B.range (sb_cons (se_brw (se_op od_sub (se_brw (se_var 4)) (se_brw se_int))) sa_nil)) (sg_name 7 nd) (sss_cons (ss_set 8 nd (se_if (sw_st (sw_or (st_cmp od_lt (se_brw (se_var 5)) (se_brw se_int)) (sw_or1 (st_cmp (od_eq hr) (sb_var 6) (se_brw (se_lst sa_nil)))))) (se_call h_law_one hr (by omega) tk (sa_cons (se_var 0) (sa_cons (se_rep (se_lst (sa_cons se_str (sa_cons se_str sa_nil)))) sa_nil))) (se_ix hr (sb_var 6) (se_brw (se_neg (se_brw se_int)))))) (sss_cons (ss_append 6 (se_if (sw_st (sw_and (st_cmp od_gt (se_brw (se_var 3)) (se_brw se_int)) (sw_and1 (st_cmp (od_eq hr) (se_brw (se_call h_law_pick hr (by omega) tk (sa_cons (se_var 0) (sa_cons (se_var 3) sa_nil)))) (se_brw se_int))))) se_str (se_var 8))) sss_nil))) (sss_cons (ss_drop (Wk1 := []) (fun i => i != 6) (ss_retF (se_lst (sa_cons (se_rep (se_call h_law_draw_lengths hr (by omega) tk (sa_cons (se_var 0) (sa_cons (se_var 4) sa_nil)))) (sa_cons (se_var 6) sa_nil))))) (sss_never (Wk := []))))))⟩
abbrev s_law_steps : Stmt := top 50
theorem sc_law_steps : FnScope ["raw", "lengths", "letters", "found", "many", "s"] ["raw"] (defScope s_law_steps) := ⟨rfl, rfl, rfl, by decide +kernel, rfl, by decide +kernel, by decide +kernel⟩
theorem ok_law_steps {f : Addr} {fd : FuncData} (B : Bt mg) (F : Fun K "_law_steps" "_law_steps" s_law_steps f fd) (hm : mg "_law_steps" = some (.ref f)) (hb : Binds K fd ["raw"] [])  :
    FOk P w K mg base "_law_steps" 1 1 .frs d_law_steps := fok_of F hm hb sc_law_steps rfl rfl fun cdv A outer s H E hr => by
  have nd := sc_law_steps.nd; have tk := takes_of (X := cxOf (L2.CX P w) P w K mg base ["raw", "lengths", "letters", "found", "many", "s"] "_law_steps" (defScope s_law_steps) f cdv A outer s H E) (E := E) rfl rfl rfl rfl; have hp := passes_of (X := cxOf (L2.CX P w) P w K mg base ["raw", "lengths", "letters", "found", "many", "s"] "_law_steps" (defScope s_law_steps) f cdv A outer s H E) rfl
  exact ⟨[], (sss_cons (ss_par3W 1 2 3 rfl nd (se_ix hr (se_brw (se_var 0)) (se_brw se_int)) (se_ix hr (se_brw (se_var 0)) (se_brw se_int)) (se_lst sa_nil)) (sss_cons (ss_set 4 nd (se_callB cd_len B.len (by decide +kernel) (sb_cons (se_brw (se_var 1)) sa_nil))) (sss_cons (ss_if (sw_st (sw_and (st_cmp od_gt (se_brw (se_var 4)) (se_brw se_int)) (sw_and1 (st_cmp od_le (se_brw (se_ix hr (se_brw (se_var 1)) (se_brw se_int))) (se_brw (se_ix hr (se_brw (se_var 1)) (se_brw se_int))))))) (sss_cons (ss_append 3 (se_tup (sa_cons se_str (sa_cons se_int sa_nil)))) sss_nil) sss_nil) (sss_cons (ss_if (sw_st (sw_and (st_cmp od_gt (se_brw (se_var 4)) (se_brw se_int)) (sw_and1 (st_cmp od_le (se_brw (se_ix hr (se_brw (se_var 1)) (se_brw (se_neg (se_brw se_int))))) (se_brw (se_ix hr (se_brw (se_var 1)) (se_brw (se_neg (se_brw se_int))))))))) (sss_cons (ss_append 3 (se_tup (sa_cons se_str (sa_cons (se_op od_sub (se_brw (se_var 4)) (se_brw se_int)) sa_nil)))) sss_nil) sss_nil) (sss_cons (ss_for hp rfl (si_range2 B.range (sb_cons (se_brw se_int) (sb_cons (se_brw (se_op od_sub (se_brw (se_var 4)) (se_brw se_int))) sa_nil))) (sg_name 5 nd) (sss_cons (ss_if (sw_st (sw_and (st_cmp od_le (se_brw (se_ix hr (se_brw (se_var 1)) (se_brw (se_var 5)))) (se_brw (se_callB (cd_min rfl) B.min (by decide +kernel) (sb_cons (se_brw (se_ix hr (se_brw (se_var 1)) (se_brw (se_op od_sub (se_brw (se_var 5)) (se_brw se_int))))) (sb_cons (se_brw (se_ix hr (se_brw (se_var 1)) (se_brw (se_op od_plus (se_brw (se_var 5)) (se_brw se_int))))) sa_nil))))) (sw_and1 (st_cmp (od_eq hr) (se_brw (se_callB cd_sortS2 B.sorted (by decide +kernel) (sb_cons (se_brw (se_lst (sa_cons (se_ix hr (se_brw (se_var 2)) (se_brw (se_op od_sub (se_brw (se_var 5)) (se_brw se_int)))) (sa_cons (se_ix hr (se_brw (se_var 2)) (se_brw (se_var 5))) sa_nil)))) sa_nil))) (se_brw (se_lst (sa_cons se_str (sa_cons se_str sa_nil)))))))) (sss_cons (ss_append 3 (se_tup (sa_cons se_str (sa_cons (se_var 5) sa_nil)))) sss_nil) sss_nil) sss_nil)) (sss_cons (ss_retW 3) (sss_never (Wk := []))))))))⟩
abbrev s_law_after : Stmt := top 51
theorem sc_law_after : FnScope ["raw", "step", "lengths", "letters", "word", "s", "one"] ["raw", "step"] (defScope s_law_after) := ⟨rfl, rfl, rfl, by decide +kernel, rfl, by decide +kernel, by decide +kernel⟩
theorem ok_law_after {f : Addr} {fd : FuncData} (B : Bt mg) (F : Fun K "_law_after" "_law_after" s_law_after f fd) (hm : mg "_law_after" = some (.ref f)) (hb : Binds K fd ["raw", "step"] [])  :
    FOk P w K mg base "_law_after" 2 1 .frs d_law_after := fok_of F hm hb sc_law_after rfl rfl fun cdv A outer s H E hr => by
  have nd := sc_law_after.nd; have tk := takes_of (X := cxOf (L2.CX P w) P w K mg base ["raw", "step", "lengths", "letters", "word", "s", "one"] "_law_after" (defScope s_law_after) f cdv A outer s H E) (E := E) rfl rfl rfl rfl; have hp := passes_of (X := cxOf (L2.CX P w) P w K mg base ["raw", "step", "lengths", "letters", "word", "s", "one"] "_law_after" (defScope s_law_after) f cdv A outer s H E) rfl
  exact ⟨[], (sss_cons (ss_asg (se_var 0) (sg_tupA rfl (sgs_cons (sg_name 2 nd) (sgs_cons (sg_name 3 nd) sgs_nil)))) (sss_cons (ss_asg (se_var 1) (sg_tupA rfl (sgs_cons (sg_name 4 nd) (sgs_cons (sg_name 5 nd) sgs_nil)))) (sss_cons (ss_if (st_cmp (od_eq hr) (se_brw (se_var 4)) (se_brw se_str)) (sss_cons (ss_retF (se_if (st_cmp (od_eq hr) (se_brw (se_var 5)) (se_brw se_int)) (se_lst (sa_cons (se_rep (se_slice (se_brw (se_var 2)) (so_some (se_brw se_int)) so_none)) (sa_cons (se_rep (se_slice (se_brw (se_var 3)) (so_some (se_brw se_int)) so_none)) sa_nil))) (se_lst (sa_cons (se_rep (se_slice (se_brw (se_var 2)) so_none (so_some (se_brw (se_neg (se_brw se_int)))))) (sa_cons (se_rep (se_slice (se_brw (se_var 3)) so_none (so_some (se_brw (se_neg (se_brw se_int)))))) sa_nil))))) (sss_never (Wk := []))) sss_nil) (sss_cons (ss_set 6 nd (se_op od_plus (se_brw (se_op od_sub (se_brw (se_ix hr (se_brw (se_var 2)) (se_brw (se_op od_sub (se_brw (se_var 5)) (se_brw se_int))))) (se_brw (se_ix hr (se_brw (se_var 2)) (se_brw (se_var 5)))))) (se_brw (se_ix hr (se_brw (se_var 2)) (se_brw (se_op od_plus (se_brw (se_var 5)) (se_brw se_int))))))) (sss_cons (ss_retF (se_lst (sa_cons (se_op od_plus (se_brw (se_op od_plus (se_brw (se_slice (se_brw (se_var 2)) so_none (so_some (se_brw (se_op od_sub (se_brw (se_var 5)) (se_brw se_int)))))) (se_brw (se_lst (sa_cons (se_var 6) sa_nil))))) (se_brw (se_slice (se_brw (se_var 2)) (so_some (se_brw (se_op od_plus (se_brw (se_var 5)) (se_brw se_int)))) so_none))) (sa_cons (se_op od_plus (se_brw (se_slice (se_brw (se_var 3)) so_none (so_some (se_brw (se_op od_sub (se_brw (se_var 5)) (se_brw se_int)))))) (se_brw (se_slice (se_brw (se_var 3)) (so_some (se_brw (se_op od_plus (se_brw (se_var 5)) (se_brw se_int)))) so_none))) sa_nil)))) (sss_never (Wk := [])))))))⟩
abbrev s_law_done : Stmt := top 52
theorem sc_law_done : FnScope ["raw", "things", "at", "thing"] ["raw", "things"] (defScope s_law_done) := ⟨rfl, rfl, rfl, by decide +kernel, rfl, by decide +kernel, by decide +kernel⟩
theorem ok_law_done {f : Addr} {fd : FuncData} (B : Bt mg) (F : Fun K "_law_done" "_law_done" s_law_done f fd) (hm : mg "_law_done" = some (.ref f)) (hb : Binds K fd ["raw", "things"] []) (h_law_is_number : FOk P w K mg base "_law_is_number" 1 1 .rep d_law_is_number) (h_law_steps : FOk P w K mg base "_law_steps" 1 1 .frs d_law_steps) (h_law_after : FOk P w K mg base "_law_after" 2 1 .frs d_law_after) :
    FOk P w K mg base "_law_done" 2 2 .rep d_law_done := fok_of F hm hb sc_law_done rfl rfl fun cdv A outer s H E hr => by
  have nd := sc_law_done.nd; have tk := takes_of (X := cxOf (L2.CX P w) P w K mg base ["raw", "things", "at", "thing"] "_law_done" (defScope s_law_done) f cdv A outer s H E) (E := E) rfl rfl rfl rfl; have hp := passes_of (X := cxOf (L2.CX P w) P w K mg base ["raw", "things", "at", "thing"] "_law_done" (defScope s_law_done) f cdv A outer s H E) rfl
  exact ⟨[], (sss_cons (ss_if (st_not (st_val (se_brw (se_isa2 (se_brw (se_var 1)) B.isinstance B.list (by decide +kernel) B.tuple (by decide +kernel))))) (sss_cons (ss_ret (se_tup (sa_cons se_non (sa_cons se_int sa_nil)))) (sss_never (Wk := []))) sss_nil) (sss_cons (ss_for hp rfl (si_range1 B.range (sb_cons (se_brw (se_callB cd_len B.len (by decide +kernel) (sb_cons (se_brw (se_var 1)) sa_nil))) sa_nil)) (sg_name 2 nd) (sss_cons (ss_set 3 nd (se_ix hr (se_brw (se_var 1)) (se_brw (se_var 2)))) (sss_cons (ss_if (sw_st (sw_or (st_not (st_val (se_brw (se_isa2 (se_brw (se_var 3)) B.isinstance B.list (by decide +kernel) B.tuple (by decide +kernel))))) (sw_or (st_cmp (od_ne hr) (se_brw (se_callB cd_len B.len (by decide +kernel) (sb_cons (se_brw (se_var 3)) sa_nil))) (se_brw se_int)) (sw_or (st_not (st_val (se_brw (se_isa (se_brw (se_ix hr (se_brw (se_var 3)) (se_brw se_int))) B.isinstance B.str (by decide +kernel))))) (sw_or1 (st_not (st_val (se_brw (se_call h_law_is_number hr (by omega) tk (sa_cons (se_ix hr (se_brw (se_var 3)) (se_brw se_int)) sa_nil)))))))))) (sss_cons (ss_ret (se_tup (sa_cons se_non (sa_cons (se_var 2) sa_nil)))) (sss_never (Wk := []))) sss_nil) (sss_cons (ss_if (st_cmp (od_ninA hr) (se_brw (se_tup (sa_cons (se_ix hr (se_brw (se_var 3)) (se_brw se_int)) (sa_cons (se_ix hr (se_brw (se_var 3)) (se_brw se_int)) sa_nil)))) (se_brw (se_call h_law_steps hr (by omega) tk (sa_cons (se_var 0) sa_nil)))) (sss_cons (ss_ret (se_tup (sa_cons se_non (sa_cons (se_var 2) sa_nil)))) (sss_never (Wk := []))) sss_nil) (sss_cons (ss_set 0 nd (se_rep (se_call h_law_after hr (by omega) tk (sa_cons (se_var 0) (sa_cons (se_tup (sa_cons (se_ix hr (se_brw (se_var 3)) (se_brw se_int)) (sa_cons (se_ix hr (se_brw (se_var 3)) (se_brw se_int)) sa_nil))) sa_nil))))) sss_nil))))) (sss_cons (ss_ret (se_tup (sa_cons (se_var 0) (sa_cons se_non sa_nil)))) (sss_never (Wk := [])))))⟩
abbrev s_law_down : Stmt := top 53
theorem sc_law_down : FnScope ["state", "raw", "found"] ["state", "raw"] (defScope s_law_down) := ⟨rfl, rfl, rfl, by decide +kernel, rfl, by decide +kernel, by decide +kernel⟩
theorem ok_law_down {f : Addr} {fd : FuncData} (B : Bt mg) (F : Fun K "_law_down" "_law_down" s_law_down f fd) (hm : mg "_law_down" = some (.ref f)) (hb : Binds K fd ["state", "raw"] []) (h_law_one : FOk P w K mg base "_law_one" 2 2 .rep d_law_one) (h_law_steps : FOk P w K mg base "_law_steps" 1 1 .frs d_law_steps) (h_law_after : FOk P w K mg base "_law_after" 2 1 .frs d_law_after) :
    FOk P w K mg base "_law_down" 2 3 .rep d_law_down := fok_of F hm hb sc_law_down rfl rfl fun cdv A outer s H E hr => by
  have nd := sc_law_down.nd; have tk := takes_of (X := cxOf (L2.CX P w) P w K mg base ["state", "raw", "found"] "_law_down" (defScope s_law_down) f cdv A outer s H E) (E := E) rfl rfl rfl rfl; have hp := passes_of (X := cxOf (L2.CX P w) P w K mg base ["state", "raw", "found"] "_law_down" (defScope s_law_down) f cdv A outer s H E) rfl
  exact ⟨[], (sss_cons (ss_setW 2 nd (se_lst sa_nil)) (sss_cons (ss_while (n := 100000) hp (st_cmp (od_ne hr) (se_brw (se_call h_law_steps hr (by omega) tk (sa_cons (se_var 1) sa_nil))) (se_brw (se_lst sa_nil))) (sss_cons (ss_append 2 (se_call h_law_one hr (by omega) tk (sa_cons (se_var 0) (sa_cons (se_rep (se_call h_law_steps hr (by omega) tk (sa_cons (se_var 1) sa_nil))) sa_nil)))) (sss_cons (ss_set 1 nd (se_rep (se_call h_law_after hr (by omega) tk (sa_cons (se_var 1) (sa_cons (se_ix hr (sb_var 2) (se_brw (se_neg (se_brw se_int)))) sa_nil))))) sss_nil))) (sss_cons (ss_drop (Wk1 := []) (fun i => i != 2) (ss_ret (se_tup (sa_cons (se_var 2) (sa_cons (se_var 1) sa_nil))))) (sss_never (Wk := [])))))⟩
abbrev s_law_odd_steps : Stmt := top 55
theorem sc_law_odd_steps : FnScope ["state", "raw", "many", "some", "found", "s", "step"] ["state", "raw"] (defScope s_law_odd_steps) := ⟨rfl, rfl, rfl, by decide +kernel, rfl, by decide +kernel, by decide +kernel⟩
theorem ok_law_odd_steps {f : Addr} {fd : FuncData} (B : Bt mg) (F : Fun K "_law_odd_steps" "_law_odd_steps" s_law_odd_steps f fd) (hm : mg "_law_odd_steps" = some (.ref f)) (hb : Binds K fd ["state", "raw"] []) (h_law_steps : FOk P w K mg base "_law_steps" 1 1 .frs d_law_steps) :
    FOk P w K mg base "_law_odd_steps" 2 2 .frs d_law_odd_steps := fok_of F hm hb sc_law_odd_steps rfl rfl fun cdv A outer s H E hr => by
  have nd := sc_law_odd_steps.nd; have tk := takes_of (X := cxOf (L2.CX P w) P w K mg base ["state", "raw", "many", "some", "found", "s", "step"] "_law_odd_steps" (defScope s_law_odd_steps) f cdv A outer s H E) (E := E) rfl rfl rfl rfl; have hp := passes_of (X := cxOf (L2.CX P w) P w K mg base ["state", "raw", "many", "some", "found", "s", "step"] "_law_odd_steps" (defScope s_law_odd_steps) f cdv A outer s H E) rfl
  exact ⟨[], (sss_cons (ss_asg (se_tup (sa_cons (se_callB cd_len B.len (by decide +kernel) (sb_cons (se_brw (se_ix hr (se_brw (se_var 1)) (se_brw se_int))) sa_nil)) (sa_cons (se_rep (se_call h_law_steps hr (by omega) tk (sa_cons (se_var 1) sa_nil))) sa_nil))) (sg_tupA rfl (sgs_cons (sg_name 2 nd) (sgs_cons (sg_name 3 nd) sgs_nil)))) (sss_cons (ss_setW 4 nd (se_lst (sa_cons se_non (sa_cons se_int (sa_cons se_str (sa_cons (se_rep (se_lst sa_nil)) (sa_cons (se_tup (sa_cons se_str sa_nil)) (sa_cons (se_tup (sa_cons se_str (sa_cons se_int (sa_cons se_int sa_nil)))) (sa_cons (se_tup (sa_cons se_str (sa_cons se_int sa_nil))) (sa_cons (se_tup (sa_cons se_str (sa_cons (se_neg (se_brw se_int)) sa_nil))) (sa_cons (se_tup (sa_cons se_str (sa_cons se_non sa_nil))) (sa_cons (se_tup (sa_cons se_str (sa_cons se_bl sa_nil))) (sa_cons (se_tup (sa_cons se_str (sa_cons se_int sa_nil))) (sa_cons (se_tup (sa_cons se_str (sa_cons (se_op od_sub (se_brw (se_var 2)) (se_brw se_int)) sa_nil))) (sa_cons (se_rep (se_lst (sa_cons se_str sa_nil))) (sa_cons (se_rep se_dnew) (sa_cons (se_tup (sa_cons se_int (sa_cons se_str sa_nil))) sa_nil))))))))))))))))) (sss_cons (ss_for hp rfl (si_range1 B.range (sb_cons (se_brw (se_op od_plus (se_brw (se_var 2)) (se_brw se_int))) sa_nil)) (sg_name 5 nd) (sss_cons (ss_extend 4 (se_rep (se_lc rfl nd (own := [("step", 6)]) (blkOk_by (N := ["state", "raw", "many", "some", "found", "s", "step"]) (sc := defScope s_law_odd_steps) (by decide +kernel)) (si_seq (se_tup (sa_cons (se_tup (sa_cons se_str (sa_cons (se_var 5) sa_nil))) (sa_cons (se_tup (sa_cons se_str (sa_cons (se_var 5) sa_nil))) sa_nil)))) (fun _ _ _ _ _ => (sg_name 6 nd)) (fun _ _ _ _ _ => (sts_one (st_cmp (od_ninA hr) (se_brw (se_var 6)) (se_brw (se_var 3))))) (fun _ _ _ _ _ => (se_var 6))))) sss_nil)) (sss_cons (ss_retW 4) (sss_never (Wk := []))))))⟩
abbrev s_law_things_right : Stmt := top 56
theorem sc_law_things_right : FnScope ["state", "raw", "strip", "things", "left", "wrong", "handed", "before", "found"] ["state", "raw", "strip", "things"] (defScope s_law_things_right) := ⟨rfl, rfl, rfl, by decide +kernel, rfl, by decide +kernel, by decide +kernel⟩
theorem ok_law_things_right {f c T : Addr} {fd : FuncData} (B : Bt mg) (F : FunC K "_law_things_right" s_law_things_right f fd c T) (hm : mg "_law_things_right" = some (.ref f)) (tb : LamX.TabB base mg c T) (hb : Binds K fd ["state", "raw", "strip", "things"] []) (h_law_done : FOk P w K mg base "_law_done" 2 2 .rep d_law_done) (h_law_loose : FOk P w K mg base "_law_loose" 2 11 .rep d_law_loose) (h_law_copy : FOk P w K mg base "_law_copy" 1 9 .rep d_law_copy) (h_done : FOk P w K mg base "done" 2 6 .frs d_done) (h_law_same : FOk P w K mg base "_law_same" 2 9 .rep d_law_same) (h_Strip_creases : MOk P w K mg base "Strip" "creases" 1 1 .frs d_Strip_creases) (h_Strip_lengths : MOk P w K mg base "Strip" "lengths" 1 1 .frs d_Strip_lengths) (IG_Strip : InG K mg "Strip") (TO_law_told : TOk K mg "_law_told" "told" hs_law_told) (TL_law_told : Told K mg hs_law_told cl_law_told) :
    FOk P w K mg base "_law_things_right" 4 12 .rep d_law_things_right := fok_ofC F (by decide) hm tb hb sc_law_things_right rfl rfl fun A outer s H E hr L => by
  have nd := sc_law_things_right.nd; have tk := takes_of (X := cxOf (L2.CX P w) P w K mg base ["state", "raw", "strip", "things", "left", "wrong", "handed", "before", "found"] "_law_things_right" (defScope s_law_things_right) f (.ref c) A outer s H E) (E := E) rfl rfl rfl rfl; have hp := passes_of (X := cxOf (L2.CX P w) P w K mg base ["state", "raw", "strip", "things", "left", "wrong", "handed", "before", "found"] "_law_things_right" (defScope s_law_things_right) f (.ref c) A outer s H E) rfl
  exact ⟨[], (sss_cons (ss_asg (se_call h_law_done hr (by omega) tk (sa_cons (se_var 1) (sa_cons (se_var 3) sa_nil))) (sg_tupA rfl (sgs_cons (sg_name 4 nd) (sgs_cons (sg_name 5 nd) sgs_nil)))) (sss_cons (ss_set 6 nd (se_call h_law_loose hr (by omega) tk (sa_cons (se_var 0) (sa_cons (se_var 3) sa_nil)))) (sss_cons (ss_set 7 nd (se_call h_law_copy hr (by omega) tk (sa_cons (se_var 6) sa_nil))) (sss_cons (ss_set 8 nd (se_rep (se_lamtold (k := 6) TO_law_told TL_law_told L hr (by omega) (fun A outer s H E f_ c_ hr => (fun (tkL : Takes _ (WE0 E)) => (se_rep (se_call h_done hr (by omega) tkL (sa_cons (se_var 2) (sa_cons (se_var 6) sa_nil))))) (takes_of rfl rfl rfl rfl)) (LamX.lamS_by (sc := defScope s_law_things_right) (by decide +kernel))))) (sss_cons (ss_if (st_not (st_val (se_brw (se_call h_law_same hr (by omega) tk (sa_cons (se_var 6) (sa_cons (se_var 7) sa_nil)))))) (sss_cons (ss_ret se_bl) (sss_never (Wk := []))) sss_nil) (sss_cons (ss_if (st_cmp od_isnt (se_brw (se_var 5)) (se_brw se_non)) (sss_cons (ss_ret (se_call h_law_same hr (by omega) tk (sa_cons (se_var 8) (sa_cons (se_rep (se_lst (sa_cons se_str (sa_cons (se_var 5) sa_nil)))) sa_nil)))) (sss_never (Wk := []))) sss_nil) (sss_cons (ss_ret (se_and (se_brw (se_cmp (od_eq hr) (se_brw (se_ix hr (se_brw (se_var 8)) (se_brw se_int))) (se_brw se_str))) (se_and (se_brw (se_isInG IG_Strip (se_brw (se_ix hr (se_brw (se_var 8)) (se_brw se_int))) B.isinstance)) (se_one (se_call h_law_same hr (by omega) tk (sa_cons (se_rep (se_lst (sa_cons (se_rep (se_meth0 h_Strip_lengths hr (by omega) (se_ix hr (se_brw (se_var 8)) (se_brw se_int)))) (sa_cons (se_rep (se_meth0 h_Strip_creases hr (by omega) (se_ix hr (se_brw (se_var 8)) (se_brw se_int)))) sa_nil)))) (sa_cons (se_var 4) sa_nil))))))) (sss_never (Wk := [])))))))))⟩
abbrev s_law_start : Stmt := top 38
theorem sc_law_start : FnScope ["script"] ["script"] (defScope s_law_start) := ⟨rfl, rfl, rfl, by decide +kernel, rfl, by decide +kernel, by decide +kernel⟩
theorem ok_law_start {f : Addr} {fd : FuncData} (B : Bt mg) (F : Fun K "_law_start" "_law_start" s_law_start f fd) (hm : mg "_law_start" = some (.ref f)) (hb : Binds K fd ["script"] []) : StOk P w K mg base := by
  refine ⟨f, fd, hm, F.kp, hb, F.okX sc_law_start (fun vs H Q E h => by obtain ⟨a, ns, rfl, _⟩ := h; rfl) fun cdv A outer s H vs Q E hr hh => ?_⟩
  obtain ⟨a, ns, rfl, hs, hq⟩ := hh
  exact ⟨_, pss_one (ps_ret (pe_lst (pa_cons (pe_callTy call_list_of (by rfl) B.list (by decide +kernel) (pa_cons (pv 0) pa_nil)) (pa_cons pe_int (pa_cons pe_int (pa_cons pe_int pa_nil)))))), start_read rfl hs hq⟩
abbrev s_law : Stmt := top 57
theorem sc_law : FnScope ["script", "state", "turn", "raw", "strip", "some", "left", "things", "k", "thing", "odd", "at"] ["script"] (defScope s_law) := ⟨rfl, rfl, rfl, by decide +kernel, rfl, by decide +kernel, by decide +kernel⟩
theorem ok_law {f c T : Addr} {fd : FuncData} {tb : List (Addr × Str)} (B : Bt mg) (F : FunC K "law" s_law f fd c T) (hm : mg "law" = some (.ref f)) (tbb : LamX.TabB base mg c T) (S : TbS K mg tb) (hS : StOk P w K mg base) (h_law_draw_strip : FOk P w K mg base "_law_draw_strip" 4 4 .frs d_law_draw_strip) (h_law_one : FOk P w K mg base "_law_one" 2 2 .rep d_law_one) (h_law_strip_of : FOk P w K mg base "_law_strip_of" 1 6 .frs d_law_strip_of) (h_law_down : FOk P w K mg base "_law_down" 2 3 .rep d_law_down) (h_law_mixed : FOk P w K mg base "_law_mixed" 2 2 .frs d_law_mixed) (h_law_pick : FOk P w K mg base "_law_pick" 2 1 .rep dPick) (h_law_odd_steps : FOk P w K mg base "_law_odd_steps" 2 2 .frs d_law_odd_steps) (h_law_things_right : FOk P w K mg base "_law_things_right" 4 12 .rep d_law_things_right) (h_law_same : FOk P w K mg base "_law_same" 2 9 .rep d_law_same) (h_done : FOk P w K mg base "done" 2 6 .frs d_done) (h_law_copy : FOk P w K mg base "_law_copy" 1 9 .rep d_law_copy) (TO_law_told : TOk K mg "_law_told" "told" hs_law_told) (TL_law_told : Told K mg hs_law_told cl_law_told)
    (hlaw : ∀ ns : List Int, ns.length ≤ 63 → ∃ g2, b_law (lawP 12) ⟨ns, 0, 0, 29⟩ = .ret (.bl true) g2) : FnOk P w K mg base (L2.CX P w) 13 f fd ["script"] (spLaw 63 tb K) := by
  obtain ⟨oc_, od_, kV_, doc_, pm_, an_, ct_, osl_, rfl, lk_, hcd_⟩ := id F.ex
  refine fn_of (k := 12) lk_ hcd_ sc_law (fun vs H Q E h => by obtain ⟨a, ns, rfl, _⟩ := h; rfl) fun A outer s H vs Q E hr hh => ?_
  have L := F.at_ (P := P) (w := w) (CX := L2.CX P w) (N := ["script", "state", "turn", "raw", "strip", "some", "left", "things", "k", "thing", "odd", "at"]) (A := A) (outer := outer) (s := s) (H := H) (E := E) (by decide) hm tbb
  obtain ⟨a, ns, rfl, hl, hs, htb, hq⟩ := hh
  obtain ⟨g2, hg2⟩ := hlaw ns hl
  obtain ⟨fS, fdS, hmS, hkS, hbS, FS⟩ := hS.ex
  have nd := sc_law.nd; have tk := takes_of (X := cxOf (L2.CX P w) P w K mg base ["script", "state", "turn", "raw", "strip", "some", "left", "things", "k", "thing", "odd", "at"] "law" (defScope s_law) f (.ref c) A outer s H E) (E := E) rfl rfl rfl rfl; have hp := passes_of (X := cxOf (L2.CX P w) P w K mg base ["script", "state", "turn", "raw", "strip", "some", "left", "things", "k", "thing", "odd", "at"] "law" (defScope s_law) f (.ref c) A outer s H E) rfl
  obtain ⟨t, ht, hh⟩ := law_go (X := cxOf (L2.CX P w) P w K mg base ["script", "state", "turn", "raw", "strip", "some", "left", "things", "k", "thing", "odd", "at"] "law" (defScope s_law) f (.ref c) A outer s H E) (E := E) (rest := (defBody s_law).drop 1) (N := ["script", "state", "turn", "raw", "strip", "some", "left", "things", "k", "thing", "odd", "at"]) (n := 12) (a := a) (H := H) (Wk' := []) (D := { nx := fun _ H2 => Q .non H2, rt := Q }) rfl ((sss_cons (ss_for hp rfl (si_range1 B.range (sb_cons (se_brw se_int) sa_nil)) (sg_name 2 nd) (sss_cons (ss_set 3 nd (se_rep (se_call h_law_draw_strip hr (by omega) tk (sa_cons (se_var 1) (sa_cons se_int (sa_cons (se_call h_law_one hr (by omega) tk (sa_cons (se_var 1) (sa_cons (se_rep (se_lst (sa_cons se_int (sa_cons se_int (sa_cons se_int sa_nil))))) sa_nil))) (sa_cons (se_call h_law_one hr (by omega) tk (sa_cons (se_var 1) (sa_cons (se_rep (se_lst (sa_cons se_int (sa_cons se_int sa_nil)))) sa_nil))) sa_nil))))))) (sss_cons (ss_set 4 nd (se_rep (se_call h_law_strip_of hr (by omega) tk (sa_cons (se_var 3) sa_nil)))) (sss_cons (ss_asg (se_call h_law_down hr (by omega) tk (sa_cons (se_var 1) (sa_cons (se_var 3) sa_nil))) (sg_tupA rfl (sgs_cons (sg_name 5 nd) (sgs_cons (sg_name 6 nd) sgs_nil)))) (sss_cons (ss_setW 7 nd (se_lst (sa_cons (se_var 5) (sa_cons (se_rep (se_slice (se_brw (se_var 5)) so_none (so_some (se_brw (se_call h_law_pick hr (by omega) tk (sa_cons (se_var 1) (sa_cons (se_op od_plus (se_brw (se_callB cd_len B.len (by decide +kernel) (sb_cons (se_brw (se_var 5)) sa_nil))) (se_brw se_int)) sa_nil))))))) (sa_cons (se_rep (se_lst sa_nil)) (sa_cons (se_op od_plus (se_brw (se_var 5)) (se_brw (se_lst (sa_cons (se_tup (sa_cons se_str (sa_cons se_int sa_nil))) sa_nil)))) (sa_cons (se_op od_plus (se_brw (se_var 5)) (se_brw (se_slice (se_brw (se_var 5)) so_none (so_some (se_brw se_int))))) (sa_cons (se_rep (se_call h_law_mixed hr (by omega) tk (sa_cons (se_var 1) (sa_cons (se_var 5) sa_nil)))) sa_nil)))))))) (sss_cons (ss_for hp rfl (si_range1 B.range (sb_cons (se_brw se_int) sa_nil)) (sg_name 8 nd) (sss_cons (ss_set 11 nd (se_call h_law_pick hr (by omega) tk (sa_cons (se_var 1) (sa_cons (se_op od_plus (se_brw (se_callB cd_len B.len (by decide +kernel) (sb_cons (se_brw (se_var 5)) sa_nil))) (se_brw se_int)) sa_nil)))) (sss_cons (ss_append 7 (se_op od_plus (se_brw (se_op od_plus (se_brw (se_slice (se_brw (se_var 5)) so_none (so_some (se_brw (se_var 11))))) (se_brw (se_lst (sa_cons (se_call h_law_one hr (by omega) tk (sa_cons (se_var 1) (sa_cons (se_rep (se_call h_law_odd_steps hr (by omega) tk (sa_cons (se_var 1) (sa_cons (se_var 3) sa_nil)))) sa_nil))) sa_nil))))) (se_brw (se_slice (se_brw (se_var 5)) (so_some (se_brw (se_var 11))) so_none)))) sss_nil))) (sss_cons (ss_drop (Wk1 := []) (fun i => i != 7) (ss_for hp rfl (si_seq (se_var 7)) (sg_name 9 nd) (sss_cons (ss_if (st_not (st_val (se_brw (se_call h_law_things_right hr (by omega) tk (sa_cons (se_var 1) (sa_cons (se_var 3) (sa_cons (se_var 4) (sa_cons (se_var 9) sa_nil)))))))) (sss_cons (ss_ret se_bl) (sss_never (Wk := []))) sss_nil) sss_nil))) (sss_cons (ss_for hp rfl (si_seq (se_tup (sa_cons se_non (sa_cons se_int (sa_cons se_str (sa_cons (se_rep se_dnew) (sa_cons se_bl sa_nil))))))) (sg_name 10 nd) (sss_cons (ss_if (st_not (st_val (se_brw (se_call h_law_same hr (by omega) tk (sa_cons (se_rep (se_lamtold (k := 9) TO_law_told TL_law_told L hr (by omega) (fun A outer s H E f_ c_ hr => (fun (tkL : Takes _ (WE0 E)) => (se_rep (se_call h_done hr (by omega) tkL (sa_cons (se_var 4) (sa_cons (se_call h_law_copy hr (by omega) tkL (sa_cons (se_var 10) sa_nil)) sa_nil))))) (takes_of rfl rfl rfl rfl)) (LamX.lamS_by (sc := defScope s_law) (by decide +kernel)))) (sa_cons (se_rep (se_lst (sa_cons se_str (sa_cons se_int sa_nil)))) sa_nil)))))) (sss_cons (ss_ret se_bl) (sss_never (Wk := []))) sss_nil) (sss_cons (ss_if (st_not (st_val (se_brw (se_call h_law_same hr (by omega) tk (sa_cons (se_rep (se_lamtold (k := 9) TO_law_told TL_law_told L hr (by omega) (fun A outer s H E f_ c_ hr => (fun (tkL : Takes _ (WE0 E)) => (se_rep (se_call h_done hr (by omega) tkL (sa_cons (se_call h_law_copy hr (by omega) tkL (sa_cons (se_var 10) sa_nil)) (sa_cons se_non sa_nil))))) (takes_of rfl rfl rfl rfl)) (LamX.lamS_by (sc := defScope s_law) (by decide +kernel)))) (sa_cons (se_rep (se_lst (sa_cons se_str (sa_cons (se_var 10) sa_nil)))) sa_nil)))))) (sss_cons (ss_ret se_bl) (sss_never (Wk := []))) sss_nil) sss_nil))) sss_nil)))))))) (sss_cons (ss_ret se_bl) (sss_never (Wk := []))))) rfl (by decide) hl hg2 htb S hq
  refine ⟨_, pss_cons (ps_set (i := 1) nd rfl (by first | exact Or.inl rfl | exact Or.inr rfl) (pe_callS FS (hr.mono (by omega)) (by rfl) hmS hkS hbS (fun σ => passAt tk σ) (pa_cons (pv 0) pa_nil))) ht, ?_⟩
  exact ⟨_, rfl, _, _, rfl, hs, hh⟩
end
end Tr

namespace Tr
open PySem PySem.Spec PyProof.Rows L2
section
variable {P : Program} {w : World} {K : PySem.W.Frag} {mg : Str → Option Value} {base : Heap}
end
theorem all_mk {l : PySem.W.OpenLaw} {w : World} {K : PySem.W.Frag} {h : Heap} {mg : Str → Option Value} {fa : Addr} {q_ : Program} (X : K.In h) (G : h.Ns mainGlobals mg) (hfa : mg "law" = some (.ref fa)) (own_ : ∀ n, ((recsOf q_).any fun e => e.name == n) = true → ∀ f, mg n = some (.ref f) → LamX.OwnTab K f h)
    {C_Strip : Addr}
    {C_BadStrip : Addr}
    {C_BadRing : Addr}
    {C_BadOther : Addr}
    {C_BadOrder : Addr}
    {C_BadStep : Addr}
    {C_BadSteps : Addr}
    {C_BadLock : Addr}
    {C_NotTold : Addr}
    {C_BadAnswer : Addr}
    {C_BadAnswerText : Addr}
    {C_BadWholeText : Addr}
    {C_BadCases : Addr}
    {f_law_start : Addr} {od_law_start an_law_start : Option Addr} {sl_law_start : Array (Option Value)} {oc_law_start kV_law_start dc_law_start pm_law_start cd_law_start ct_law_start : Value}
    {f_law_pick : Addr} {od_law_pick an_law_pick : Option Addr} {sl_law_pick : Array (Option Value)} {oc_law_pick kV_law_pick dc_law_pick pm_law_pick cd_law_pick ct_law_pick : Value}
    {f_is_integer : Addr} {od_is_integer an_is_integer : Option Addr} {sl_is_integer : Array (Option Value)} {oc_is_integer kV_is_integer dc_is_integer pm_is_integer cd_is_integer ct_is_integer : Value}
    {f_is_number : Addr} {od_is_number an_is_number : Option Addr} {sl_is_number : Array (Option Value)} {oc_is_number kV_is_number dc_is_number pm_is_number cd_is_number ct_is_number : Value}
    {f_is_list : Addr} {od_is_list an_is_list : Option Addr} {sl_is_list : Array (Option Value)} {oc_is_list kV_is_list dc_is_list pm_is_list cd_is_list ct_is_list : Value}
    {f_is_row : Addr} {od_is_row an_is_row : Option Addr} {sl_is_row : Array (Option Value)} {oc_is_row kV_is_row dc_is_row pm_is_row cd_is_row ct_is_row : Value}
    {f_is_text : Addr} {od_is_text an_is_text : Option Addr} {sl_is_text : Array (Option Value)} {oc_is_text kV_is_text dc_is_text pm_is_text cd_is_text ct_is_text : Value}
    {f_is_length : Addr} {od_is_length an_is_length : Option Addr} {sl_is_length : Array (Option Value)} {oc_is_length kV_is_length dc_is_length pm_is_length cd_is_length ct_is_length : Value}
    {f_is_letter : Addr} {od_is_letter an_is_letter : Option Addr} {sl_is_letter : Array (Option Value)} {oc_is_letter kV_is_letter dc_is_letter pm_is_letter cd_is_letter ct_is_letter : Value}
    {f_wrong_lengths : Addr} {od_wrong_lengths an_wrong_lengths : Option Addr} {sl_wrong_lengths : Array (Option Value)} {oc_wrong_lengths kV_wrong_lengths dc_wrong_lengths pm_wrong_lengths cd_wrong_lengths ct_wrong_lengths : Value}
    {f_wrong_letters : Addr} {od_wrong_letters an_wrong_letters : Option Addr} {sl_wrong_letters : Array (Option Value)} {oc_wrong_letters kV_wrong_letters dc_wrong_letters pm_wrong_letters cd_wrong_letters ct_wrong_letters : Value}
    {f_Strip_init__ : Addr} {od_Strip_init__ an_Strip_init__ : Option Addr} {sl_Strip_init__ : Array (Option Value)} {oc_Strip_init__ kV_Strip_init__ dc_Strip_init__ pm_Strip_init__ cd_Strip_init__ ct_Strip_init__ : Value}
    {f_Strip_lengths : Addr} {od_Strip_lengths an_Strip_lengths : Option Addr} {sl_Strip_lengths : Array (Option Value)} {oc_Strip_lengths kV_Strip_lengths dc_Strip_lengths pm_Strip_lengths cd_Strip_lengths ct_Strip_lengths : Value}
    {f_Strip_creases : Addr} {od_Strip_creases an_Strip_creases : Option Addr} {sl_Strip_creases : Array (Option Value)} {oc_Strip_creases kV_Strip_creases dc_Strip_creases pm_Strip_creases cd_Strip_creases ct_Strip_creases : Value}
    {f_need_strip : Addr} {od_need_strip an_need_strip : Option Addr} {sl_need_strip : Array (Option Value)} {oc_need_strip kV_need_strip dc_need_strip pm_need_strip cd_need_strip ct_need_strip : Value}
    {f_can_crimp : Addr} {od_can_crimp an_can_crimp : Option Addr} {sl_can_crimp : Array (Option Value)} {oc_can_crimp kV_can_crimp dc_can_crimp pm_can_crimp cd_can_crimp ct_can_crimp : Value}
    {f_steps_of : Addr} {od_steps_of an_steps_of : Option Addr} {sl_steps_of : Array (Option Value)} {oc_steps_of kV_steps_of dc_steps_of pm_steps_of cd_steps_of ct_steps_of : Value}
    {f_step_in : Addr} {od_step_in an_step_in : Option Addr} {sl_step_in : Array (Option Value)} {oc_step_in kV_step_in dc_step_in pm_step_in cd_step_in ct_step_in : Value}
    {f_parts_after : Addr} {od_parts_after an_parts_after : Option Addr} {sl_parts_after : Array (Option Value)} {oc_parts_after kV_parts_after dc_parts_after pm_parts_after cd_parts_after ct_parts_after : Value}
    {f_parts_done : Addr} {od_parts_done an_parts_done : Option Addr} {sl_parts_done : Array (Option Value)} {oc_parts_done kV_parts_done dc_parts_done pm_parts_done cd_parts_done ct_parts_done : Value}
    {f_done : Addr} {od_done an_done : Option Addr} {sl_done : Array (Option Value)} {oc_done kV_done dc_done pm_done cd_done ct_done : Value}
    {f_law_between : Addr} {od_law_between an_law_between : Option Addr} {sl_law_between : Array (Option Value)} {oc_law_between kV_law_between dc_law_between pm_law_between cd_law_between ct_law_between : Value}
    {f_law_one : Addr} {od_law_one an_law_one : Option Addr} {sl_law_one : Array (Option Value)} {oc_law_one kV_law_one dc_law_one pm_law_one cd_law_one ct_law_one : Value}
    {f_law_mixed : Addr} {od_law_mixed an_law_mixed : Option Addr} {sl_law_mixed : Array (Option Value)} {oc_law_mixed kV_law_mixed dc_law_mixed pm_law_mixed cd_law_mixed ct_law_mixed : Value}
    {f_law_same : Addr} {od_law_same an_law_same : Option Addr} {sl_law_same : Array (Option Value)} {oc_law_same kV_law_same dc_law_same pm_law_same cd_law_same ct_law_same : Value}
    {f_law_copy : Addr} {od_law_copy an_law_copy : Option Addr} {sl_law_copy : Array (Option Value)} {oc_law_copy kV_law_copy dc_law_copy pm_law_copy cd_law_copy ct_law_copy : Value}
    {f_law_loose : Addr} {od_law_loose an_law_loose : Option Addr} {sl_law_loose : Array (Option Value)} {oc_law_loose kV_law_loose dc_law_loose pm_law_loose cd_law_loose ct_law_loose : Value}
    {f_law_is_number : Addr} {od_law_is_number an_law_is_number : Option Addr} {sl_law_is_number : Array (Option Value)} {oc_law_is_number kV_law_is_number dc_law_is_number pm_law_is_number cd_law_is_number ct_law_is_number : Value}
    {f_law_strip_of : Addr} {od_law_strip_of an_law_strip_of : Option Addr} {sl_law_strip_of : Array (Option Value)} {oc_law_strip_of kV_law_strip_of dc_law_strip_of pm_law_strip_of cd_law_strip_of ct_law_strip_of : Value}
    {f_law_draw_lengths : Addr} {od_law_draw_lengths an_law_draw_lengths : Option Addr} {sl_law_draw_lengths : Array (Option Value)} {oc_law_draw_lengths kV_law_draw_lengths dc_law_draw_lengths pm_law_draw_lengths cd_law_draw_lengths ct_law_draw_lengths : Value}
    {f_law_draw_strip : Addr} {od_law_draw_strip an_law_draw_strip : Option Addr} {sl_law_draw_strip : Array (Option Value)} {oc_law_draw_strip kV_law_draw_strip dc_law_draw_strip pm_law_draw_strip cd_law_draw_strip ct_law_draw_strip : Value}
    {f_law_steps : Addr} {od_law_steps an_law_steps : Option Addr} {sl_law_steps : Array (Option Value)} {oc_law_steps kV_law_steps dc_law_steps pm_law_steps cd_law_steps ct_law_steps : Value}
    {f_law_after : Addr} {od_law_after an_law_after : Option Addr} {sl_law_after : Array (Option Value)} {oc_law_after kV_law_after dc_law_after pm_law_after cd_law_after ct_law_after : Value}
    {f_law_done : Addr} {od_law_done an_law_done : Option Addr} {sl_law_done : Array (Option Value)} {oc_law_done kV_law_done dc_law_done pm_law_done cd_law_done ct_law_done : Value}
    {f_law_down : Addr} {od_law_down an_law_down : Option Addr} {sl_law_down : Array (Option Value)} {oc_law_down kV_law_down dc_law_down pm_law_down cd_law_down ct_law_down : Value}
    {f_law_odd_steps : Addr} {od_law_odd_steps an_law_odd_steps : Option Addr} {sl_law_odd_steps : Array (Option Value)} {oc_law_odd_steps kV_law_odd_steps dc_law_odd_steps pm_law_odd_steps cd_law_odd_steps ct_law_odd_steps : Value}
    {f_law_things_right : Addr} {od_law_things_right an_law_things_right : Option Addr} {sl_law_things_right : Array (Option Value)} {oc_law_things_right kV_law_things_right dc_law_things_right pm_law_things_right ct_law_things_right : Value}
    {cd_law_things_right T_law_things_right : Addr}
    {ce_law_things_right : Value} {co_law_things_right : Option Addr} {cv_law_things_right : Array Value} {cs_law_things_right : Array (Option Value)}
    {f_law_told : Addr} {od_law_told an_law_told : Option Addr} {sl_law_told : Array (Option Value)} {oc_law_told kV_law_told dc_law_told pm_law_told cd_law_told ct_law_told : Value}
    {f_law : Addr} {od_law an_law : Option Addr} {sl_law : Array (Option Value)} {oc_law kV_law dc_law pm_law ct_law : Value}
    {cd_law T_law : Addr}
    {ce_law : Value} {co_law : Option Addr} {cv_law : Array Value} {cs_law : Array (Option Value)}
    {nm_BadSteps q_BadSteps : Str} {N_BadSteps B_BadSteps : Addr} {bs_BadSteps : List Value} {sn_BadSteps : List Str} {sub_BadSteps : List Value} {ab_BadSteps : Bool} {col_BadSteps : Option Bool} {dd_BadSteps : Option Addr} {u0_BadSteps u1_BadSteps u2_BadSteps u3_BadSteps u5_BadSteps : Option Value}
    {f_BadSteps_init : Addr} {od_BadSteps_init an_BadSteps_init : Option Addr} {sl_BadSteps_init : Array (Option Value)} {oc_BadSteps_init kV_BadSteps_init dc_BadSteps_init pm_BadSteps_init cd_BadSteps_init ct_BadSteps_init : Value}
    {nm_BadStrip q_BadStrip : Str} {N_BadStrip B_BadStrip : Addr} {bs_BadStrip : List Value} {sn_BadStrip : List Str} {sub_BadStrip : List Value} {ab_BadStrip : Bool} {col_BadStrip : Option Bool} {dd_BadStrip : Option Addr} {u0_BadStrip u1_BadStrip u2_BadStrip u3_BadStrip u5_BadStrip : Option Value}
    {f_BadStrip_init : Addr} {od_BadStrip_init an_BadStrip_init : Option Addr} {sl_BadStrip_init : Array (Option Value)} {oc_BadStrip_init kV_BadStrip_init dc_BadStrip_init pm_BadStrip_init cd_BadStrip_init ct_BadStrip_init : Value}
    (aC_Strip : PySem.W.nsIn K mainGlobals "Strip" = some (some (.ref C_Strip)))
    (aC_BadStrip : PySem.W.nsIn K mainGlobals "BadStrip" = some (some (.ref C_BadStrip)))
    (aC_BadRing : PySem.W.nsIn K mainGlobals "BadRing" = some (some (.ref C_BadRing)))
    (aC_BadOther : PySem.W.nsIn K mainGlobals "BadOther" = some (some (.ref C_BadOther)))
    (aC_BadOrder : PySem.W.nsIn K mainGlobals "BadOrder" = some (some (.ref C_BadOrder)))
    (aC_BadStep : PySem.W.nsIn K mainGlobals "BadStep" = some (some (.ref C_BadStep)))
    (aC_BadSteps : PySem.W.nsIn K mainGlobals "BadSteps" = some (some (.ref C_BadSteps)))
    (aC_BadLock : PySem.W.nsIn K mainGlobals "BadLock" = some (some (.ref C_BadLock)))
    (aC_NotTold : PySem.W.nsIn K mainGlobals "NotTold" = some (some (.ref C_NotTold)))
    (aC_BadAnswer : PySem.W.nsIn K mainGlobals "BadAnswer" = some (some (.ref C_BadAnswer)))
    (aC_BadAnswerText : PySem.W.nsIn K mainGlobals "BadAnswerText" = some (some (.ref C_BadAnswerText)))
    (aC_BadWholeText : PySem.W.nsIn K mainGlobals "BadWholeText" = some (some (.ref C_BadWholeText)))
    (aC_BadCases : PySem.W.nsIn K mainGlobals "BadCases" = some (some (.ref C_BadCases)))
    (pg_Strip : PySem.W.plainGet K C_Strip Str.empty = true)
    (hd_Strip : PySem.W.hasDictIn K C_Strip = true)
    (po_Strip : PySem.W.plainOver K C_Strip = true)
    (sa_Strip : PySem.W.findIn K (.ref C_Strip) "__setattr__" = some (some (.builtin "object.__setattr__")))
    (n_Strip__creases : PySem.W.findIn K (.ref C_Strip) "_creases" = some none)
    (n_Strip__lengths : PySem.W.findIn K (.ref C_Strip) "_lengths" = some none)
    (x2_ : PySem.W.specialIn K (.builtin "object.__class__") "__get__" = some (some (.builtin "getset_descriptor.__get__")))
    (x3_ : PySem.W.takesIn K (.builtin "object.__class__") = some true)
    (x1_Strip : PySem.W.findIn K (.ref C_Strip) "__class__" = some (some (.builtin "object.__class__")))
    (x4_Strip : PySem.W.mroIn K C_Strip (.type "object") = some true)
    (ic_Strip : PySem.W.isClsIn K C_Strip = true)
    (tc_Strip : PySem.W.typeIn K (.ref C_Strip) = some (.type "type"))
    (a_law_start : PySem.W.nsIn K mainGlobals "_law_start" = some (some (.ref f_law_start)))
    (l_law_start : K.lookup f_law_start = some ⟨oc_law_start, od_law_start, .func (PySem.W.fnOf "_law_start" "_law_start" (defArgs s_law_start) (defBody s_law_start) (defScope s_law_start) .none kV_law_start dc_law_start pm_law_start an_law_start cd_law_start ct_law_start), sl_law_start⟩)
    (c_law_start : PySem.W.codeIn K cd_law_start "_law_start" = true)
    (k_law_start : PySem.W.keepIn K (.ref f_law_start) = true)
    (a_law_pick : PySem.W.nsIn K mainGlobals "_law_pick" = some (some (.ref f_law_pick)))
    (l_law_pick : K.lookup f_law_pick = some ⟨oc_law_pick, od_law_pick, .func (PySem.W.fnOf "_law_pick" "_law_pick" (defArgs s_law_pick) (defBody s_law_pick) (defScope s_law_pick) .none kV_law_pick dc_law_pick pm_law_pick an_law_pick cd_law_pick ct_law_pick), sl_law_pick⟩)
    (c_law_pick : PySem.W.codeIn K cd_law_pick "_law_pick" = true)
    (k_law_pick : PySem.W.keepIn K (.ref f_law_pick) = true)
    (a_is_integer : PySem.W.nsIn K mainGlobals "is_integer" = some (some (.ref f_is_integer)))
    (l_is_integer : K.lookup f_is_integer = some ⟨oc_is_integer, od_is_integer, .func (PySem.W.fnOf "is_integer" "is_integer" (defArgs s_is_integer) (defBody s_is_integer) (defScope s_is_integer) .none kV_is_integer dc_is_integer pm_is_integer an_is_integer cd_is_integer ct_is_integer), sl_is_integer⟩)
    (c_is_integer : PySem.W.codeIn K cd_is_integer "is_integer" = true)
    (k_is_integer : PySem.W.keepIn K (.ref f_is_integer) = true)
    (a_is_number : PySem.W.nsIn K mainGlobals "is_number" = some (some (.ref f_is_number)))
    (l_is_number : K.lookup f_is_number = some ⟨oc_is_number, od_is_number, .func (PySem.W.fnOf "is_number" "is_number" (defArgs s_is_number) (defBody s_is_number) (defScope s_is_number) .none kV_is_number dc_is_number pm_is_number an_is_number cd_is_number ct_is_number), sl_is_number⟩)
    (c_is_number : PySem.W.codeIn K cd_is_number "is_number" = true)
    (k_is_number : PySem.W.keepIn K (.ref f_is_number) = true)
    (a_is_list : PySem.W.nsIn K mainGlobals "is_list" = some (some (.ref f_is_list)))
    (l_is_list : K.lookup f_is_list = some ⟨oc_is_list, od_is_list, .func (PySem.W.fnOf "is_list" "is_list" (defArgs s_is_list) (defBody s_is_list) (defScope s_is_list) .none kV_is_list dc_is_list pm_is_list an_is_list cd_is_list ct_is_list), sl_is_list⟩)
    (c_is_list : PySem.W.codeIn K cd_is_list "is_list" = true)
    (k_is_list : PySem.W.keepIn K (.ref f_is_list) = true)
    (a_is_row : PySem.W.nsIn K mainGlobals "is_row" = some (some (.ref f_is_row)))
    (l_is_row : K.lookup f_is_row = some ⟨oc_is_row, od_is_row, .func (PySem.W.fnOf "is_row" "is_row" (defArgs s_is_row) (defBody s_is_row) (defScope s_is_row) .none kV_is_row dc_is_row pm_is_row an_is_row cd_is_row ct_is_row), sl_is_row⟩)
    (c_is_row : PySem.W.codeIn K cd_is_row "is_row" = true)
    (k_is_row : PySem.W.keepIn K (.ref f_is_row) = true)
    (a_is_text : PySem.W.nsIn K mainGlobals "is_text" = some (some (.ref f_is_text)))
    (l_is_text : K.lookup f_is_text = some ⟨oc_is_text, od_is_text, .func (PySem.W.fnOf "is_text" "is_text" (defArgs s_is_text) (defBody s_is_text) (defScope s_is_text) .none kV_is_text dc_is_text pm_is_text an_is_text cd_is_text ct_is_text), sl_is_text⟩)
    (c_is_text : PySem.W.codeIn K cd_is_text "is_text" = true)
    (k_is_text : PySem.W.keepIn K (.ref f_is_text) = true)
    (a_is_length : PySem.W.nsIn K mainGlobals "is_length" = some (some (.ref f_is_length)))
    (l_is_length : K.lookup f_is_length = some ⟨oc_is_length, od_is_length, .func (PySem.W.fnOf "is_length" "is_length" (defArgs s_is_length) (defBody s_is_length) (defScope s_is_length) .none kV_is_length dc_is_length pm_is_length an_is_length cd_is_length ct_is_length), sl_is_length⟩)
    (c_is_length : PySem.W.codeIn K cd_is_length "is_length" = true)
    (k_is_length : PySem.W.keepIn K (.ref f_is_length) = true)
    (a_is_letter : PySem.W.nsIn K mainGlobals "is_letter" = some (some (.ref f_is_letter)))
    (l_is_letter : K.lookup f_is_letter = some ⟨oc_is_letter, od_is_letter, .func (PySem.W.fnOf "is_letter" "is_letter" (defArgs s_is_letter) (defBody s_is_letter) (defScope s_is_letter) .none kV_is_letter dc_is_letter pm_is_letter an_is_letter cd_is_letter ct_is_letter), sl_is_letter⟩)
    (c_is_letter : PySem.W.codeIn K cd_is_letter "is_letter" = true)
    (k_is_letter : PySem.W.keepIn K (.ref f_is_letter) = true)
    (a_wrong_lengths : PySem.W.nsIn K mainGlobals "wrong_lengths" = some (some (.ref f_wrong_lengths)))
    (l_wrong_lengths : K.lookup f_wrong_lengths = some ⟨oc_wrong_lengths, od_wrong_lengths, .func (PySem.W.fnOf "wrong_lengths" "wrong_lengths" (defArgs s_wrong_lengths) (defBody s_wrong_lengths) (defScope s_wrong_lengths) .none kV_wrong_lengths dc_wrong_lengths pm_wrong_lengths an_wrong_lengths cd_wrong_lengths ct_wrong_lengths), sl_wrong_lengths⟩)
    (c_wrong_lengths : PySem.W.codeIn K cd_wrong_lengths "wrong_lengths" = true)
    (k_wrong_lengths : PySem.W.keepIn K (.ref f_wrong_lengths) = true)
    (a_wrong_letters : PySem.W.nsIn K mainGlobals "wrong_letters" = some (some (.ref f_wrong_letters)))
    (l_wrong_letters : K.lookup f_wrong_letters = some ⟨oc_wrong_letters, od_wrong_letters, .func (PySem.W.fnOf "wrong_letters" "wrong_letters" (defArgs s_wrong_letters) (defBody s_wrong_letters) (defScope s_wrong_letters) .none kV_wrong_letters dc_wrong_letters pm_wrong_letters an_wrong_letters cd_wrong_letters ct_wrong_letters), sl_wrong_letters⟩)
    (c_wrong_letters : PySem.W.codeIn K cd_wrong_letters "wrong_letters" = true)
    (k_wrong_letters : PySem.W.keepIn K (.ref f_wrong_letters) = true)
    (a_Strip_init__ : PySem.W.findIn K (.ref C_Strip) "__init__" = some (some (.ref f_Strip_init__)))
    (i_Strip_init__ : PySem.W.isFn K (.ref f_Strip_init__) = true)
    (l_Strip_init__ : K.lookup f_Strip_init__ = some ⟨oc_Strip_init__, od_Strip_init__, .func (PySem.W.fnOf "__init__" "Strip.__init__" (defArgs s_Strip_init__) (defBody s_Strip_init__) (defScope s_Strip_init__) .none kV_Strip_init__ dc_Strip_init__ pm_Strip_init__ an_Strip_init__ cd_Strip_init__ ct_Strip_init__), sl_Strip_init__⟩)
    (c_Strip_init__ : PySem.W.codeIn K cd_Strip_init__ "Strip.__init__" = true)
    (k_Strip_init__ : PySem.W.keepIn K (.ref f_Strip_init__) = true)
    (mk_Strip_init__ : PySem.W.makesIn K C_Strip = true)
    (kc_Strip_init__ : PySem.W.keepIn K (.ref C_Strip) = true)
    (a_Strip_lengths : PySem.W.findIn K (.ref C_Strip) "lengths" = some (some (.ref f_Strip_lengths)))
    (i_Strip_lengths : PySem.W.isFn K (.ref f_Strip_lengths) = true)
    (l_Strip_lengths : K.lookup f_Strip_lengths = some ⟨oc_Strip_lengths, od_Strip_lengths, .func (PySem.W.fnOf "lengths" "Strip.lengths" (defArgs s_Strip_lengths) (defBody s_Strip_lengths) (defScope s_Strip_lengths) .none kV_Strip_lengths dc_Strip_lengths pm_Strip_lengths an_Strip_lengths cd_Strip_lengths ct_Strip_lengths), sl_Strip_lengths⟩)
    (c_Strip_lengths : PySem.W.codeIn K cd_Strip_lengths "Strip.lengths" = true)
    (k_Strip_lengths : PySem.W.keepIn K (.ref f_Strip_lengths) = true)
    (a_Strip_creases : PySem.W.findIn K (.ref C_Strip) "creases" = some (some (.ref f_Strip_creases)))
    (i_Strip_creases : PySem.W.isFn K (.ref f_Strip_creases) = true)
    (l_Strip_creases : K.lookup f_Strip_creases = some ⟨oc_Strip_creases, od_Strip_creases, .func (PySem.W.fnOf "creases" "Strip.creases" (defArgs s_Strip_creases) (defBody s_Strip_creases) (defScope s_Strip_creases) .none kV_Strip_creases dc_Strip_creases pm_Strip_creases an_Strip_creases cd_Strip_creases ct_Strip_creases), sl_Strip_creases⟩)
    (c_Strip_creases : PySem.W.codeIn K cd_Strip_creases "Strip.creases" = true)
    (k_Strip_creases : PySem.W.keepIn K (.ref f_Strip_creases) = true)
    (a_need_strip : PySem.W.nsIn K mainGlobals "need_strip" = some (some (.ref f_need_strip)))
    (l_need_strip : K.lookup f_need_strip = some ⟨oc_need_strip, od_need_strip, .func (PySem.W.fnOf "need_strip" "need_strip" (defArgs s_need_strip) (defBody s_need_strip) (defScope s_need_strip) .none kV_need_strip dc_need_strip pm_need_strip an_need_strip cd_need_strip ct_need_strip), sl_need_strip⟩)
    (c_need_strip : PySem.W.codeIn K cd_need_strip "need_strip" = true)
    (k_need_strip : PySem.W.keepIn K (.ref f_need_strip) = true)
    (a_can_crimp : PySem.W.nsIn K mainGlobals "can_crimp" = some (some (.ref f_can_crimp)))
    (l_can_crimp : K.lookup f_can_crimp = some ⟨oc_can_crimp, od_can_crimp, .func (PySem.W.fnOf "can_crimp" "can_crimp" (defArgs s_can_crimp) (defBody s_can_crimp) (defScope s_can_crimp) .none kV_can_crimp dc_can_crimp pm_can_crimp an_can_crimp cd_can_crimp ct_can_crimp), sl_can_crimp⟩)
    (c_can_crimp : PySem.W.codeIn K cd_can_crimp "can_crimp" = true)
    (k_can_crimp : PySem.W.keepIn K (.ref f_can_crimp) = true)
    (a_steps_of : PySem.W.nsIn K mainGlobals "steps_of" = some (some (.ref f_steps_of)))
    (l_steps_of : K.lookup f_steps_of = some ⟨oc_steps_of, od_steps_of, .func (PySem.W.fnOf "steps_of" "steps_of" (defArgs s_steps_of) (defBody s_steps_of) (defScope s_steps_of) .none kV_steps_of dc_steps_of pm_steps_of an_steps_of cd_steps_of ct_steps_of), sl_steps_of⟩)
    (c_steps_of : PySem.W.codeIn K cd_steps_of "steps_of" = true)
    (k_steps_of : PySem.W.keepIn K (.ref f_steps_of) = true)
    (a_step_in : PySem.W.nsIn K mainGlobals "step_in" = some (some (.ref f_step_in)))
    (l_step_in : K.lookup f_step_in = some ⟨oc_step_in, od_step_in, .func (PySem.W.fnOf "step_in" "step_in" (defArgs s_step_in) (defBody s_step_in) (defScope s_step_in) .none kV_step_in dc_step_in pm_step_in an_step_in cd_step_in ct_step_in), sl_step_in⟩)
    (c_step_in : PySem.W.codeIn K cd_step_in "step_in" = true)
    (k_step_in : PySem.W.keepIn K (.ref f_step_in) = true)
    (a_parts_after : PySem.W.nsIn K mainGlobals "parts_after" = some (some (.ref f_parts_after)))
    (l_parts_after : K.lookup f_parts_after = some ⟨oc_parts_after, od_parts_after, .func (PySem.W.fnOf "parts_after" "parts_after" (defArgs s_parts_after) (defBody s_parts_after) (defScope s_parts_after) .none kV_parts_after dc_parts_after pm_parts_after an_parts_after cd_parts_after ct_parts_after), sl_parts_after⟩)
    (c_parts_after : PySem.W.codeIn K cd_parts_after "parts_after" = true)
    (k_parts_after : PySem.W.keepIn K (.ref f_parts_after) = true)
    (a_parts_done : PySem.W.nsIn K mainGlobals "parts_done" = some (some (.ref f_parts_done)))
    (l_parts_done : K.lookup f_parts_done = some ⟨oc_parts_done, od_parts_done, .func (PySem.W.fnOf "parts_done" "parts_done" (defArgs s_parts_done) (defBody s_parts_done) (defScope s_parts_done) .none kV_parts_done dc_parts_done pm_parts_done an_parts_done cd_parts_done ct_parts_done), sl_parts_done⟩)
    (c_parts_done : PySem.W.codeIn K cd_parts_done "parts_done" = true)
    (k_parts_done : PySem.W.keepIn K (.ref f_parts_done) = true)
    (a_done : PySem.W.nsIn K mainGlobals "done" = some (some (.ref f_done)))
    (l_done : K.lookup f_done = some ⟨oc_done, od_done, .func (PySem.W.fnOf "done" "done" (defArgs s_done) (defBody s_done) (defScope s_done) .none kV_done dc_done pm_done an_done cd_done ct_done), sl_done⟩)
    (c_done : PySem.W.codeIn K cd_done "done" = true)
    (k_done : PySem.W.keepIn K (.ref f_done) = true)
    (a_law_between : PySem.W.nsIn K mainGlobals "_law_between" = some (some (.ref f_law_between)))
    (l_law_between : K.lookup f_law_between = some ⟨oc_law_between, od_law_between, .func (PySem.W.fnOf "_law_between" "_law_between" (defArgs s_law_between) (defBody s_law_between) (defScope s_law_between) .none kV_law_between dc_law_between pm_law_between an_law_between cd_law_between ct_law_between), sl_law_between⟩)
    (c_law_between : PySem.W.codeIn K cd_law_between "_law_between" = true)
    (k_law_between : PySem.W.keepIn K (.ref f_law_between) = true)
    (a_law_one : PySem.W.nsIn K mainGlobals "_law_one" = some (some (.ref f_law_one)))
    (l_law_one : K.lookup f_law_one = some ⟨oc_law_one, od_law_one, .func (PySem.W.fnOf "_law_one" "_law_one" (defArgs s_law_one) (defBody s_law_one) (defScope s_law_one) .none kV_law_one dc_law_one pm_law_one an_law_one cd_law_one ct_law_one), sl_law_one⟩)
    (c_law_one : PySem.W.codeIn K cd_law_one "_law_one" = true)
    (k_law_one : PySem.W.keepIn K (.ref f_law_one) = true)
    (a_law_mixed : PySem.W.nsIn K mainGlobals "_law_mixed" = some (some (.ref f_law_mixed)))
    (l_law_mixed : K.lookup f_law_mixed = some ⟨oc_law_mixed, od_law_mixed, .func (PySem.W.fnOf "_law_mixed" "_law_mixed" (defArgs s_law_mixed) (defBody s_law_mixed) (defScope s_law_mixed) .none kV_law_mixed dc_law_mixed pm_law_mixed an_law_mixed cd_law_mixed ct_law_mixed), sl_law_mixed⟩)
    (c_law_mixed : PySem.W.codeIn K cd_law_mixed "_law_mixed" = true)
    (k_law_mixed : PySem.W.keepIn K (.ref f_law_mixed) = true)
    (a_law_same : PySem.W.nsIn K mainGlobals "_law_same" = some (some (.ref f_law_same)))
    (l_law_same : K.lookup f_law_same = some ⟨oc_law_same, od_law_same, .func (PySem.W.fnOf "_law_same" "_law_same" (defArgs s_law_same) (defBody s_law_same) (defScope s_law_same) .none kV_law_same dc_law_same pm_law_same an_law_same cd_law_same ct_law_same), sl_law_same⟩)
    (c_law_same : PySem.W.codeIn K cd_law_same "_law_same" = true)
    (k_law_same : PySem.W.keepIn K (.ref f_law_same) = true)
    (a_law_copy : PySem.W.nsIn K mainGlobals "_law_copy" = some (some (.ref f_law_copy)))
    (l_law_copy : K.lookup f_law_copy = some ⟨oc_law_copy, od_law_copy, .func (PySem.W.fnOf "_law_copy" "_law_copy" (defArgs s_law_copy) (defBody s_law_copy) (defScope s_law_copy) .none kV_law_copy dc_law_copy pm_law_copy an_law_copy cd_law_copy ct_law_copy), sl_law_copy⟩)
    (c_law_copy : PySem.W.codeIn K cd_law_copy "_law_copy" = true)
    (k_law_copy : PySem.W.keepIn K (.ref f_law_copy) = true)
    (a_law_loose : PySem.W.nsIn K mainGlobals "_law_loose" = some (some (.ref f_law_loose)))
    (l_law_loose : K.lookup f_law_loose = some ⟨oc_law_loose, od_law_loose, .func (PySem.W.fnOf "_law_loose" "_law_loose" (defArgs s_law_loose) (defBody s_law_loose) (defScope s_law_loose) .none kV_law_loose dc_law_loose pm_law_loose an_law_loose cd_law_loose ct_law_loose), sl_law_loose⟩)
    (c_law_loose : PySem.W.codeIn K cd_law_loose "_law_loose" = true)
    (k_law_loose : PySem.W.keepIn K (.ref f_law_loose) = true)
    (a_law_is_number : PySem.W.nsIn K mainGlobals "_law_is_number" = some (some (.ref f_law_is_number)))
    (l_law_is_number : K.lookup f_law_is_number = some ⟨oc_law_is_number, od_law_is_number, .func (PySem.W.fnOf "_law_is_number" "_law_is_number" (defArgs s_law_is_number) (defBody s_law_is_number) (defScope s_law_is_number) .none kV_law_is_number dc_law_is_number pm_law_is_number an_law_is_number cd_law_is_number ct_law_is_number), sl_law_is_number⟩)
    (c_law_is_number : PySem.W.codeIn K cd_law_is_number "_law_is_number" = true)
    (k_law_is_number : PySem.W.keepIn K (.ref f_law_is_number) = true)
    (a_law_strip_of : PySem.W.nsIn K mainGlobals "_law_strip_of" = some (some (.ref f_law_strip_of)))
    (l_law_strip_of : K.lookup f_law_strip_of = some ⟨oc_law_strip_of, od_law_strip_of, .func (PySem.W.fnOf "_law_strip_of" "_law_strip_of" (defArgs s_law_strip_of) (defBody s_law_strip_of) (defScope s_law_strip_of) .none kV_law_strip_of dc_law_strip_of pm_law_strip_of an_law_strip_of cd_law_strip_of ct_law_strip_of), sl_law_strip_of⟩)
    (c_law_strip_of : PySem.W.codeIn K cd_law_strip_of "_law_strip_of" = true)
    (k_law_strip_of : PySem.W.keepIn K (.ref f_law_strip_of) = true)
    (a_law_draw_lengths : PySem.W.nsIn K mainGlobals "_law_draw_lengths" = some (some (.ref f_law_draw_lengths)))
    (l_law_draw_lengths : K.lookup f_law_draw_lengths = some ⟨oc_law_draw_lengths, od_law_draw_lengths, .func (PySem.W.fnOf "_law_draw_lengths" "_law_draw_lengths" (defArgs s_law_draw_lengths) (defBody s_law_draw_lengths) (defScope s_law_draw_lengths) .none kV_law_draw_lengths dc_law_draw_lengths pm_law_draw_lengths an_law_draw_lengths cd_law_draw_lengths ct_law_draw_lengths), sl_law_draw_lengths⟩)
    (c_law_draw_lengths : PySem.W.codeIn K cd_law_draw_lengths "_law_draw_lengths" = true)
    (k_law_draw_lengths : PySem.W.keepIn K (.ref f_law_draw_lengths) = true)
    (a_law_draw_strip : PySem.W.nsIn K mainGlobals "_law_draw_strip" = some (some (.ref f_law_draw_strip)))
    (l_law_draw_strip : K.lookup f_law_draw_strip = some ⟨oc_law_draw_strip, od_law_draw_strip, .func (PySem.W.fnOf "_law_draw_strip" "_law_draw_strip" (defArgs s_law_draw_strip) (defBody s_law_draw_strip) (defScope s_law_draw_strip) .none kV_law_draw_strip dc_law_draw_strip pm_law_draw_strip an_law_draw_strip cd_law_draw_strip ct_law_draw_strip), sl_law_draw_strip⟩)
    (c_law_draw_strip : PySem.W.codeIn K cd_law_draw_strip "_law_draw_strip" = true)
    (k_law_draw_strip : PySem.W.keepIn K (.ref f_law_draw_strip) = true)
    (a_law_steps : PySem.W.nsIn K mainGlobals "_law_steps" = some (some (.ref f_law_steps)))
    (l_law_steps : K.lookup f_law_steps = some ⟨oc_law_steps, od_law_steps, .func (PySem.W.fnOf "_law_steps" "_law_steps" (defArgs s_law_steps) (defBody s_law_steps) (defScope s_law_steps) .none kV_law_steps dc_law_steps pm_law_steps an_law_steps cd_law_steps ct_law_steps), sl_law_steps⟩)
    (c_law_steps : PySem.W.codeIn K cd_law_steps "_law_steps" = true)
    (k_law_steps : PySem.W.keepIn K (.ref f_law_steps) = true)
    (a_law_after : PySem.W.nsIn K mainGlobals "_law_after" = some (some (.ref f_law_after)))
    (l_law_after : K.lookup f_law_after = some ⟨oc_law_after, od_law_after, .func (PySem.W.fnOf "_law_after" "_law_after" (defArgs s_law_after) (defBody s_law_after) (defScope s_law_after) .none kV_law_after dc_law_after pm_law_after an_law_after cd_law_after ct_law_after), sl_law_after⟩)
    (c_law_after : PySem.W.codeIn K cd_law_after "_law_after" = true)
    (k_law_after : PySem.W.keepIn K (.ref f_law_after) = true)
    (a_law_done : PySem.W.nsIn K mainGlobals "_law_done" = some (some (.ref f_law_done)))
    (l_law_done : K.lookup f_law_done = some ⟨oc_law_done, od_law_done, .func (PySem.W.fnOf "_law_done" "_law_done" (defArgs s_law_done) (defBody s_law_done) (defScope s_law_done) .none kV_law_done dc_law_done pm_law_done an_law_done cd_law_done ct_law_done), sl_law_done⟩)
    (c_law_done : PySem.W.codeIn K cd_law_done "_law_done" = true)
    (k_law_done : PySem.W.keepIn K (.ref f_law_done) = true)
    (a_law_down : PySem.W.nsIn K mainGlobals "_law_down" = some (some (.ref f_law_down)))
    (l_law_down : K.lookup f_law_down = some ⟨oc_law_down, od_law_down, .func (PySem.W.fnOf "_law_down" "_law_down" (defArgs s_law_down) (defBody s_law_down) (defScope s_law_down) .none kV_law_down dc_law_down pm_law_down an_law_down cd_law_down ct_law_down), sl_law_down⟩)
    (c_law_down : PySem.W.codeIn K cd_law_down "_law_down" = true)
    (k_law_down : PySem.W.keepIn K (.ref f_law_down) = true)
    (a_law_odd_steps : PySem.W.nsIn K mainGlobals "_law_odd_steps" = some (some (.ref f_law_odd_steps)))
    (l_law_odd_steps : K.lookup f_law_odd_steps = some ⟨oc_law_odd_steps, od_law_odd_steps, .func (PySem.W.fnOf "_law_odd_steps" "_law_odd_steps" (defArgs s_law_odd_steps) (defBody s_law_odd_steps) (defScope s_law_odd_steps) .none kV_law_odd_steps dc_law_odd_steps pm_law_odd_steps an_law_odd_steps cd_law_odd_steps ct_law_odd_steps), sl_law_odd_steps⟩)
    (c_law_odd_steps : PySem.W.codeIn K cd_law_odd_steps "_law_odd_steps" = true)
    (k_law_odd_steps : PySem.W.keepIn K (.ref f_law_odd_steps) = true)
    (a_law_things_right : PySem.W.nsIn K mainGlobals "_law_things_right" = some (some (.ref f_law_things_right)))
    (l_law_things_right : K.lookup f_law_things_right = some ⟨oc_law_things_right, od_law_things_right, .func (PySem.W.fnOf "_law_things_right" "_law_things_right" (defArgs s_law_things_right) (defBody s_law_things_right) (defScope s_law_things_right) .none kV_law_things_right dc_law_things_right pm_law_things_right an_law_things_right (.ref cd_law_things_right) ct_law_things_right), sl_law_things_right⟩)
    (c_law_things_right : PySem.W.codeIn K (.ref cd_law_things_right) "_law_things_right" = true)
    (k_law_things_right : PySem.W.keepIn K (.ref f_law_things_right) = true)
    (lc_law_things_right : K.lookup cd_law_things_right = some ⟨ce_law_things_right, co_law_things_right, .fields cv_law_things_right, cs_law_things_right⟩)
    (tt_law_things_right : cv_law_things_right.getD 11 .none = .ref T_law_things_right)
    (tg_law_things_right : tabGB ce_law_things_right cv_law_things_right cd_law_things_right T_law_things_right = true)
    (tn_law_things_right : PySem.W.typeIn K (.ref T_law_things_right) = none)
    (rec_law_things_right : ((recsOf q_).any fun e => e.name == "_law_things_right") = true)
    (a_law_told : PySem.W.nsIn K mainGlobals "_law_told" = some (some (.ref f_law_told)))
    (l_law_told : K.lookup f_law_told = some ⟨oc_law_told, od_law_told, .func (PySem.W.fnOf "_law_told" "_law_told" (defArgs s_law_told) (defBody s_law_told) (defScope s_law_told) .none kV_law_told dc_law_told pm_law_told an_law_told cd_law_told ct_law_told), sl_law_told⟩)
    (c_law_told : PySem.W.codeIn K cd_law_told "_law_told" = true)
    (k_law_told : PySem.W.keepIn K (.ref f_law_told) = true)
    (a_law : PySem.W.nsIn K mainGlobals "law" = some (some (.ref f_law)))
    (l_law : K.lookup f_law = some ⟨oc_law, od_law, .func (PySem.W.fnOf "law" "law" (defArgs s_law) (defBody s_law) (defScope s_law) .none kV_law dc_law pm_law an_law (.ref cd_law) ct_law), sl_law⟩)
    (c_law : PySem.W.codeIn K (.ref cd_law) "law" = true)
    (k_law : PySem.W.keepIn K (.ref f_law) = true)
    (lc_law : K.lookup cd_law = some ⟨ce_law, co_law, .fields cv_law, cs_law⟩)
    (tt_law : cv_law.getD 11 .none = .ref T_law)
    (tg_law : tabGB ce_law cv_law cd_law T_law = true)
    (tn_law : PySem.W.typeIn K (.ref T_law) = none)
    (rec_law : ((recsOf q_).any fun e => e.name == "law") = true)
    (dT_ : [T_law_things_right, T_law].Nodup)
    (xL_BadSteps : K.lookup C_BadSteps = some (excClassObj nm_BadSteps q_BadSteps C_BadSteps N_BadSteps bs_BadSteps [.ref B_BadSteps, .type "ValueError", .type "Exception", .type "BaseException", .type "object"] true sn_BadSteps sub_BadSteps ab_BadSteps col_BadSteps dd_BadSteps u0_BadSteps u1_BadSteps u2_BadSteps u3_BadSteps u5_BadSteps "ValueError.__new__"))
    (sa_BadSteps : PySem.W.findIn K (.ref C_BadSteps) "__setattr__" = some (some (.builtin "object.__setattr__")))
    (sb_BadSteps : PySem.W.subIn K (.ref C_BadSteps) (.type "BaseException") = some true)
    (tc_BadSteps : PySem.W.typeIn K (.ref C_BadSteps) = some (.type "type"))
    (kc_BadSteps : PySem.W.keepIn K (.ref C_BadSteps) = true)
    (no_BadSteps : PySem.W.findIn K (.ref C_BadSteps) "index" = some none)
    (a_BadSteps_init : PySem.W.findIn K (.ref C_BadSteps) "__init__" = some (some (.ref f_BadSteps_init)))
    (t_BadSteps_init : PySem.W.typeIn K (.ref f_BadSteps_init) = some (.type "function"))
    (l_BadSteps_init : K.lookup f_BadSteps_init = some ⟨oc_BadSteps_init, od_BadSteps_init, .func (PySem.W.fnOf "__init__" "BadSteps.__init__" (defArgs s_BadSteps_init) (defBody s_BadSteps_init) (defScope s_BadSteps_init) .none kV_BadSteps_init dc_BadSteps_init pm_BadSteps_init an_BadSteps_init cd_BadSteps_init ct_BadSteps_init), sl_BadSteps_init⟩)
    (c_BadSteps_init : PySem.W.codeIn K cd_BadSteps_init "BadSteps.__init__" = true)
    (k_BadSteps_init : PySem.W.keepIn K (.ref f_BadSteps_init) = true)
    (xL_BadStrip : K.lookup C_BadStrip = some (excClassObj nm_BadStrip q_BadStrip C_BadStrip N_BadStrip bs_BadStrip [.ref B_BadStrip, .type "ValueError", .type "Exception", .type "BaseException", .type "object"] true sn_BadStrip sub_BadStrip ab_BadStrip col_BadStrip dd_BadStrip u0_BadStrip u1_BadStrip u2_BadStrip u3_BadStrip u5_BadStrip "ValueError.__new__"))
    (sa_BadStrip : PySem.W.findIn K (.ref C_BadStrip) "__setattr__" = some (some (.builtin "object.__setattr__")))
    (sb_BadStrip : PySem.W.subIn K (.ref C_BadStrip) (.type "BaseException") = some true)
    (tc_BadStrip : PySem.W.typeIn K (.ref C_BadStrip) = some (.type "type"))
    (kc_BadStrip : PySem.W.keepIn K (.ref C_BadStrip) = true)
    (no_BadStrip : PySem.W.findIn K (.ref C_BadStrip) "strip" = some none)
    (a_BadStrip_init : PySem.W.findIn K (.ref C_BadStrip) "__init__" = some (some (.ref f_BadStrip_init)))
    (t_BadStrip_init : PySem.W.typeIn K (.ref f_BadStrip_init) = some (.type "function"))
    (l_BadStrip_init : K.lookup f_BadStrip_init = some ⟨oc_BadStrip_init, od_BadStrip_init, .func (PySem.W.fnOf "__init__" "BadStrip.__init__" (defArgs s_BadStrip_init) (defBody s_BadStrip_init) (defScope s_BadStrip_init) .none kV_BadStrip_init dc_BadStrip_init pm_BadStrip_init an_BadStrip_init cd_BadStrip_init ct_BadStrip_init), sl_BadStrip_init⟩)
    (c_BadStrip_init : PySem.W.codeIn K cd_BadStrip_init "BadStrip.__init__" = true)
    (k_BadStrip_init : PySem.W.keepIn K (.ref f_BadStrip_init) = true)
    (ga_BadStrip : PySem.W.findIn K (.ref C_BadStrip) "__getattribute__" = some (some (.builtin "BaseException.__getattribute__")))
    (gg_BadStrip : PySem.W.findIn K (.ref C_BadStrip) "__getattr__" = some none)
    (hd_BadStrip : PySem.W.hasDictIn K C_BadStrip = true)
    (ic_BadStrip : PySem.W.isClsIn K C_BadStrip = true)
    (ss_BadStrip_BadStrip : PySem.W.subIn K (.ref C_BadStrip) (.ref C_BadStrip) = some true)
    (ga_BadSteps : PySem.W.findIn K (.ref C_BadSteps) "__getattribute__" = some (some (.builtin "BaseException.__getattribute__")))
    (gg_BadSteps : PySem.W.findIn K (.ref C_BadSteps) "__getattr__" = some none)
    (hd_BadSteps : PySem.W.hasDictIn K C_BadSteps = true)
    (ss_BadSteps_BadStrip : PySem.W.subIn K (.ref C_BadSteps) (.ref C_BadStrip) = some false)
    (sb_BadRing : PySem.W.subIn K (.ref C_BadRing) (.type "BaseException") = some true)
    (ic_BadRing : PySem.W.isClsIn K C_BadRing = true)
    (tc_BadRing : PySem.W.typeIn K (.ref C_BadRing) = some (.type "type"))
    (ss_BadSteps_BadRing : PySem.W.subIn K (.ref C_BadSteps) (.ref C_BadRing) = some false)
    (sb_BadOther : PySem.W.subIn K (.ref C_BadOther) (.type "BaseException") = some true)
    (ic_BadOther : PySem.W.isClsIn K C_BadOther = true)
    (tc_BadOther : PySem.W.typeIn K (.ref C_BadOther) = some (.type "type"))
    (ss_BadSteps_BadOther : PySem.W.subIn K (.ref C_BadSteps) (.ref C_BadOther) = some false)
    (sb_BadOrder : PySem.W.subIn K (.ref C_BadOrder) (.type "BaseException") = some true)
    (ic_BadOrder : PySem.W.isClsIn K C_BadOrder = true)
    (tc_BadOrder : PySem.W.typeIn K (.ref C_BadOrder) = some (.type "type"))
    (ss_BadSteps_BadOrder : PySem.W.subIn K (.ref C_BadSteps) (.ref C_BadOrder) = some false)
    (sb_BadStep : PySem.W.subIn K (.ref C_BadStep) (.type "BaseException") = some true)
    (ic_BadStep : PySem.W.isClsIn K C_BadStep = true)
    (tc_BadStep : PySem.W.typeIn K (.ref C_BadStep) = some (.type "type"))
    (ss_BadSteps_BadStep : PySem.W.subIn K (.ref C_BadSteps) (.ref C_BadStep) = some false)
    (ic_BadSteps : PySem.W.isClsIn K C_BadSteps = true)
    (ss_BadSteps_BadSteps : PySem.W.subIn K (.ref C_BadSteps) (.ref C_BadSteps) = some true)
    (z_abs : PySem.W.nsIn K mainGlobals "abs" = some none)
    (z_all : PySem.W.nsIn K mainGlobals "all" = some none)
    (z_any : PySem.W.nsIn K mainGlobals "any" = some none)
    (z_bool : PySem.W.nsIn K mainGlobals "bool" = some none)
    (z_dict : PySem.W.nsIn K mainGlobals "dict" = some none)
    (z_enumerate : PySem.W.nsIn K mainGlobals "enumerate" = some none)
    (z_int : PySem.W.nsIn K mainGlobals "int" = some none)
    (z_isinstance : PySem.W.nsIn K mainGlobals "isinstance" = some none)
    (z_len : PySem.W.nsIn K mainGlobals "len" = some none)
    (z_list : PySem.W.nsIn K mainGlobals "list" = some none)
    (z_max : PySem.W.nsIn K mainGlobals "max" = some none)
    (z_min : PySem.W.nsIn K mainGlobals "min" = some none)
    (z_range : PySem.W.nsIn K mainGlobals "range" = some none)
    (z_sorted : PySem.W.nsIn K mainGlobals "sorted" = some none)
    (z_str : PySem.W.nsIn K mainGlobals "str" = some none)
    (z_sum : PySem.W.nsIn K mainGlobals "sum" = some none)
    (z_tuple : PySem.W.nsIn K mainGlobals "tuple" = some none)
    (z_zip : PySem.W.nsIn K mainGlobals "zip" = some none)
    : ∃ (fd : FuncData) (cs : List (Addr × Addr)) (tb : List (Addr × Str)), TbH K mg h cs tb ∧ (∀ (s : Shared) (v : Value), BindsTo s fd ⟨[v], []⟩ [("script", v)]) ∧ ∀ base : Heap, K.In base → base.Ns mainGlobals mg → (∀ p ∈ cs, LamX.TabB base mg p.1 p.2) → FnOk l.prog w K mg base (L2.CX l.prog w) 13 fa fd ["script"] (spLaw 63 tb K) := by
  have e := hfa.symm.trans (PySem.W.mg_of X G a_law)
  cases e
  have m_Strip := PySem.W.mg_of X G aC_Strip
  have m_BadStrip := PySem.W.mg_of X G aC_BadStrip
  have m_BadRing := PySem.W.mg_of X G aC_BadRing
  have m_BadOther := PySem.W.mg_of X G aC_BadOther
  have m_BadOrder := PySem.W.mg_of X G aC_BadOrder
  have m_BadStep := PySem.W.mg_of X G aC_BadStep
  have m_BadSteps := PySem.W.mg_of X G aC_BadSteps
  have m_BadLock := PySem.W.mg_of X G aC_BadLock
  have m_NotTold := PySem.W.mg_of X G aC_NotTold
  have m_BadAnswer := PySem.W.mg_of X G aC_BadAnswer
  have m_BadAnswerText := PySem.W.mg_of X G aC_BadAnswerText
  have m_BadWholeText := PySem.W.mg_of X G aC_BadWholeText
  have m_BadCases := PySem.W.mg_of X G aC_BadCases
  have K_Strip : Cls K C_Strip := ⟨pg_Strip, hd_Strip, po_Strip, sa_Strip⟩
  have T_Strip : ClF K mg "Strip" := ⟨C_Strip, m_Strip, K_Strip⟩
  have T_Strip__creases : ∀ C, mg "Strip" = some (.ref C) → NoAttr K C "_creases" := fun C hC => by rw [m_Strip] at hC; cases hC; exact n_Strip__creases
  have T_Strip__lengths : ∀ C, mg "Strip" = some (.ref C) → NoAttr K C "_lengths" := fun C hC => by rw [m_Strip] at hC; cases hC; exact n_Strip__lengths
  have I_Strip : InF K mg "Strip" := ⟨C_Strip, m_Strip, K_Strip, x1_Strip, x2_, x3_, x4_Strip⟩
  have IG_Strip : InG K mg "Strip" := ⟨I_Strip, fun C hC => by rw [m_Strip] at hC; cases hC; exact ⟨ic_Strip, tc_Strip⟩⟩
  have F_law_start := fun_mk (st := s_law_start) l_law_start c_law_start k_law_start
  have b_law_start := F_law_start.binds (ps := ["script"]) fun _ _ _ _ _ _ us hl => match us, hl with | [_], _ => rfl
  have F_law_pick := fun_mk (st := s_law_pick) l_law_pick c_law_pick k_law_pick
  have b_law_pick := F_law_pick.binds (ps := ["state", "many"]) fun _ _ _ _ _ _ us hl => match us, hl with | [_, _], _ => rfl
  have F_is_integer := fun_mk (st := s_is_integer) l_is_integer c_is_integer k_is_integer
  have b_is_integer := F_is_integer.binds (ps := ["thing"]) fun _ _ _ _ _ _ us hl => match us, hl with | [_], _ => rfl
  have F_is_number := fun_mk (st := s_is_number) l_is_number c_is_number k_is_number
  have b_is_number := F_is_number.binds (ps := ["thing"]) fun _ _ _ _ _ _ us hl => match us, hl with | [_], _ => rfl
  have F_is_list := fun_mk (st := s_is_list) l_is_list c_is_list k_is_list
  have b_is_list := F_is_list.binds (ps := ["thing"]) fun _ _ _ _ _ _ us hl => match us, hl with | [_], _ => rfl
  have F_is_row := fun_mk (st := s_is_row) l_is_row c_is_row k_is_row
  have b_is_row := F_is_row.binds (ps := ["thing", "many"]) fun _ _ _ _ _ _ us hl => match us, hl with | [_, _], _ => rfl
  have F_is_text := fun_mk (st := s_is_text) l_is_text c_is_text k_is_text
  have b_is_text := F_is_text.binds (ps := ["thing"]) fun _ _ _ _ _ _ us hl => match us, hl with | [_], _ => rfl
  have F_is_length := fun_mk (st := s_is_length) l_is_length c_is_length k_is_length
  have b_is_length := F_is_length.binds (ps := ["thing"]) fun _ _ _ _ _ _ us hl => match us, hl with | [_], _ => rfl
  have F_is_letter := fun_mk (st := s_is_letter) l_is_letter c_is_letter k_is_letter
  have b_is_letter := F_is_letter.binds (ps := ["thing"]) fun _ _ _ _ _ _ us hl => match us, hl with | [_], _ => rfl
  have F_wrong_lengths := fun_mk (st := s_wrong_lengths) l_wrong_lengths c_wrong_lengths k_wrong_lengths
  have b_wrong_lengths := F_wrong_lengths.binds (ps := ["lengths"]) fun _ _ _ _ _ _ us hl => match us, hl with | [_], _ => rfl
  have F_wrong_letters := fun_mk (st := s_wrong_letters) l_wrong_letters c_wrong_letters k_wrong_letters
  have b_wrong_letters := F_wrong_letters.binds (ps := ["many", "letters"]) fun _ _ _ _ _ _ us hl => match us, hl with | [_, _], _ => rfl
  have F_Strip_init__ := fun_mk (st := s_Strip_init__) l_Strip_init__ c_Strip_init__ k_Strip_init__
  have b_Strip_init__ := F_Strip_init__.binds (ps := ["self", "lengths", "creases"]) fun _ _ _ _ _ _ us hl => match us, hl with | [_, _, _], _ => rfl
  have F_Strip_lengths := fun_mk (st := s_Strip_lengths) l_Strip_lengths c_Strip_lengths k_Strip_lengths
  have b_Strip_lengths := F_Strip_lengths.binds (ps := ["self"]) fun _ _ _ _ _ _ us hl => match us, hl with | [_], _ => rfl
  have F_Strip_creases := fun_mk (st := s_Strip_creases) l_Strip_creases c_Strip_creases k_Strip_creases
  have b_Strip_creases := F_Strip_creases.binds (ps := ["self"]) fun _ _ _ _ _ _ us hl => match us, hl with | [_], _ => rfl
  have F_need_strip := fun_mk (st := s_need_strip) l_need_strip c_need_strip k_need_strip
  have b_need_strip := F_need_strip.binds (ps := ["strip"]) fun _ _ _ _ _ _ us hl => match us, hl with | [_], _ => rfl
  have F_can_crimp := fun_mk (st := s_can_crimp) l_can_crimp c_can_crimp k_can_crimp
  have b_can_crimp := F_can_crimp.binds (ps := ["lengths", "letters", "segment"]) fun _ _ _ _ _ _ us hl => match us, hl with | [_, _, _], _ => rfl
  have F_steps_of := fun_mk (st := s_steps_of) l_steps_of c_steps_of k_steps_of
  have b_steps_of := F_steps_of.binds (ps := ["lengths", "letters"]) fun _ _ _ _ _ _ us hl => match us, hl with | [_, _], _ => rfl
  have F_step_in := fun_mk (st := s_step_in) l_step_in c_step_in k_step_in
  have b_step_in := F_step_in.binds (ps := ["lengths", "letters", "thing"]) fun _ _ _ _ _ _ us hl => match us, hl with | [_, _, _], _ => rfl
  have F_parts_after := fun_mk (st := s_parts_after) l_parts_after c_parts_after k_parts_after
  have b_parts_after := F_parts_after.binds (ps := ["lengths", "letters", "step"]) fun _ _ _ _ _ _ us hl => match us, hl with | [_, _, _], _ => rfl
  have F_parts_done := fun_mk (st := s_parts_done) l_parts_done c_parts_done k_parts_done
  have b_parts_done := F_parts_done.binds (ps := ["lengths", "letters", "things"]) fun _ _ _ _ _ _ us hl => match us, hl with | [_, _, _], _ => rfl
  have F_done := fun_mk (st := s_done) l_done c_done k_done
  have b_done := F_done.binds (ps := ["strip", "steps"]) fun _ _ _ _ _ _ us hl => match us, hl with | [_, _], _ => rfl
  have F_law_between := fun_mk (st := s_law_between) l_law_between c_law_between k_law_between
  have b_law_between := F_law_between.binds (ps := ["state", "low", "high"]) fun _ _ _ _ _ _ us hl => match us, hl with | [_, _, _], _ => rfl
  have F_law_one := fun_mk (st := s_law_one) l_law_one c_law_one k_law_one
  have b_law_one := F_law_one.binds (ps := ["state", "things"]) fun _ _ _ _ _ _ us hl => match us, hl with | [_, _], _ => rfl
  have F_law_mixed := fun_mk (st := s_law_mixed) l_law_mixed c_law_mixed k_law_mixed
  have b_law_mixed := F_law_mixed.binds (ps := ["state", "things"]) fun _ _ _ _ _ _ us hl => match us, hl with | [_, _], _ => rfl
  have F_law_same := fun_mk (st := s_law_same) l_law_same c_law_same k_law_same
  have b_law_same := F_law_same.binds (ps := ["found", "due"]) fun _ _ _ _ _ _ us hl => match us, hl with | [_, _], _ => rfl
  have F_law_copy := fun_mk (st := s_law_copy) l_law_copy c_law_copy k_law_copy
  have b_law_copy := F_law_copy.binds (ps := ["thing"]) fun _ _ _ _ _ _ us hl => match us, hl with | [_], _ => rfl
  have F_law_loose := fun_mk (st := s_law_loose) l_law_loose c_law_loose k_law_loose
  have b_law_loose := F_law_loose.binds (ps := ["state", "thing"]) fun _ _ _ _ _ _ us hl => match us, hl with | [_, _], _ => rfl
  have F_law_is_number := fun_mk (st := s_law_is_number) l_law_is_number c_law_is_number k_law_is_number
  have b_law_is_number := F_law_is_number.binds (ps := ["thing"]) fun _ _ _ _ _ _ us hl => match us, hl with | [_], _ => rfl
  have F_law_strip_of := fun_mk (st := s_law_strip_of) l_law_strip_of c_law_strip_of k_law_strip_of
  have b_law_strip_of := F_law_strip_of.binds (ps := ["raw"]) fun _ _ _ _ _ _ us hl => match us, hl with | [_], _ => rfl
  have F_law_draw_lengths := fun_mk (st := s_law_draw_lengths) l_law_draw_lengths c_law_draw_lengths k_law_draw_lengths
  have b_law_draw_lengths := F_law_draw_lengths.binds (ps := ["state", "many"]) fun _ _ _ _ _ _ us hl => match us, hl with | [_, _], _ => rfl
  have F_law_draw_strip := fun_mk (st := s_law_draw_strip) l_law_draw_strip c_law_draw_strip k_law_draw_strip
  have b_law_draw_strip := F_law_draw_strip.binds (ps := ["state", "least", "most", "free"]) fun _ _ _ _ _ _ us hl => match us, hl with | [_, _, _, _], _ => rfl
  have F_law_steps := fun_mk (st := s_law_steps) l_law_steps c_law_steps k_law_steps
  have b_law_steps := F_law_steps.binds (ps := ["raw"]) fun _ _ _ _ _ _ us hl => match us, hl with | [_], _ => rfl
  have F_law_after := fun_mk (st := s_law_after) l_law_after c_law_after k_law_after
  have b_law_after := F_law_after.binds (ps := ["raw", "step"]) fun _ _ _ _ _ _ us hl => match us, hl with | [_, _], _ => rfl
  have F_law_done := fun_mk (st := s_law_done) l_law_done c_law_done k_law_done
  have b_law_done := F_law_done.binds (ps := ["raw", "things"]) fun _ _ _ _ _ _ us hl => match us, hl with | [_, _], _ => rfl
  have F_law_down := fun_mk (st := s_law_down) l_law_down c_law_down k_law_down
  have b_law_down := F_law_down.binds (ps := ["state", "raw"]) fun _ _ _ _ _ _ us hl => match us, hl with | [_, _], _ => rfl
  have F_law_odd_steps := fun_mk (st := s_law_odd_steps) l_law_odd_steps c_law_odd_steps k_law_odd_steps
  have b_law_odd_steps := F_law_odd_steps.binds (ps := ["state", "raw"]) fun _ _ _ _ _ _ us hl => match us, hl with | [_, _], _ => rfl
  have TF_law_things_right : TabF K cd_law_things_right T_law_things_right := tabF_mk lc_law_things_right tg_law_things_right tn_law_things_right
  have F_law_things_right : FunC K "_law_things_right" s_law_things_right f_law_things_right _ cd_law_things_right T_law_things_right := ⟨⟨oc_law_things_right, od_law_things_right, kV_law_things_right, dc_law_things_right, pm_law_things_right, an_law_things_right, ct_law_things_right, sl_law_things_right, rfl, l_law_things_right, c_law_things_right⟩, k_law_things_right, TF_law_things_right.tab⟩
  have b_law_things_right := (fun_mk (st := s_law_things_right) (cdv := .ref cd_law_things_right) l_law_things_right c_law_things_right k_law_things_right).binds (ps := ["state", "raw", "strip", "things"]) fun _ _ _ _ _ _ us hl => match us, hl with | [_, _, _, _], _ => rfl
  have F_law_told := fun_mk (st := s_law_told) l_law_told c_law_told k_law_told
  have b_law_told := F_law_told.binds (ps := ["ask"]) fun _ _ _ _ _ _ us hl => match us, hl with | [_], _ => rfl
  have TF_law : TabF K cd_law T_law := tabF_mk lc_law tg_law tn_law
  have F_law : FunC K "law" s_law fa _ cd_law T_law := ⟨⟨oc_law, od_law, kV_law, dc_law, pm_law, an_law, ct_law, sl_law, rfl, l_law, c_law⟩, k_law, TF_law.tab⟩
  have F_BadSteps_init := fun_mk (st := s_BadSteps_init) l_BadSteps_init c_BadSteps_init k_BadSteps_init
  have b_BadSteps_init := F_BadSteps_init.binds (ps := ["self", "index"]) fun _ _ _ _ _ _ us hl => match us, hl with | [_, _], _ => rfl
  have F_BadStrip_init := fun_mk (st := s_BadStrip_init) l_BadStrip_init c_BadStrip_init k_BadStrip_init
  have b_BadStrip_init := F_BadStrip_init.binds (ps := ["self", "strip"]) fun _ _ _ _ _ _ us hl => match us, hl with | [_, _], _ => rfl
  have TO_law_told : TOk K mg "_law_told" "told" hs_law_told := ok_law_told (PySem.W.mg_of X G a_law_told) l_law_told c_law_told k_law_told b_law_told m_BadStrip m_BadRing m_BadOther m_BadOrder m_BadStep m_BadSteps m_BadLock m_NotTold m_BadAnswer m_BadAnswerText m_BadWholeText m_BadCases
  have TL_law_told : Told K mg hs_law_told cl_law_told := (.cons m_BadStrip ⟨ga_BadStrip, gg_BadStrip, sb_BadStrip, hd_BadStrip⟩ no_BadStrip ⟨_, m_BadStrip, .inl ⟨exm_mk sb_BadStrip ic_BadStrip tc_BadStrip ss_BadStrip_BadStrip, rfl⟩⟩ (.cons m_BadSteps ⟨ga_BadSteps, gg_BadSteps, sb_BadSteps, hd_BadSteps⟩ no_BadSteps ⟨_, m_BadStrip, .inr ⟨exm_mk sb_BadStrip ic_BadStrip tc_BadStrip ss_BadSteps_BadStrip, ⟨_, m_BadRing, .inr ⟨exm_mk sb_BadRing ic_BadRing tc_BadRing ss_BadSteps_BadRing, ⟨_, m_BadOther, .inr ⟨exm_mk sb_BadOther ic_BadOther tc_BadOther ss_BadSteps_BadOther, ⟨_, m_BadOrder, .inr ⟨exm_mk sb_BadOrder ic_BadOrder tc_BadOrder ss_BadSteps_BadOrder, ⟨_, m_BadStep, .inr ⟨exm_mk sb_BadStep ic_BadStep tc_BadStep ss_BadSteps_BadStep, ⟨_, m_BadSteps, .inl ⟨exm_mk sb_BadSteps ic_BadSteps tc_BadSteps ss_BadSteps_BadSteps, rfl⟩⟩⟩⟩⟩⟩⟩⟩⟩⟩⟩⟩ .nil))
  have B : Bt mg := ⟨PySem.W.mg_none_of X G z_abs, PySem.W.mg_none_of X G z_all, PySem.W.mg_none_of X G z_any, PySem.W.mg_none_of X G z_bool, PySem.W.mg_none_of X G z_dict, PySem.W.mg_none_of X G z_enumerate, PySem.W.mg_none_of X G z_int, PySem.W.mg_none_of X G z_isinstance, PySem.W.mg_none_of X G z_len, PySem.W.mg_none_of X G z_list, PySem.W.mg_none_of X G z_max, PySem.W.mg_none_of X G z_min, PySem.W.mg_none_of X G z_range, PySem.W.mg_none_of X G z_sorted, PySem.W.mg_none_of X G z_str, PySem.W.mg_none_of X G z_sum, PySem.W.mg_none_of X G z_tuple, PySem.W.mg_none_of X G z_zip⟩
  have TBH : TbH K mg h [(cd_law_things_right, T_law_things_right), (cd_law, T_law)] [(T_law_things_right, lamQ "_law_things_right"), (T_law, lamQ "law")] := tbH_many [("_law_things_right", cd_law_things_right, T_law_things_right), ("law", cd_law, T_law)] rfl (List.forall_mem_cons.mpr ⟨lam_one X (PySem.W.mg_of X G a_law_things_right) F_law_things_right.code TF_law_things_right (own_ _ rec_law_things_right _ (PySem.W.mg_of X G a_law_things_right)) l_law_things_right rfl rfl, List.forall_mem_cons.mpr ⟨lam_one X (PySem.W.mg_of X G a_law) F_law.code TF_law (own_ _ rec_law _ (PySem.W.mg_of X G a_law)) l_law rfl rfl, List.forall_mem_nil _⟩⟩) dT_
  refine ⟨PySem.W.fnOf "law" "law" (defArgs s_law) (defBody s_law) (defScope s_law) .none kV_law dc_law pm_law an_law (.ref cd_law) ct_law, [(cd_law_things_right, T_law_things_right), (cd_law, T_law)], [(T_law_things_right, lamQ "_law_things_right"), (T_law, lamQ "law")], TBH, fun s v => .of_eq rfl, fun base _ _ tbs => ?_⟩
  have tbb_law_things_right := tbs (cd_law_things_right, T_law_things_right) (by simp)
  have tbb_law := tbs (cd_law, T_law) (by simp)
  have X_BadSteps : XOk l.prog w K mg base "BadSteps" "index" := ⟨C_BadSteps, f_BadSteps_init, _, m_BadSteps, ⟨⟨nm_BadSteps, q_BadSteps, N_BadSteps, bs_BadSteps, _, sn_BadSteps, sub_BadSteps, ab_BadSteps, col_BadSteps, dd_BadSteps, u0_BadSteps, u1_BadSteps, u2_BadSteps, u3_BadSteps, u5_BadSteps, xL_BadSteps, rfl⟩, sa_BadSteps, sb_BadSteps, tc_BadSteps, kc_BadSteps⟩, a_BadSteps_init, t_BadSteps_init, no_BadSteps, b_BadSteps_init, ok_BadSteps_init F_BadSteps_init⟩
  have X_BadStrip : XOk l.prog w K mg base "BadStrip" "strip" := ⟨C_BadStrip, f_BadStrip_init, _, m_BadStrip, ⟨⟨nm_BadStrip, q_BadStrip, N_BadStrip, bs_BadStrip, _, sn_BadStrip, sub_BadStrip, ab_BadStrip, col_BadStrip, dd_BadStrip, u0_BadStrip, u1_BadStrip, u2_BadStrip, u3_BadStrip, u5_BadStrip, xL_BadStrip, rfl⟩, sa_BadStrip, sb_BadStrip, tc_BadStrip, kc_BadStrip⟩, a_BadStrip_init, t_BadStrip_init, no_BadStrip, b_BadStrip_init, ok_BadStrip_init F_BadStrip_init⟩
  have h_law_pick : FOk l.prog w K mg base "_law_pick" 2 1 .rep dPick := ok_pick F_law_pick (PySem.W.mg_of X G a_law_pick) b_law_pick B.abs B.int
  have hS : StOk l.prog w K mg base := ok_law_start B F_law_start (PySem.W.mg_of X G a_law_start) b_law_start
  have h_is_integer : FOk l.prog w K mg base "is_integer" 1 1 .rep d_is_integer := ok_is_integer B F_is_integer (PySem.W.mg_of X G a_is_integer) b_is_integer 
  have h_is_number : FOk l.prog w K mg base "is_number" 1 2 .rep d_is_number := ok_is_number B F_is_number (PySem.W.mg_of X G a_is_number) b_is_number h_is_integer
  have h_is_list : FOk l.prog w K mg base "is_list" 1 1 .rep d_is_list := ok_is_list B F_is_list (PySem.W.mg_of X G a_is_list) b_is_list 
  have h_is_row : FOk l.prog w K mg base "is_row" 2 2 .rep d_is_row := ok_is_row B F_is_row (PySem.W.mg_of X G a_is_row) b_is_row h_is_list
  have h_is_text : FOk l.prog w K mg base "is_text" 1 1 .rep d_is_text := ok_is_text B F_is_text (PySem.W.mg_of X G a_is_text) b_is_text 
  have h_is_length : FOk l.prog w K mg base "is_length" 1 2 .rep d_is_length := ok_is_length B F_is_length (PySem.W.mg_of X G a_is_length) b_is_length h_is_integer
  have h_is_letter : FOk l.prog w K mg base "is_letter" 1 2 .rep d_is_letter := ok_is_letter B F_is_letter (PySem.W.mg_of X G a_is_letter) b_is_letter h_is_text
  have h_wrong_lengths : FOk l.prog w K mg base "wrong_lengths" 1 3 .rep d_wrong_lengths := ok_wrong_lengths B F_wrong_lengths (PySem.W.mg_of X G a_wrong_lengths) b_wrong_lengths h_is_list h_is_length
  have h_wrong_letters : FOk l.prog w K mg base "wrong_letters" 2 3 .rep d_wrong_letters := ok_wrong_letters B F_wrong_letters (PySem.W.mg_of X G a_wrong_letters) b_wrong_letters h_is_list h_is_letter
  have h_Strip_init__ : IOk l.prog w K mg base "Strip" 3 4 d_Strip_init__ := ok_Strip_init__ B F_Strip_init__ m_Strip ⟨mk_Strip_init__, a_Strip_init__, i_Strip_init__, kc_Strip_init__⟩ b_Strip_init__ h_wrong_lengths h_wrong_letters T_Strip T_Strip__creases T_Strip__lengths
  have h_Strip_lengths : MOk l.prog w K mg base "Strip" "lengths" 1 1 .frs d_Strip_lengths := ok_Strip_lengths B F_Strip_lengths m_Strip K_Strip ⟨a_Strip_lengths, i_Strip_lengths, k_Strip_lengths⟩ b_Strip_lengths T_Strip T_Strip__lengths
  have h_Strip_creases : MOk l.prog w K mg base "Strip" "creases" 1 1 .frs d_Strip_creases := ok_Strip_creases B F_Strip_creases m_Strip K_Strip ⟨a_Strip_creases, i_Strip_creases, k_Strip_creases⟩ b_Strip_creases T_Strip T_Strip__creases
  have h_need_strip : FOk l.prog w K mg base "need_strip" 1 3 .rep d_need_strip := ok_need_strip B F_need_strip (PySem.W.mg_of X G a_need_strip) b_need_strip IG_Strip X_BadStrip
  have h_can_crimp : FOk l.prog w K mg base "can_crimp" 3 1 .rep d_can_crimp := ok_can_crimp B F_can_crimp (PySem.W.mg_of X G a_can_crimp) b_can_crimp 
  have h_steps_of : FOk l.prog w K mg base "steps_of" 2 2 .frs d_steps_of := ok_steps_of B F_steps_of (PySem.W.mg_of X G a_steps_of) b_steps_of h_can_crimp
  have h_step_in : FOk l.prog w K mg base "step_in" 3 3 .rep d_step_in := ok_step_in B F_step_in (PySem.W.mg_of X G a_step_in) b_step_in h_is_number h_is_row h_steps_of
  have h_parts_after : FOk l.prog w K mg base "parts_after" 3 1 .rep d_parts_after := ok_parts_after B F_parts_after (PySem.W.mg_of X G a_parts_after) b_parts_after 
  have h_parts_done : FOk l.prog w K mg base "parts_done" 3 4 .rep d_parts_done := ok_parts_done B F_parts_done (PySem.W.mg_of X G a_parts_done) b_parts_done h_is_list h_step_in h_parts_after
  have h_done : FOk l.prog w K mg base "done" 2 6 .frs d_done := ok_done B F_done (PySem.W.mg_of X G a_done) b_done h_need_strip h_parts_done h_Strip_creases h_Strip_lengths h_Strip_init__ X_BadSteps
  have h_law_between : FOk l.prog w K mg base "_law_between" 3 2 .rep d_law_between := ok_law_between B F_law_between (PySem.W.mg_of X G a_law_between) b_law_between h_law_pick
  have h_law_one : FOk l.prog w K mg base "_law_one" 2 2 .rep d_law_one := ok_law_one B F_law_one (PySem.W.mg_of X G a_law_one) b_law_one h_law_pick
  have h_law_mixed : FOk l.prog w K mg base "_law_mixed" 2 2 .frs d_law_mixed := ok_law_mixed B F_law_mixed (PySem.W.mg_of X G a_law_mixed) b_law_mixed h_law_pick
  have h_law_same : FOk l.prog w K mg base "_law_same" 2 9 .rep d_law_same := ok_law_same B F_law_same (PySem.W.mg_of X G a_law_same) b_law_same 
  have h_law_copy : FOk l.prog w K mg base "_law_copy" 1 9 .rep d_law_copy := ok_law_copy B F_law_copy (PySem.W.mg_of X G a_law_copy) b_law_copy 
  have h_law_loose : FOk l.prog w K mg base "_law_loose" 2 11 .rep d_law_loose := ok_law_loose B F_law_loose (PySem.W.mg_of X G a_law_loose) b_law_loose h_law_pick h_law_mixed
  have h_law_is_number : FOk l.prog w K mg base "_law_is_number" 1 1 .rep d_law_is_number := ok_law_is_number B F_law_is_number (PySem.W.mg_of X G a_law_is_number) b_law_is_number 
  have h_law_strip_of : FOk l.prog w K mg base "_law_strip_of" 1 6 .frs d_law_strip_of := ok_law_strip_of B F_law_strip_of (PySem.W.mg_of X G a_law_strip_of) b_law_strip_of h_Strip_init__
  have h_law_draw_lengths : FOk l.prog w K mg base "_law_draw_lengths" 2 3 .frs d_law_draw_lengths := ok_law_draw_lengths B F_law_draw_lengths (PySem.W.mg_of X G a_law_draw_lengths) b_law_draw_lengths h_law_one h_law_pick
  have h_law_draw_strip : FOk l.prog w K mg base "_law_draw_strip" 4 4 .frs d_law_draw_strip := ok_law_draw_strip B F_law_draw_strip (PySem.W.mg_of X G a_law_draw_strip) b_law_draw_strip h_law_between h_law_pick h_law_one h_law_draw_lengths
  have h_law_steps : FOk l.prog w K mg base "_law_steps" 1 1 .frs d_law_steps := ok_law_steps B F_law_steps (PySem.W.mg_of X G a_law_steps) b_law_steps 
  have h_law_after : FOk l.prog w K mg base "_law_after" 2 1 .frs d_law_after := ok_law_after B F_law_after (PySem.W.mg_of X G a_law_after) b_law_after 
  have h_law_done : FOk l.prog w K mg base "_law_done" 2 2 .rep d_law_done := ok_law_done B F_law_done (PySem.W.mg_of X G a_law_done) b_law_done h_law_is_number h_law_steps h_law_after
  have h_law_down : FOk l.prog w K mg base "_law_down" 2 3 .rep d_law_down := ok_law_down B F_law_down (PySem.W.mg_of X G a_law_down) b_law_down h_law_one h_law_steps h_law_after
  have h_law_odd_steps : FOk l.prog w K mg base "_law_odd_steps" 2 2 .frs d_law_odd_steps := ok_law_odd_steps B F_law_odd_steps (PySem.W.mg_of X G a_law_odd_steps) b_law_odd_steps h_law_steps
  have h_law_things_right : FOk l.prog w K mg base "_law_things_right" 4 12 .rep d_law_things_right := ok_law_things_right B F_law_things_right (PySem.W.mg_of X G a_law_things_right) tbb_law_things_right b_law_things_right h_law_done h_law_loose h_law_copy h_done h_law_same h_Strip_creases h_Strip_lengths IG_Strip TO_law_told TL_law_told
  exact ok_law B F_law (PySem.W.mg_of X G a_law) tbb_law TBH.st hS h_law_draw_strip h_law_one h_law_strip_of h_law_down h_law_mixed h_law_pick h_law_odd_steps h_law_things_right h_law_same h_done h_law_copy TO_law_told TL_law_told law_plain
end Tr
open PySem PySem.W PyProof.Rows in
set_option maxRecDepth 100000 in
set_option maxHeartbeats 0 in
theorem PySem.Challenge.cw_foldflat_k15_steps_one_after_another_holds : PySem.Challenge.rw_foldflat_k15_steps_one_after_another.Holds := by
  w_on; o_law; k_head; (case hw => w_witness2)
  k_fill
  refine Tr.law_walk 13 (l := PySem.Challenge.rw_foldflat_k15_steps_one_after_another) rfl rfl ⟨rfl, by decide, by decide⟩ (fun w h Y => by first | exact PySem.W.kIn_of Y | exact PySem.W.km_in_of Y) ?F
  case F =>
    intro w mg fa h KX G hmg own_
    refine' Tr.all_mk KX G hmg own_ ?aC_Strip ?aC_BadStrip ?aC_BadRing ?aC_BadOther ?aC_BadOrder ?aC_BadStep ?aC_BadSteps ?aC_BadLock ?aC_NotTold ?aC_BadAnswer ?aC_BadAnswerText ?aC_BadWholeText ?aC_BadCases ?pg_Strip ?hd_Strip ?po_Strip ?sa_Strip ?n_Strip__creases ?n_Strip__lengths ?x2_ ?x3_ ?x1_Strip ?x4_Strip ?ic_Strip ?tc_Strip ?a_law_start ?l_law_start ?c_law_start ?k_law_start ?a_law_pick ?l_law_pick ?c_law_pick ?k_law_pick ?a_is_integer ?l_is_integer ?c_is_integer ?k_is_integer ?a_is_number ?l_is_number ?c_is_number ?k_is_number ?a_is_list ?l_is_list ?c_is_list ?k_is_list ?a_is_row ?l_is_row ?c_is_row ?k_is_row ?a_is_text ?l_is_text ?c_is_text ?k_is_text ?a_is_length ?l_is_length ?c_is_length ?k_is_length ?a_is_letter ?l_is_letter ?c_is_letter ?k_is_letter ?a_wrong_lengths ?l_wrong_lengths ?c_wrong_lengths ?k_wrong_lengths ?a_wrong_letters ?l_wrong_letters ?c_wrong_letters ?k_wrong_letters ?a_Strip_init__ ?i_Strip_init__ ?l_Strip_init__ ?c_Strip_init__ ?k_Strip_init__ ?mk_Strip_init__ ?kc_Strip_init__ ?a_Strip_lengths ?i_Strip_lengths ?l_Strip_lengths ?c_Strip_lengths ?k_Strip_lengths ?a_Strip_creases ?i_Strip_creases ?l_Strip_creases ?c_Strip_creases ?k_Strip_creases ?a_need_strip ?l_need_strip ?c_need_strip ?k_need_strip ?a_can_crimp ?l_can_crimp ?c_can_crimp ?k_can_crimp ?a_steps_of ?l_steps_of ?c_steps_of ?k_steps_of ?a_step_in ?l_step_in ?c_step_in ?k_step_in ?a_parts_after ?l_parts_after ?c_parts_after ?k_parts_after ?a_parts_done ?l_parts_done ?c_parts_done ?k_parts_done ?a_done ?l_done ?c_done ?k_done ?a_law_between ?l_law_between ?c_law_between ?k_law_between ?a_law_one ?l_law_one ?c_law_one ?k_law_one ?a_law_mixed ?l_law_mixed ?c_law_mixed ?k_law_mixed ?a_law_same ?l_law_same ?c_law_same ?k_law_same ?a_law_copy ?l_law_copy ?c_law_copy ?k_law_copy ?a_law_loose ?l_law_loose ?c_law_loose ?k_law_loose ?a_law_is_number ?l_law_is_number ?c_law_is_number ?k_law_is_number ?a_law_strip_of ?l_law_strip_of ?c_law_strip_of ?k_law_strip_of ?a_law_draw_lengths ?l_law_draw_lengths ?c_law_draw_lengths ?k_law_draw_lengths ?a_law_draw_strip ?l_law_draw_strip ?c_law_draw_strip ?k_law_draw_strip ?a_law_steps ?l_law_steps ?c_law_steps ?k_law_steps ?a_law_after ?l_law_after ?c_law_after ?k_law_after ?a_law_done ?l_law_done ?c_law_done ?k_law_done ?a_law_down ?l_law_down ?c_law_down ?k_law_down ?a_law_odd_steps ?l_law_odd_steps ?c_law_odd_steps ?k_law_odd_steps ?a_law_things_right ?l_law_things_right ?c_law_things_right ?k_law_things_right ?lc_law_things_right ?tt_law_things_right ?tg_law_things_right ?tn_law_things_right ?rec_law_things_right ?a_law_told ?l_law_told ?c_law_told ?k_law_told ?a_law ?l_law ?c_law ?k_law ?lc_law ?tt_law ?tg_law ?tn_law ?rec_law ?dT_ ?xL_BadSteps ?sa_BadSteps ?sb_BadSteps ?tc_BadSteps ?kc_BadSteps ?no_BadSteps ?a_BadSteps_init ?t_BadSteps_init ?l_BadSteps_init ?c_BadSteps_init ?k_BadSteps_init ?xL_BadStrip ?sa_BadStrip ?sb_BadStrip ?tc_BadStrip ?kc_BadStrip ?no_BadStrip ?a_BadStrip_init ?t_BadStrip_init ?l_BadStrip_init ?c_BadStrip_init ?k_BadStrip_init ?ga_BadStrip ?gg_BadStrip ?hd_BadStrip ?ic_BadStrip ?ss_BadStrip_BadStrip ?ga_BadSteps ?gg_BadSteps ?hd_BadSteps ?ss_BadSteps_BadStrip ?sb_BadRing ?ic_BadRing ?tc_BadRing ?ss_BadSteps_BadRing ?sb_BadOther ?ic_BadOther ?tc_BadOther ?ss_BadSteps_BadOther ?sb_BadOrder ?ic_BadOrder ?tc_BadOrder ?ss_BadSteps_BadOrder ?sb_BadStep ?ic_BadStep ?tc_BadStep ?ss_BadSteps_BadStep ?ic_BadSteps ?ss_BadSteps_BadSteps ?z_abs ?z_all ?z_any ?z_bool ?z_dict ?z_enumerate ?z_int ?z_isinstance ?z_len ?z_list ?z_max ?z_min ?z_range ?z_sorted ?z_str ?z_sum ?z_tuple ?z_zip
    (case aC_Strip => k_is)
    (case aC_BadStrip => k_is)
    (case aC_BadRing => k_is)
    (case aC_BadOther => k_is)
    (case aC_BadOrder => k_is)
    (case aC_BadStep => k_is)
    (case aC_BadSteps => k_is)
    (case aC_BadLock => k_is)
    (case aC_NotTold => k_is)
    (case aC_BadAnswer => k_is)
    (case aC_BadAnswerText => k_is)
    (case aC_BadWholeText => k_is)
    (case aC_BadCases => k_is)
    (case pg_Strip => k_is)
    (case hd_Strip => k_is)
    (case po_Strip => k_is)
    (case sa_Strip => k_is)
    (case n_Strip__creases => k_is)
    (case n_Strip__lengths => k_is)
    (case x2_ => k_is)
    (case x3_ => k_is)
    (case x1_Strip => k_is)
    (case x4_Strip => k_is)
    (case ic_Strip => k_is)
    (case tc_Strip => k_is)
    (case a_law_start => k_is)
    (case l_law_start => k_is)
    (case c_law_start => k_is)
    (case k_law_start => k_is)
    (case a_law_pick => k_is)
    (case l_law_pick => k_is)
    (case c_law_pick => k_is)
    (case k_law_pick => k_is)
    (case a_is_integer => k_is)
    (case l_is_integer => k_is)
    (case c_is_integer => k_is)
    (case k_is_integer => k_is)
    (case a_is_number => k_is)
    (case l_is_number => k_is)
    (case c_is_number => k_is)
    (case k_is_number => k_is)
    (case a_is_list => k_is)
    (case l_is_list => k_is)
    (case c_is_list => k_is)
    (case k_is_list => k_is)
    (case a_is_row => k_is)
    (case l_is_row => k_is)
    (case c_is_row => k_is)
    (case k_is_row => k_is)
    (case a_is_text => k_is)
    (case l_is_text => k_is)
    (case c_is_text => k_is)
    (case k_is_text => k_is)
    (case a_is_length => k_is)
    (case l_is_length => k_is)
    (case c_is_length => k_is)
    (case k_is_length => k_is)
    (case a_is_letter => k_is)
    (case l_is_letter => k_is)
    (case c_is_letter => k_is)
    (case k_is_letter => k_is)
    (case a_wrong_lengths => k_is)
    (case l_wrong_lengths => k_is)
    (case c_wrong_lengths => k_is)
    (case k_wrong_lengths => k_is)
    (case a_wrong_letters => k_is)
    (case l_wrong_letters => k_is)
    (case c_wrong_letters => k_is)
    (case k_wrong_letters => k_is)
    (case a_Strip_init__ => k_is)
    (case i_Strip_init__ => k_is)
    (case l_Strip_init__ => k_is)
    (case c_Strip_init__ => k_is)
    (case k_Strip_init__ => k_is)
    (case mk_Strip_init__ => k_is)
    (case kc_Strip_init__ => k_is)
    (case a_Strip_lengths => k_is)
    (case i_Strip_lengths => k_is)
    (case l_Strip_lengths => k_is)
    (case c_Strip_lengths => k_is)
    (case k_Strip_lengths => k_is)
    (case a_Strip_creases => k_is)
    (case i_Strip_creases => k_is)
    (case l_Strip_creases => k_is)
    (case c_Strip_creases => k_is)
    (case k_Strip_creases => k_is)
    (case a_need_strip => k_is)
    (case l_need_strip => k_is)
    (case c_need_strip => k_is)
    (case k_need_strip => k_is)
    (case a_can_crimp => k_is)
    (case l_can_crimp => k_is)
    (case c_can_crimp => k_is)
    (case k_can_crimp => k_is)
    (case a_steps_of => k_is)
    (case l_steps_of => k_is)
    (case c_steps_of => k_is)
    (case k_steps_of => k_is)
    (case a_step_in => k_is)
    (case l_step_in => k_is)
    (case c_step_in => k_is)
    (case k_step_in => k_is)
    (case a_parts_after => k_is)
    (case l_parts_after => k_is)
    (case c_parts_after => k_is)
    (case k_parts_after => k_is)
    (case a_parts_done => k_is)
    (case l_parts_done => k_is)
    (case c_parts_done => k_is)
    (case k_parts_done => k_is)
    (case a_done => k_is)
    (case l_done => k_is)
    (case c_done => k_is)
    (case k_done => k_is)
    (case a_law_between => k_is)
    (case l_law_between => k_is)
    (case c_law_between => k_is)
    (case k_law_between => k_is)
    (case a_law_one => k_is)
    (case l_law_one => k_is)
    (case c_law_one => k_is)
    (case k_law_one => k_is)
    (case a_law_mixed => k_is)
    (case l_law_mixed => k_is)
    (case c_law_mixed => k_is)
    (case k_law_mixed => k_is)
    (case a_law_same => k_is)
    (case l_law_same => k_is)
    (case c_law_same => k_is)
    (case k_law_same => k_is)
    (case a_law_copy => k_is)
    (case l_law_copy => k_is)
    (case c_law_copy => k_is)
    (case k_law_copy => k_is)
    (case a_law_loose => k_is)
    (case l_law_loose => k_is)
    (case c_law_loose => k_is)
    (case k_law_loose => k_is)
    (case a_law_is_number => k_is)
    (case l_law_is_number => k_is)
    (case c_law_is_number => k_is)
    (case k_law_is_number => k_is)
    (case a_law_strip_of => k_is)
    (case l_law_strip_of => k_is)
    (case c_law_strip_of => k_is)
    (case k_law_strip_of => k_is)
    (case a_law_draw_lengths => k_is)
    (case l_law_draw_lengths => k_is)
    (case c_law_draw_lengths => k_is)
    (case k_law_draw_lengths => k_is)
    (case a_law_draw_strip => k_is)
    (case l_law_draw_strip => k_is)
    (case c_law_draw_strip => k_is)
    (case k_law_draw_strip => k_is)
    (case a_law_steps => k_is)
    (case l_law_steps => k_is)
    (case c_law_steps => k_is)
    (case k_law_steps => k_is)
    (case a_law_after => k_is)
    (case l_law_after => k_is)
    (case c_law_after => k_is)
    (case k_law_after => k_is)
    (case a_law_done => k_is)
    (case l_law_done => k_is)
    (case c_law_done => k_is)
    (case k_law_done => k_is)
    (case a_law_down => k_is)
    (case l_law_down => k_is)
    (case c_law_down => k_is)
    (case k_law_down => k_is)
    (case a_law_odd_steps => k_is)
    (case l_law_odd_steps => k_is)
    (case c_law_odd_steps => k_is)
    (case k_law_odd_steps => k_is)
    (case a_law_things_right => k_is)
    (case l_law_things_right => k_is)
    (case c_law_things_right => k_is)
    (case k_law_things_right => k_is)
    (case lc_law_things_right => k_is)
    (case tt_law_things_right => rfl)
    (case tg_law_things_right => rfl)
    (case tn_law_things_right => k_is)
    (case rec_law_things_right => decide +kernel)
    (case a_law_told => k_is)
    (case l_law_told => k_is)
    (case c_law_told => k_is)
    (case k_law_told => k_is)
    (case a_law => k_is)
    (case l_law => k_is)
    (case c_law => k_is)
    (case k_law => k_is)
    (case lc_law => k_is)
    (case tt_law => rfl)
    (case tg_law => rfl)
    (case tn_law => k_is)
    (case rec_law => decide +kernel)
    (case dT_ => decide +kernel)
    (case xL_BadSteps => k_is)
    (case sa_BadSteps => k_is)
    (case sb_BadSteps => first | k_is | rfl)
    (case tc_BadSteps => k_is)
    (case kc_BadSteps => k_is)
    (case no_BadSteps => k_is)
    (case a_BadSteps_init => k_is)
    (case t_BadSteps_init => k_is)
    (case l_BadSteps_init => k_is)
    (case c_BadSteps_init => k_is)
    (case k_BadSteps_init => k_is)
    (case xL_BadStrip => k_is)
    (case sa_BadStrip => k_is)
    (case sb_BadStrip => first | k_is | rfl)
    (case tc_BadStrip => k_is)
    (case kc_BadStrip => k_is)
    (case no_BadStrip => k_is)
    (case a_BadStrip_init => k_is)
    (case t_BadStrip_init => k_is)
    (case l_BadStrip_init => k_is)
    (case c_BadStrip_init => k_is)
    (case k_BadStrip_init => k_is)
    (case ga_BadStrip => k_is)
    (case gg_BadStrip => k_is)
    (case hd_BadStrip => k_is)
    (case ic_BadStrip => k_is)
    (case ss_BadStrip_BadStrip => first | k_is | rfl)
    (case ga_BadSteps => k_is)
    (case gg_BadSteps => k_is)
    (case hd_BadSteps => k_is)
    (case ss_BadSteps_BadStrip => first | k_is | rfl)
    (case sb_BadRing => first | k_is | rfl)
    (case ic_BadRing => k_is)
    (case tc_BadRing => k_is)
    (case ss_BadSteps_BadRing => first | k_is | rfl)
    (case sb_BadOther => first | k_is | rfl)
    (case ic_BadOther => k_is)
    (case tc_BadOther => k_is)
    (case ss_BadSteps_BadOther => first | k_is | rfl)
    (case sb_BadOrder => first | k_is | rfl)
    (case ic_BadOrder => k_is)
    (case tc_BadOrder => k_is)
    (case ss_BadSteps_BadOrder => first | k_is | rfl)
    (case sb_BadStep => first | k_is | rfl)
    (case ic_BadStep => k_is)
    (case tc_BadStep => k_is)
    (case ss_BadSteps_BadStep => first | k_is | rfl)
    (case ic_BadSteps => k_is)
    (case ss_BadSteps_BadSteps => first | k_is | rfl)
    (case z_abs => k_is)
    (case z_all => k_is)
    (case z_any => k_is)
    (case z_bool => k_is)
    (case z_dict => k_is)
    (case z_enumerate => k_is)
    (case z_int => k_is)
    (case z_isinstance => k_is)
    (case z_len => k_is)
    (case z_list => k_is)
    (case z_max => k_is)
    (case z_min => k_is)
    (case z_range => k_is)
    (case z_sorted => k_is)
    (case z_str => k_is)
    (case z_sum => k_is)
    (case z_tuple => k_is)
    (case z_zip => k_is)
#print axioms PySem.Challenge.cw_foldflat_k15_steps_one_after_another_holds

