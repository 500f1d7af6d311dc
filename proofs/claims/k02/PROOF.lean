import PyProof.Rows.All
import Wide.All
import OpenK.AllK
import Wide.FinOn
import HandS.ForMost
import HandS.ForExc
import HandS.Lambda
import HandS.IsInst
import HandS.Wide
import HandS.Defaults
import HandS.Zip
import HandS.Strs
import HandS.Style
import HandS.HeadHook2
import HandS.Ends
import HandS.HeadEnd
import HandS.Head2
import PyProof.Rows.SetListFold
import HandS.Conv
import HandS.Text
import HandS.NoneIn
import HandS.Codes
import PyProof.LongRange
import HandS.SortKw
import KE.DataMinMax
import PyProof.ListRange
import HandS.SetFor
import HandS.ExcIs
import HandS.ExcInit
import HandS.ExcField
import HandS.CallSlots
import HandS.Iter
import HandS.HeadHook4
import HandS.HeadWalk
import PySem.Challenge.RW_readround_k02_sections_long
set_option Elab.async false
set_option linter.all false
set_option maxRecDepth 100000
/-! Dl: a layer of data over the hand layer's readings: what is frozen is told as data (D), what may still change stands in a list (Mu) -/
namespace Dl
open PySem L2

/-- data -/
inductive D where
  | non | bl (b : Bool) | int (i : Int) | str (x : Str) | ty (n : String)
  | tup (xs : List D) | lst (xs : List D)
  /-- a list, a tuple that is read alone (the script, a written one) -/
  | rdl (xs : List D) | rdt (xs : List D)
  | obj (C : Addr) (fs : List (Str × D))
  | dct (kvs : List (Key × D))
  /-- the k-th thing that may change -/
  | own (k : Nat)
  /-- an object of the written part -/
  | loc (a : Addr)
  /-- a caught exception: its class, its fields -/
  | exc (C : Addr) (fs : List (Str × D))
deriving Inhabited

/-- a caught exception in the heap: its class, its own dict -/
def ExV (cls : Value) (d : Option Addr) (a : Addr) : HO := .ext fun h => ∃ (oe : Obj) (vs : Array Value), h.get? a = some oe ∧ Zc cls d oe ∧ oe.data = .fields vs
/-- the own dict of an exception -/
def ExD (G : Hp) (d : Option Addr) (fs : List (Str × V)) : Prop := (d = none ∧ fs = []) ∨ ∃ dx, d = some dx ∧ G dx = some (.xd fs)
theorem ExD.mono {G G' : Hp} (s : Same G G') {d : Option Addr} {fs : List (Str × V)} (h : ExD G d fs) : ExD G' d fs := h.imp id fun ⟨dx, e, g⟩ => ⟨dx, e, s _ _ g⟩

/-- what a thing that may change is now -/
inductive MO where
  | dead
  | lst (xs : List D)
  | ins (C : Addr) (fs : List (Str × D))
  | dK (kvs : List (Key × D))
  | dT (kvs : List (List Key × D))
  /-- the table at p of code objects of the name q -/
  | tab (p : Addr) (q : Str)
deriving Inhabited
abbrev Mu := List MO
abbrev En := List (Option D)

section
variable (K : PySem.W.Frag) (G : Hp) (al : List Addr)
mutual
inductive Rp : V → D → Prop
  | non : Rp .non .non
  | bl (b : Bool) : Rp (.bl b) (.bl b)
  | int (i : Int) : Rp (.int i) (.int i)
  | str (x : Str) : Rp (.str x) (.str x)
  | ty (n : String) : Rp (.ty n) (.ty n)
  | tup {a : Addr} {vs : List V} {ds : List D} : G a = some (.tup vs) → Rps vs ds → Rp (.ref a) (.tup ds)
  | lst {a : Addr} {vs : List V} {ds : List D} : G a = some (.lst vs) → Rps vs ds → Rp (.ref a) (.lst ds)
  | rdl {a : Addr} {vs : List V} {ds : List D} : SqL K G a vs → Rps vs ds → Rp (.ref a) (.rdl ds)
  | rdt {a : Addr} {vs : List V} {ds : List D} : SqT K G a vs → Rps vs ds → Rp (.ref a) (.rdt ds)
  | obj {a C dx : Addr} {fs : List (Str × V)} {gs : List (Str × D)} : G a = some (.ins C dx fs) → Rpf fs gs → Rp (.ref a) (.obj C gs)
  | dct {a : Addr} {kvs : List (Key × V)} {gs : List (Key × D)} : G a = some (.dK kvs) → Rpk kvs gs → Rp (.ref a) (.dct gs)
  | own {a : Addr} {k : Nat} : al[k]? = some a → Rp (.ref a) (.own k)
  | loc (a : Addr) : Rp (.ref a) (.loc a)
  | exc {a C : Addr} {dd : Option Addr} {fs : List (Str × V)} {gs : List (Str × D)} : G a = some (ExV (.ref C) dd a) → ExD G dd fs → Rpf fs gs → Rp (.ref a) (.exc C gs)
inductive Rps : List V → List D → Prop
  | nil : Rps [] []
  | cons {v : V} {vs : List V} {d : D} {ds : List D} : Rp v d → Rps vs ds → Rps (v :: vs) (d :: ds)
inductive Rpf : List (Str × V) → List (Str × D) → Prop
  | nil : Rpf [] []
  | cons {f : Str} {v : V} {vs : List (Str × V)} {d : D} {ds : List (Str × D)} : Rp v d → Rpf vs ds → Rpf ((f, v) :: vs) ((f, d) :: ds)
inductive Rpk : List (Key × V) → List (Key × D) → Prop
  | nil : Rpk [] []
  | cons {f : Key} {v : V} {vs : List (Key × V)} {d : D} {ds : List (Key × D)} : Rp v d → Rpk vs ds → Rpk ((f, v) :: vs) ((f, d) :: ds)
end
end

theorem sql_mono {K : PySem.W.Frag} {H H' : Hp} {a : Addr} {xs : List V} (e : Same H H') (h : SqL K H a xs) : SqL K H' a xs := e.seq h
theorem sqt_mono {K : PySem.W.Frag} {H H' : Hp} {a : Addr} {xs : List V} (e : Same H H') (h : SqT K H a xs) : SqT K H' a xs := by
  rcases h with (h | ⟨o, h⟩) | h
  · exact .inl (.inl (e _ _ h))
  · exact .inl (.inr ⟨o, e _ _ h⟩)
  · exact .inr h

/-- al' goes on from al -/
def Pre (al al' : List Addr) : Prop := ∃ be, al' = al ++ be
theorem Pre.refl (al : List Addr) : Pre al al := ⟨[], by simp⟩
theorem Pre.trans {a b c : List Addr} (h : Pre a b) (h' : Pre b c) : Pre a c := by
  obtain ⟨x, rfl⟩ := h
  obtain ⟨y, rfl⟩ := h'
  exact ⟨x ++ y, by simp⟩
theorem Pre.get {al al' : List Addr} (h : Pre al al') {k : Nat} {a : Addr} (e : al[k]? = some a) : al'[k]? = some a := by
  obtain ⟨x, rfl⟩ := h
  rw [List.getElem?_append_left (List.getElem?_eq_some_iff.mp e).1]
  exact e
theorem Pre.mem {al al' : List Addr} (h : Pre al al') {a : Addr} (e : a ∈ al) : a ∈ al' := by
  obtain ⟨x, rfl⟩ := h
  exact List.mem_append_left _ e

section
variable {K : PySem.W.Frag} {G G' : Hp} {al al' : List Addr}
mutual
theorem Rp.mono (s : Same G G') (p : Pre al al') : ∀ {v : V} {d : D}, Rp K G al v d → Rp K G' al' v d
  | _, _, .non => .non
  | _, _, .bl b => .bl b
  | _, _, .int i => .int i
  | _, _, .str x => .str x
  | _, _, .ty x => .ty x
  | _, _, .tup h r => .tup (s _ _ h) (Rps.mono s p r)
  | _, _, .lst h r => .lst (s _ _ h) (Rps.mono s p r)
  | _, _, .rdl h r => .rdl (sql_mono s h) (Rps.mono s p r)
  | _, _, .rdt h r => .rdt (sqt_mono s h) (Rps.mono s p r)
  | _, _, .obj h r => .obj (s _ _ h) (Rpf.mono s p r)
  | _, _, .dct h r => .dct (s _ _ h) (Rpk.mono s p r)
  | _, _, .own h => .own (p.get h)
  | _, _, .loc a => .loc a
  | _, _, .exc h hd r => .exc (s _ _ h) (hd.mono s) (Rpf.mono s p r)
theorem Rps.mono (s : Same G G') (p : Pre al al') : ∀ {v : List V} {d : List D}, Rps K G al v d → Rps K G' al' v d
  | _, _, .nil => .nil
  | _, _, .cons h r => .cons (Rp.mono s p h) (Rps.mono s p r)
theorem Rpf.mono (s : Same G G') (p : Pre al al') : ∀ {v : List (Str × V)} {d : List (Str × D)}, Rpf K G al v d → Rpf K G' al' v d
  | _, _, .nil => .nil
  | _, _, .cons h r => .cons (Rp.mono s p h) (Rpf.mono s p r)
theorem Rpk.mono (s : Same G G') (p : Pre al al') : ∀ {v : List (Key × V)} {d : List (Key × D)}, Rpk K G al v d → Rpk K G' al' v d
  | _, _, .nil => .nil
  | _, _, .cons h r => .cons (Rp.mono s p h) (Rpk.mono s p r)
end
theorem Rps.length {vs : List V} {ds : List D} (h : Rps K G al vs ds) : vs.length = ds.length := by
  induction ds generalizing vs with
  | nil => cases h; rfl
  | cons d ds ih => cases h with | cons _ r => simp [ih r]
theorem Rps.get {vs : List V} {ds : List D} (h : Rps K G al vs ds) : ∀ {i : Nat} {d : D}, ds[i]? = some d → ∃ v, vs[i]? = some v ∧ Rp K G al v d := by
  induction ds generalizing vs with
  | nil => intro i d e; simp at e
  | cons x xs ih =>
    intro i d e
    cases h with
    | cons r t =>
      cases i with
      | zero => simp at e; subst e; exact ⟨_, rfl, r⟩
      | succ i => simp at e; simpa using ih t e
theorem Rps.getV {vs : List V} {ds : List D} (h : Rps K G al vs ds) {i : Nat} {v : V} (e : vs[i]? = some v) : ∃ d, ds[i]? = some d ∧ Rp K G al v d := by
  have hi : i < ds.length := by rw [← h.length]; exact (List.getElem?_eq_some_iff.mp e).1
  obtain ⟨w, e2, r⟩ := h.get (List.getElem?_eq_getElem hi)
  rw [e] at e2; cases e2
  exact ⟨_, List.getElem?_eq_getElem hi, r⟩
theorem Rps.append {vs ws : List V} {ds es : List D} (h : Rps K G al vs ds) (h' : Rps K G al ws es) : Rps K G al (vs ++ ws) (ds ++ es) := by
  induction ds generalizing vs with
  | nil => cases h; exact h'
  | cons d ds ih => cases h with | cons r t => exact .cons r (ih t)
theorem Rps.take {vs : List V} {ds : List D} (h : Rps K G al vs ds) (n : Nat) : Rps K G al (vs.take n) (ds.take n) := by
  induction n generalizing vs ds with
  | zero => simp; exact .nil
  | succ n ih => cases h with
    | nil => simp; exact .nil
    | cons r t => simpa using .cons r (ih t)
theorem Rps.drop {vs : List V} {ds : List D} (h : Rps K G al vs ds) (n : Nat) : Rps K G al (vs.drop n) (ds.drop n) := by
  induction n generalizing vs ds with
  | zero => simpa using h
  | succ n ih => cases h with
    | nil => simp; exact .nil
    | cons r t => simpa using ih t
theorem Rps.reverse {vs : List V} {ds : List D} (h : Rps K G al vs ds) : Rps K G al vs.reverse ds.reverse := by
  induction ds generalizing vs with
  | nil => cases h; exact .nil
  | cons d ds ih => cases h with | cons r t => simpa using (ih t).append (.cons r .nil)
theorem Rps.set {vs : List V} {ds : List D} (h : Rps K G al vs ds) (i : Nat) {v : V} {d : D} (r : Rp K G al v d) : Rps K G al (vs.set i v) (ds.set i d) := by
  induction ds generalizing vs i with
  | nil => cases h; simp; exact .nil
  | cons x xs ih => cases h with
    | cons r' t => cases i with
      | zero => exact .cons r t
      | succ i => exact .cons r' (ih t i)
theorem Rps.ints : ∀ {vs : List V} {ns : List Int}, Rps K G al vs (ns.map D.int) → vs = ns.map V.int
  | _, [], h => by cases h; rfl
  | _, n :: ns, h => by
    cases h with
    | cons r t => cases r; rw [Rps.ints (ns := ns) t]; rfl
theorem Rps.of_ints : ∀ (ns : List Int), Rps K G al (ns.map V.int) (ns.map D.int)
  | [] => .nil
  | n :: ns => .cons (.int n) (Rps.of_ints ns)
theorem Rps.bools : ∀ {vs : List V} {ns : List Bool}, Rps K G al vs (ns.map D.bl) → vs = ns.map V.bl
  | _, [], h => by cases h; rfl
  | _, n :: ns, h => by
    cases h with
    | cons r t => cases r; rw [Rps.bools (ns := ns) t]; rfl
theorem Rps.strs : ∀ {vs : List V} {ns : List Str}, Rps K G al vs (ns.map D.str) → vs = ns.map V.str
  | _, [], h => by cases h; rfl
  | _, n :: ns, h => by
    cases h with
    | cons r t => cases r; rw [Rps.strs (ns := ns) t]; rfl
theorem Rps.of_strs : ∀ (ns : List Str), Rps K G al (ns.map V.str) (ns.map D.str)
  | [] => .nil
  | n :: ns => .cons (.str n) (Rps.of_strs ns)
theorem Rpf.look {fs : List (Str × V)} {gs : List (Str × D)} (h : Rpf K G al fs gs) {f : Str} {d : D} (e : gs.lookup f = some d) : ∃ v, fs.lookup f = some v ∧ Rp K G al v d := by
  induction gs generalizing fs with
  | nil => simp at e
  | cons x xs ih =>
    cases h with
    | cons r t =>
      rw [List.lookup_cons] at e ⊢
      split at e
      · cases e; exact ⟨_, rfl, r⟩
      · exact ih t e
theorem Rpf.none {fs : List (Str × V)} {gs : List (Str × D)} (h : Rpf K G al fs gs) {f : Str} (e : gs.lookup f = Option.none) : fs.lookup f = Option.none := by
  induction gs generalizing fs with
  | nil => cases h; rfl
  | cons x xs ih =>
    cases h with
    | cons r t =>
      rw [List.lookup_cons] at e ⊢
      split at e
      · cases e
      · exact ih t e
theorem Rpf.length {fs : List (Str × V)} {gs : List (Str × D)} (h : Rpf K G al fs gs) : fs.length = gs.length := by
  induction gs generalizing fs with
  | nil => cases h; rfl
  | cons d ds ih => cases h with | cons _ r => simp [ih r]
end
/-- a field put -/
def putD (f : Str) (v : D) : List (Str × D) → List (Str × D)
  | [] => [(f, v)]
  | (g, x) :: r => if g = f then (g, v) :: r else (g, x) :: putD f v r
theorem Rpf.put {K : PySem.W.Frag} {G : Hp} {al : List Addr} {fs : List (Str × V)} {gs : List (Str × D)} (h : Rpf K G al fs gs) (f : Str) {v : V} {d : D} (r : Rp K G al v d) : Rpf K G al (putF f v fs) (putD f d gs) := by
  induction gs generalizing fs with
  | nil => cases h; exact .cons r .nil
  | cons x xs ih =>
    cases h with
    | cons r' t =>
      unfold putF putD
      split
      · exact .cons r t
      · exact .cons r' (ih t)

/-! ### the slots -/
def RpS (K : PySem.W.Frag) (G : Hp) (al : List Addr) (σ : St) (ρ : En) : Prop := σ.length = ρ.length ∧ ∀ (i : Nat) (d : D), ρ[i]? = some (some d) → ∃ v, σ[i]? = some (some v) ∧ Rp K G al v d
section
variable {K : PySem.W.Frag} {G G' : Hp} {al al' : List Addr} {σ : St} {ρ : En}
theorem RpS.mono (s : Same G G') (p : Pre al al') (h : RpS K G al σ ρ) : RpS K G' al' σ ρ := ⟨h.1, fun i d e => by
  obtain ⟨v, e1, r⟩ := h.2 i d e
  exact ⟨v, e1, r.mono s p⟩⟩
theorem RpS.set (h : RpS K G al σ ρ) (i : Nat) {v : V} {d : D} (r : Rp K G al v d) : RpS K G al (σ.set i (some v)) (ρ.set i (some d)) := by
  refine ⟨by simp [h.1], fun j e hj => ?_⟩
  rw [List.getElem?_set] at hj ⊢
  by_cases hij : i = j
  · subst hij
    rw [if_pos rfl] at hj ⊢
    by_cases hl : i < ρ.length
    · rw [if_pos hl] at hj
      have hl2 : i < σ.length := by rw [h.1]; exact hl
      rw [if_pos hl2]
      cases hj
      exact ⟨v, rfl, r⟩
    · rw [if_neg hl] at hj; cases hj
  · rw [if_neg hij] at hj ⊢
    exact h.2 j e hj
/-- a slot's value forgotten -/
theorem RpS.forget (h : RpS K G al σ ρ) (i : Nat) (x : Option V) : RpS K G al (σ.set i x) (ρ.set i none) := by
  refine ⟨by simp [h.1], fun j e hj => ?_⟩
  rw [List.getElem?_set] at hj ⊢
  by_cases hij : i = j
  · subst hij
    rw [if_pos rfl] at hj
    by_cases hl : i < ρ.length
    · rw [if_pos hl] at hj; cases hj
    · rw [if_neg hl] at hj; cases hj
  · rw [if_neg hij] at hj ⊢
    exact h.2 j e hj
/-- less is known -/
theorem RpS.weak {ρ' : En} (h : RpS K G al σ ρ) (hl : ρ'.length = ρ.length) (hw : ∀ (i : Nat) (d : D), ρ'[i]? = some (some d) → ρ[i]? = some (some d)) : RpS K G al σ ρ' :=
  ⟨h.1.trans hl.symm, fun i d e => h.2 i d (hw i d e)⟩
end

/-! ### what may change -/
def OkO (K : PySem.W.Frag) (G H : Hp) (al : List Addr) (a : Addr) : MO → Prop
  | .dead => True
  | .lst ds => G a = none ∧ ∃ vs, H a = some (.lst vs) ∧ Rps K G al vs ds
  | .ins C gs => G a = none ∧ ∃ dx fs, H a = some (.ins C dx fs) ∧ Rpf K G al fs gs
  | .dK gs => G a = none ∧ ∃ kvs, H a = some (.dK kvs) ∧ Rpk K G al kvs gs
  | .dT gs => G a = none ∧ ∃ kvs : List (List Key × V), H a = some (.dT kvs) ∧ kvs.map (·.1) = gs.map (·.1) ∧ Rps K G al (kvs.map (·.2)) (gs.map (·.2))
  | .tab p q => G a = none ∧ a = p ∧ ∃ ps : Array Value, H a = some (.tbl ps) ∧ TriplesOk ps.toList ∧ ∀ (pos : Pos) (cv : Value), codeAmong pos ps.toList = some cv → ∃ c, cv = .ref c ∧ G c = some (LamX.CodeO c q)
structure As (K : PySem.W.Frag) (G H : Hp) (al : List Addr) (μ : Mu) : Prop where
  sub : Same G H
  nd : al.Nodup
  len : al.length = μ.length
  here : ∀ a ∈ al, H a ≠ none
  ok : ∀ (k : Nat) (a : Addr) (o : MO), al[k]? = some a → μ[k]? = some o → OkO K G H al a o
/-- a later state -/
structure Nx (G H : Hp) (al : List Addr) (G' H' : Hp) (al' : List Addr) : Prop where
  g : Same G G'
  p : Pre al al'
  keep : ∀ a o, H a = some o → a ∉ al → H' a = some o
  out : ∀ a, H a ≠ none → a ∉ al → G a = none → G' a = none
  new : ∀ a ∈ al', a ∈ al ∨ H a = none
section
variable {K : PySem.W.Frag} {G G1 G2 H H1 H2 : Hp} {al al1 al2 : List Addr} {μ : Mu}
theorem Nx.refl : Nx G H al G H al := ⟨Same.refl _, Pre.refl _, fun _ _ h _ => h, fun _ _ _ h => h, fun _ h => .inl h⟩
theorem Nx.trans (a : Nx G H al G1 H1 al1) (b : Nx G1 H1 al1 G2 H2 al2) : Nx G H al G2 H2 al2 := by
  have nin : ∀ x o, H x = some o → x ∉ al → x ∉ al1 := fun x o h n m => by
    rcases a.new x m with z | z
    · exact n z
    · rw [h] at z; cases z
  refine ⟨a.g.trans b.g, a.p.trans b.p, fun x o h n => b.keep x o (a.keep x o h n) (nin x o h n), fun x h n g => ?_, fun x m => ?_⟩
  · cases q : H x with
    | none => exact absurd q h
    | some o =>
      have h1 := a.keep x o q n
      exact b.out x (by rw [h1]; simp) (nin x o q n) (a.out x h n g)
  · rcases b.new x m with z | z
    · exact a.new x z
    · by_cases hx : x ∈ al
      · exact .inl hx
      · refine .inr ?_
        cases q : H x with
        | none => rfl
        | some o => rw [a.keep x o q hx] at z; cases z
theorem Rp.nx (n : Nx G H al G1 H1 al1) {v : V} {d : D} (h : Rp K G al v d) : Rp K G1 al1 v d := h.mono n.g n.p
theorem Rps.nx (n : Nx G H al G1 H1 al1) {v : List V} {d : List D} (h : Rps K G al v d) : Rps K G1 al1 v d := h.mono n.g n.p
theorem RpS.nx (n : Nx G H al G1 H1 al1) {σ : St} {ρ : En} (h : RpS K G al σ ρ) : RpS K G1 al1 σ ρ := h.mono n.g n.p
theorem OkO.mono {a : Addr} {o : MO} (s : Same G G1) (p : Pre al al1) (hg : o ≠ .dead → G a = none → G1 a = none) (hh : H1 a = H a) (h : OkO K G H al a o) : OkO K G1 H1 al1 a o := by
  cases o with
  | dead => trivial
  | lst ds => obtain ⟨g, vs, e, r⟩ := h; exact ⟨hg (by simp) g, vs, hh.trans e, r.mono s p⟩
  | ins C gs => obtain ⟨g, dx, vs, e, r⟩ := h; exact ⟨hg (by simp) g, dx, vs, hh.trans e, r.mono s p⟩
  | dK gs => obtain ⟨g, vs, e, r⟩ := h; exact ⟨hg (by simp) g, vs, hh.trans e, r.mono s p⟩
  | dT gs => obtain ⟨g, vs, e, k, r⟩ := h; exact ⟨hg (by simp) g, vs, hh.trans e, k, r.mono s p⟩
  | tab p q => obtain ⟨g, ep, ps, e, k, r⟩ := h; exact ⟨hg (by simp) g, ep, ps, hh.trans e, k, fun pos cv hc => let ⟨c, e1, e2⟩ := r pos cv hc; ⟨c, e1, s _ _ e2⟩⟩
/-- a new frozen thing -/
theorem As.frz {p : Addr} {o : HO} (A : As K G H al μ) (hp : H p = none) : As K (upd G p o) (upd H p o) al μ ∧ Nx G H al (upd G p o) (upd H p o) al := by
  have gp : G p = none := A.sub.free hp
  have s1 : Same G (upd G p o) := fun b u e => by rw [upd_ne (ne_of_none e gp)]; exact e
  have npal : p ∉ al := fun m => A.here p m hp
  refine ⟨⟨fun b u e => ?_, A.nd, A.len, fun a m => ?_, fun k a ob e1 e2 => ?_⟩, ⟨s1, Pre.refl _, fun a u h _ => ?_, fun a h n g => ?_, fun a m => .inl m⟩⟩
  · by_cases hb : b = p
    · subst hb; rw [upd_same] at e ⊢; exact e
    · rw [upd_ne hb] at e ⊢; exact A.sub _ _ e
  · have : a ≠ p := fun z => npal (z ▸ m)
    rw [upd_ne this]; exact A.here a m
  · have : a ≠ p := fun z => npal (z ▸ List.mem_of_getElem? e1)
    exact OkO.mono s1 (Pre.refl _) (fun _ g => by rw [upd_ne this]; exact g) (by rw [upd_ne this]) (A.ok k a ob e1 e2)
  · rw [upd_ne (ne_of_none h hp)]; exact h
  · have z : a ≠ p := fun z => h (by rw [z]; exact hp)
    rw [upd_ne z]; exact g
/-- a new thing that may change -/
theorem As.own {p : Addr} {o : HO} {m : MO} (A : As K G H al μ) (hp : H p = none) (ok : OkO K G (upd H p o) (al ++ [p]) p m) : As K G (upd H p o) (al ++ [p]) (μ ++ [m]) ∧ Nx G H al G (upd H p o) (al ++ [p]) := by
  have npal : p ∉ al := fun m => A.here p m hp
  have gp : G p = none := A.sub.free hp
  refine ⟨⟨fun b u e => ?_, ?_, by simp [A.len], fun a m => ?_, fun k a ob e1 e2 => ?_⟩, ⟨Same.refl _, ⟨[p], rfl⟩, fun a u h _ => ?_, fun a h n g => g, fun a m => ?_⟩⟩
  · rw [upd_ne (ne_of_none e gp)]; exact A.sub _ _ e
  · rw [List.nodup_append]
    exact ⟨A.nd, by simp, fun a ha b hb => by simp at hb; subst hb; exact fun z => npal (z ▸ ha)⟩
  · rcases List.mem_append.mp m with m | m
    · have : a ≠ p := fun z => npal (z ▸ m)
      rw [upd_ne this]; exact A.here a m
    · simp at m; subst m; rw [upd_same]; simp
  · by_cases hk : k < al.length
    · rw [List.getElem?_append_left hk] at e1
      rw [List.getElem?_append_left (by rw [← A.len]; exact hk)] at e2
      have : a ≠ p := fun z => npal (z ▸ List.mem_of_getElem? e1)
      exact OkO.mono (Same.refl _) ⟨[p], rfl⟩ (fun _ g => g) (by rw [upd_ne this]) (A.ok k a ob e1 e2)
    · have hk1 := (List.getElem?_eq_some_iff.mp e1).1
      have hk' : k = al.length := by simp at hk1; omega
      subst hk'
      simp at e1
      rw [A.len] at e2
      simp at e2
      subst e1 e2
      exact ok
  · rw [upd_ne (ne_of_none h hp)]; exact h
  · rcases List.mem_append.mp m with m | m
    · exact .inl m
    · simp at m; subst m; exact .inr hp
/-- a thing that may change is changed -/
theorem As.put {k : Nat} {a : Addr} {o : HO} {m m' : MO} (A : As K G H al μ) (hk : al[k]? = some a) (hm : μ[k]? = some m) (hd : m ≠ .dead) (ok : OkO K G (upd H a o) al a m') : As K G (upd H a o) al (μ.set k m') ∧ Nx G H al G (upd H a o) al := by
  have ga : G a = none := by
    have := A.ok k a m hk hm
    cases m with
    | dead => exact absurd rfl hd
    | lst _ => exact this.1
    | ins _ _ => exact this.1
    | dK _ => exact this.1
    | dT _ => exact this.1
    | tab _ _ => exact this.1
  have ma : a ∈ al := List.mem_of_getElem? hk
  refine ⟨⟨fun b u e => ?_, A.nd, by simp [A.len], fun b m => ?_, fun j b ob e1 e2 => ?_⟩, ⟨Same.refl _, Pre.refl _, fun b u h n => ?_, fun _ _ _ g => g, fun _ m => .inl m⟩⟩
  · rw [upd_ne (ne_of_none e ga)]; exact A.sub _ _ e
  · by_cases hb : b = a
    · subst hb; rw [upd_same]; simp
    · rw [upd_ne hb]; exact A.here b m
  · rw [List.getElem?_set] at e2
    by_cases hj : k = j
    · subst hj
      rw [if_pos rfl] at e2
      split at e2
      · cases e2; rw [hk] at e1; cases e1; exact ok
      · cases e2
    · rw [if_neg hj] at e2
      have hne : b ≠ a := fun z => by
        subst z
        exact hj (nd_ix A.nd hk e1)
      exact OkO.mono (Same.refl _) (Pre.refl _) (fun _ g => g) (by rw [upd_ne hne]) (A.ok j b ob e1 e2)
  · have z : b ≠ a := fun z => n (by rw [z]; exact ma)
    rw [upd_ne z]; exact h
/-- .. it is frozen -/
theorem As.freeze {k : Nat} {a : Addr} {o : HO} (A : As K G H al μ) (hk : al[k]? = some a) (ha : H a = some o) (ga : G a = none) : As K (upd G a o) H al (μ.set k .dead) ∧ Nx G H al (upd G a o) H al := by
  have ma : a ∈ al := List.mem_of_getElem? hk
  have s1 : Same G (upd G a o) := fun b u e => by rw [upd_ne (ne_of_none e ga)]; exact e
  refine ⟨⟨fun b u e => ?_, A.nd, by simp [A.len], A.here, fun j b ob e1 e2 => ?_⟩, ⟨s1, Pre.refl _, fun b u h n => h, fun b h n g => ?_, fun _ m => .inl m⟩⟩
  · by_cases hb : b = a
    · subst hb; rw [upd_same] at e; rw [← e]; exact ha
    · rw [upd_ne hb] at e; exact A.sub _ _ e
  · rw [List.getElem?_set] at e2
    by_cases hj : k = j
    · subst hj
      rw [if_pos rfl] at e2
      split at e2
      · cases e2; trivial
      · cases e2
    · rw [if_neg hj] at e2
      have hne : b ≠ a := fun z => by
        subst z
        exact hj (nd_ix A.nd hk e1)
      exact OkO.mono s1 (Pre.refl _) (fun _ g => by rw [upd_ne hne]; exact g) rfl (A.ok j b ob e1 e2)
  · have z : b ≠ a := fun z => n (by rw [z]; exact ma)
    rw [upd_ne z]; exact g
theorem As.get {k : Nat} {m : MO} (A : As K G H al μ) (hm : μ[k]? = some m) : ∃ a, al[k]? = some a ∧ OkO K G H al a m := by
  have hk : k < al.length := by rw [A.len]; exact (List.getElem?_eq_some_iff.mp hm).1
  exact ⟨al[k], List.getElem?_eq_getElem hk, A.ok k _ m (List.getElem?_eq_getElem hk) hm⟩
end
end Dl

set_option Elab.async false
set_option linter.all false
set_option maxRecDepth 100000
namespace Dl
open PySem L2

/-! ### judgements over data -/
structure Bs where
  G : Hp
  H : Hp
  al : List Addr
abbrev Bs.le (B : Bs) (G H : Hp) (al : List Addr) : Prop := Nx B.G B.H B.al G H al
section
variable (K : PySem.W.Frag)
def KV (G H : Hp) (al : List Addr) (P : D → Mu → Prop) (Q : VK) : Prop := ∀ v d μ' G' H' al', Nx G H al G' H' al' → As K G' H' al' μ' → Rp K G' al' v d → P d μ' → Q v H'
def KT (G H : Hp) (al : List Addr) (P : Bool → Mu → Prop) (Q : Bool → Hp → Prop) : Prop := ∀ b μ' G' H' al', Nx G H al G' H' al' → As K G' H' al' μ' → P b μ' → Q b H'
def KA (G H : Hp) (al : List Addr) (P : List D → Mu → Prop) (Q : List V → Hp → Prop) : Prop := ∀ vs ds μ' G' H' al', Nx G H al G' H' al' → As K G' H' al' μ' → Rps K G' al' vs ds → P ds μ' → Q vs H'
def KS (G H : Hp) (al : List Addr) (P : En → Mu → Prop) (Q : St → Hp → Prop) : Prop := ∀ σ' ρ' μ' G' H' al', Nx G H al G' H' al' → RpS K G' al' σ' ρ' → As K G' H' al' μ' → P ρ' μ' → Q σ' H'
def DE (B : Bs) (te : TE) (ρ : En) (μ : Mu) (P : D → Mu → Prop) : Prop := ∀ σ G H al, B.le G H al → RpS K G al σ ρ → As K G H al μ → ∀ Q, KV K G H al P Q → te σ H Q
def DT (B : Bs) (tt : TT) (ρ : En) (μ : Mu) (P : Bool → Mu → Prop) : Prop := ∀ σ G H al, B.le G H al → RpS K G al σ ρ → As K G H al μ → ∀ Q, KT K G H al P Q → tt σ H Q
def DA (B : Bs) (ta : TA) (ρ : En) (μ : Mu) (P : List D → Mu → Prop) : Prop := ∀ σ G H al, B.le G H al → RpS K G al σ ρ → As K G H al μ → ∀ Q, KA K G H al P Q → ta σ H Q
/-- a part of a slice -/
def DO (B : Bs) (to : TO) (ρ : En) (μ : Mu) (P : Option Int → Mu → Prop) : Prop := ∀ σ G H al, B.le G H al → RpS K G al σ ρ → As K G H al μ → ∀ Q : Option Int → Hp → Prop, (∀ o μ' G' H' al', Nx G H al G' H' al' → As K G' H' al' μ' → P o μ' → Q o H') → to σ H Q
def DG (B : Bs) (g : TG) (d : D) (ρ : En) (μ : Mu) (P : En → Mu → Prop) : Prop := ∀ σ G H al v, B.le G H al → RpS K G al σ ρ → As K G H al μ → Rp K G al v d → ∀ Q, KS K G H al P Q → g v σ H Q
def DGs (B : Bs) (g : TGs) (ds : List D) (ρ : En) (μ : Mu) (P : En → Mu → Prop) : Prop := ∀ σ G H al vs, B.le G H al → RpS K G al σ ρ → As K G H al μ → Rps K G al vs ds → ∀ Q, KS K G H al P Q → g vs σ H Q
/-- operations on values -/
def RO (r : R2) (x y : D) (μ : Mu) (P : D → Mu → Prop) : Prop := ∀ G H al v w, As K G H al μ → Rp K G al v x → Rp K G al w y → ∀ Q, KV K G H al P Q → r v w H Q
def RU (r : V → Hp → VK → Prop) (x : D) (μ : Mu) (P : D → Mu → Prop) : Prop := ∀ G H al v, As K G H al μ → Rp K G al v x → ∀ Q, KV K G H al P Q → r v H Q
def RC (r : List V → Hp → VK → Prop) (xs : List D) (μ : Mu) (P : D → Mu → Prop) : Prop := ∀ G H al vs, As K G H al μ → Rps K G al vs xs → ∀ Q, KV K G H al P Q → r vs H Q
def RM (r : V → List V → Hp → VK → Prop) (x : D) (xs : List D) (μ : Mu) (P : D → Mu → Prop) : Prop := ∀ G H al v vs, As K G H al μ → Rp K G al v x → Rps K G al vs xs → ∀ Q, KV K G H al P Q → r v vs H Q
def RS (r : V → Option Int → Option Int → Hp → VK → Prop) (x : D) (lo hi : Option Int) (μ : Mu) (P : D → Mu → Prop) : Prop := ∀ G H al v, As K G H al μ → Rp K G al v x → ∀ Q, KV K G H al P Q → r v lo hi H Q
def RSet (r : V → V → V → Hp → (Hp → Prop) → Prop) (o i d : D) (μ : Mu) (P : Mu → Prop) : Prop := ∀ G H al v w u, As K G H al μ → Rp K G al v o → Rp K G al w i → Rp K G al u d → ∀ Q : Hp → Prop, (∀ μ' G' H' al', Nx G H al G' H' al' → As K G' H' al' μ' → P μ' → Q H') → r v w u H Q
end
structure DEnds where
  nx : En → Mu → Prop
  rt : D → Mu → Prop
  bk : En → Mu → Prop := fun _ _ => False
  ct : En → Mu → Prop := fun _ _ => False
structure Ag (K : PySem.W.Frag) (G H : Hp) (al : List Addr) (P : DEnds) (De : Ends) : Prop where
  nx : KS K G H al P.nx De.nx
  rt : KV K G H al P.rt De.rt
  bk : KS K G H al P.bk De.bk
  ct : KS K G H al P.ct De.ct
def DS (K : PySem.W.Frag) (B : Bs) (t : TS) (ρ : En) (μ : Mu) (P : DEnds) : Prop := ∀ σ G H al, B.le G H al → RpS K G al σ ρ → As K G H al μ → ∀ De, Ag K G H al P De → t De σ H

section
variable {K : PySem.W.Frag} {B : Bs} {G H G1 H1 : Hp} {al al1 : List Addr}
theorem KV.nx {P : D → Mu → Prop} {Q : VK} (n : Nx G H al G1 H1 al1) (h : KV K G H al P Q) : KV K G1 H1 al1 P Q := fun v d μ' G' H' al' n' A r p => h v d μ' G' H' al' (n.trans n') A r p
theorem KT.nx {P : Bool → Mu → Prop} {Q : Bool → Hp → Prop} (n : Nx G H al G1 H1 al1) (h : KT K G H al P Q) : KT K G1 H1 al1 P Q := fun v μ' G' H' al' n' A p => h v μ' G' H' al' (n.trans n') A p
theorem KA.nx {P : List D → Mu → Prop} {Q : List V → Hp → Prop} (n : Nx G H al G1 H1 al1) (h : KA K G H al P Q) : KA K G1 H1 al1 P Q := fun v d μ' G' H' al' n' A r p => h v d μ' G' H' al' (n.trans n') A r p
theorem KS.nx {P : En → Mu → Prop} {Q : St → Hp → Prop} (n : Nx G H al G1 H1 al1) (h : KS K G H al P Q) : KS K G1 H1 al1 P Q := fun v d μ' G' H' al' n' A r p => h v d μ' G' H' al' (n.trans n') A r p
theorem Ag.nx' {P : DEnds} {De : Ends} (n : Nx G H al G1 H1 al1) (h : Ag K G H al P De) : Ag K G1 H1 al1 P De := ⟨h.nx.nx n, h.rt.nx n, h.bk.nx n, h.ct.nx n⟩
theorem KV.now {P : D → Mu → Prop} {Q : VK} {v : V} {d : D} {μ : Mu} (h : KV K G H al P Q) (A : As K G H al μ) (r : Rp K G al v d) (p : P d μ) : Q v H := h v d μ G H al .refl A r p
variable {ρ : En} {μ : Mu} {P : D → Mu → Prop} {ta tb te tc : TE}

/-! ### expressions -/
theorem DE.imp {P' : D → Mu → Prop} (h : DE K B te ρ μ P') (i : ∀ d μ', P' d μ' → P d μ') : DE K B te ρ μ P := fun σ G H al hB hσ hA Q hQ => h σ G H al hB hσ hA Q fun v d μ' G' H' al' n A r p => hQ v d μ' G' H' al' n A r (i d μ' p)
theorem de_var {i : Nat} {d : D} (e : ρ[i]? = some (some d)) (h : P d μ) : DE K B (tVar i) ρ μ P := fun σ G H al hB hσ hA Q hQ => by
  obtain ⟨v, e1, r⟩ := hσ.2 i d e
  exact ⟨v, e1, hQ.now hA r h⟩
theorem de_int {i : Int} (h : P (.int i) μ) : DE K B (tC (.int i)) ρ μ P := fun σ G H al hB hσ hA Q hQ => hQ.now hA (.int i) h
theorem de_bl {i : Bool} (h : P (.bl i) μ) : DE K B (tC (.bl i)) ρ μ P := fun σ G H al hB hσ hA Q hQ => hQ.now hA (.bl i) h
theorem de_non (h : P .non μ) : DE K B (tC .non) ρ μ P := fun σ G H al hB hσ hA Q hQ => hQ.now hA .non h
theorem de_str {x : Str} (h : P (.str x) μ) : DE K B (tC (.str x)) ρ μ P := fun σ G H al hB hσ hA Q hQ => hQ.now hA (.str x) h
theorem de_ty {x : String} (h : P (.ty x) μ) : DE K B (tC (.ty x)) ρ μ P := fun σ G H al hB hσ hA Q hQ => hQ.now hA (.ty x) h
theorem de_loc {x : Addr} (h : P (.loc x) μ) : DE K B (tC (.ref x)) ρ μ P := fun σ G H al hB hσ hA Q hQ => hQ.now hA (.loc x) h
theorem de_op {r : R2} (h : DE K B ta ρ μ fun x μ1 => DE K B tb ρ μ1 fun y μ2 => RO K r x y μ2 P) : DE K B (tOp r ta tb) ρ μ P := fun σ G H al hB hσ hA Q hQ =>
  h σ G H al hB hσ hA _ fun v d μ1 G1 H1 al1 n1 A1 r1 p1 => p1 σ G1 H1 al1 (hB.trans n1) (hσ.nx n1) A1 _ fun w e μ2 G2 H2 al2 n2 A2 r2 p2 => p2 G2 H2 al2 v w A2 (r1.nx n2) r2 Q (hQ.nx (n1.trans n2))
theorem de_un {r : V → Hp → VK → Prop} (h : DE K B ta ρ μ fun x μ1 => RU K r x μ1 P) : DE K B (tUn r ta) ρ μ P := fun σ G H al hB hσ hA Q hQ =>
  h σ G H al hB hσ hA _ fun v d μ1 G1 H1 al1 n1 A1 r1 p1 => p1 G1 H1 al1 v A1 r1 Q (hQ.nx n1)
theorem de_chain {r r' : R2} (h : DE K B ta ρ μ fun x μ1 => DE K B tb ρ μ1 fun y μ2 => RO K r x y μ2 fun z μ3 => ∃ b, z = .bl b ∧ (b = true → DE K B tc ρ μ3 fun w μ4 => RO K r' y w μ4 P) ∧ (b = false → P (.bl false) μ3)) :
    DE K B (tChain r r' ta tb tc) ρ μ P := fun σ G H al hB hσ hA Q hQ =>
  h σ G H al hB hσ hA _ fun v d μ1 G1 H1 al1 n1 A1 r1 p1 => p1 σ G1 H1 al1 (hB.trans n1) (hσ.nx n1) A1 _ fun w e μ2 G2 H2 al2 n2 A2 r2 p2 =>
    p2 G2 H2 al2 v w A2 (r1.nx n2) r2 _ fun z dz μ3 G3 H3 al3 n3 A3 r3 p3 => by
      obtain ⟨b, rfl, pt, pf⟩ := p3
      cases r3
      refine ⟨b, rfl, ?_⟩
      cases b with
      | true =>
        rw [if_pos rfl]
        exact pt rfl σ G3 H3 al3 ((hB.trans n1).trans (n2.trans n3)) (((hσ.nx n1).nx n2).nx n3) A3 _ fun u du μ4 G4 H4 al4 n4 A4 r4 p4 => p4 G4 H4 al4 w u A4 ((r2.nx n3).nx n4) r4 Q (hQ.nx (((n1.trans n2).trans n3).trans n4))
      | false =>
        rw [if_neg (by simp)]
        exact hQ (.bl false) _ μ3 G3 H3 al3 ((n1.trans n2).trans n3) A3 (.bl _) (pf rfl)
theorem de_andV (h : DE K B ta ρ μ fun x μ1 => ∃ b, x = .bl b ∧ (b = true → DE K B tb ρ μ1 P) ∧ (b = false → P (.bl false) μ1)) : DE K B (tAndV ta tb) ρ μ P := fun σ G H al hB hσ hA Q hQ =>
  h σ G H al hB hσ hA _ fun v d μ1 G1 H1 al1 n1 A1 r1 p1 => by
    obtain ⟨b, rfl, pt, pf⟩ := p1
    cases r1
    refine ⟨b, rfl, ?_⟩
    cases b with
    | true => rw [if_pos rfl]; exact pt rfl σ G1 H1 al1 (hB.trans n1) (hσ.nx n1) A1 Q (hQ.nx n1)
    | false => rw [if_neg (by simp)]; exact hQ (.bl false) _ μ1 G1 H1 al1 n1 A1 (.bl _) (pf rfl)
theorem de_orV (h : DE K B ta ρ μ fun x μ1 => ∃ b, x = .bl b ∧ (b = false → DE K B tb ρ μ1 P) ∧ (b = true → P (.bl true) μ1)) : DE K B (tOrV ta tb) ρ μ P := fun σ G H al hB hσ hA Q hQ =>
  h σ G H al hB hσ hA _ fun v d μ1 G1 H1 al1 n1 A1 r1 p1 => by
    obtain ⟨b, rfl, pt, pf⟩ := p1
    cases r1
    refine ⟨b, rfl, ?_⟩
    cases b with
    | false => rw [if_neg (by simp)]; exact pt rfl σ G1 H1 al1 (hB.trans n1) (hσ.nx n1) A1 Q (hQ.nx n1)
    | true => rw [if_pos rfl]; exact hQ (.bl true) _ μ1 G1 H1 al1 n1 A1 (.bl _) (pf rfl)
theorem de_notV (h : DE K B ta ρ μ fun x μ1 => ∃ b, x = .bl b ∧ P (.bl (!b)) μ1) : DE K B (tNotV ta) ρ μ P := fun σ G H al hB hσ hA Q hQ =>
  h σ G H al hB hσ hA _ fun v d μ1 G1 H1 al1 n1 A1 r1 p1 => by
    obtain ⟨b, rfl, pt⟩ := p1
    cases r1
    exact ⟨b, rfl, hQ _ _ μ1 G1 H1 al1 n1 A1 (.bl _) pt⟩
theorem de_if {t : TT} (h : DT K B t ρ μ fun b μ1 => (b = true → DE K B ta ρ μ1 P) ∧ (b = false → DE K B tb ρ μ1 P)) : DE K B (tIf t ta tb) ρ μ P := fun σ G H al hB hσ hA Q hQ =>
  h σ G H al hB hσ hA _ fun b μ1 G1 H1 al1 n1 A1 p1 => by
    cases b with
    | true => rw [if_pos rfl]; exact p1.1 rfl σ G1 H1 al1 (hB.trans n1) (hσ.nx n1) A1 Q (hQ.nx n1)
    | false => rw [if_neg (by simp)]; exact p1.2 rfl σ G1 H1 al1 (hB.trans n1) (hσ.nx n1) A1 Q (hQ.nx n1)
theorem de_isN (h : DE K B ta ρ μ fun x μ1 => ∃ b, (b = true ↔ x = .non) ∧ P (.bl b) μ1) : DE K B (tIsN ta) ρ μ P := fun σ G H al hB hσ hA Q hQ =>
  h σ G H al hB hσ hA _ fun v d μ1 G1 H1 al1 n1 A1 r1 p1 => by
    obtain ⟨b, hb, p⟩ := p1
    have e : decide (v = .non) = b := by
      cases d with
      | non => cases r1; simp at hb; simp [hb]
      | _ => cases r1 <;> simp at hb <;> simp [hb]
    rw [e]
    exact hQ _ _ μ1 G1 H1 al1 n1 A1 (.bl _) p
theorem de_notN (h : DE K B ta ρ μ fun x μ1 => ∃ b, (b = true ↔ x = .non) ∧ P (.bl (!b)) μ1) : DE K B (tNotN ta) ρ μ P := fun σ G H al hB hσ hA Q hQ =>
  h σ G H al hB hσ hA _ fun v d μ1 G1 H1 al1 n1 A1 r1 p1 => by
    obtain ⟨b, hb, p⟩ := p1
    have e : decide (v = .non) = b := by
      cases d with
      | non => cases r1; simp at hb; simp [hb]
      | _ => cases r1 <;> simp at hb <;> simp [hb]
    rw [e]
    exact hQ _ _ μ1 G1 H1 al1 n1 A1 (.bl _) p
/-! tests -/
variable {PT' : Bool → Mu → Prop} {t u : TT}
theorem dt_test (h : DE K B te ρ μ fun x μ1 => ∃ b, x = .bl b ∧ PT' b μ1) : DT K B (tTest te) ρ μ PT' := fun σ G H al hB hσ hA Q hQ =>
  h σ G H al hB hσ hA _ fun v d μ1 G1 H1 al1 n1 A1 r1 p1 => by
    obtain ⟨b, rfl, p⟩ := p1
    cases r1
    exact ⟨b, rfl, hQ b μ1 G1 H1 al1 n1 A1 p⟩
theorem dt_B (h : DE K B te ρ μ fun x μ1 => ∃ b, x = .bl b ∧ PT' b μ1) : DT K B (tB te) ρ μ PT' := dt_test h
theorem dt_and (h : DT K B t ρ μ fun b μ1 => (b = true → DT K B u ρ μ1 PT') ∧ (b = false → PT' false μ1)) : DT K B (tAnd t u) ρ μ PT' := fun σ G H al hB hσ hA Q hQ =>
  h σ G H al hB hσ hA _ fun b μ1 G1 H1 al1 n1 A1 p1 => by
    cases b with
    | true => rw [if_pos rfl]; exact p1.1 rfl σ G1 H1 al1 (hB.trans n1) (hσ.nx n1) A1 Q (hQ.nx n1)
    | false => rw [if_neg (by simp)]; exact hQ false μ1 G1 H1 al1 n1 A1 (p1.2 rfl)
theorem dt_or (h : DT K B t ρ μ fun b μ1 => (b = false → DT K B u ρ μ1 PT') ∧ (b = true → PT' true μ1)) : DT K B (tOr t u) ρ μ PT' := fun σ G H al hB hσ hA Q hQ =>
  h σ G H al hB hσ hA _ fun b μ1 G1 H1 al1 n1 A1 p1 => by
    cases b with
    | false => rw [if_neg (by simp)]; exact p1.1 rfl σ G1 H1 al1 (hB.trans n1) (hσ.nx n1) A1 Q (hQ.nx n1)
    | true => rw [if_pos rfl]; exact hQ true μ1 G1 H1 al1 n1 A1 (p1.2 rfl)
theorem dt_not (h : DT K B t ρ μ fun b μ1 => PT' (!b) μ1) : DT K B (tNot t) ρ μ PT' := fun σ G H al hB hσ hA Q hQ =>
  h σ G H al hB hσ hA _ fun b μ1 G1 H1 al1 n1 A1 p1 => hQ (!b) μ1 G1 H1 al1 n1 A1 p1
/-! arguments -/
variable {PA' : List D → Mu → Prop} {tr : TA}
theorem da_nil (h : PA' [] μ) : DA K B tNil ρ μ PA' := fun σ G H al hB hσ hA Q hQ => hQ [] [] μ G H al .refl hA .nil h
theorem da_cons (h : DE K B ta ρ μ fun x μ1 => DA K B tr ρ μ1 fun xs μ2 => PA' (x :: xs) μ2) : DA K B (tCons ta tr) ρ μ PA' := fun σ G H al hB hσ hA Q hQ =>
  h σ G H al hB hσ hA _ fun v d μ1 G1 H1 al1 n1 A1 r1 p1 => p1 σ G1 H1 al1 (hB.trans n1) (hσ.nx n1) A1 _ fun vs ds μ2 G2 H2 al2 n2 A2 r2 p2 => hQ (v :: vs) (d :: ds) μ2 G2 H2 al2 (n1.trans n2) A2 (.cons (r1.nx n2) r2) p2
theorem de_tup {ts : TA} (h : DA K B ts ρ μ fun xs μ1 => xs.length ≤ 100000 ∧ P (.tup xs) μ1) : DE K B (tTup ts) ρ μ P := fun σ G H al hB hσ hA Q hQ =>
  h σ G H al hB hσ hA _ fun vs ds μ1 G1 H1 al1 n1 A1 r1 p1 => by
    refine ⟨by rw [r1.length]; exact Nat.le_trans p1.1 (by decide), fun p hp => ?_⟩
    obtain ⟨A2, n2⟩ := A1.frz (o := .tup vs) hp
    exact hQ _ _ μ1 _ _ al1 (n1.trans n2) A2 (.tup upd_same (r1.nx n2)) p1.2
/-- a list, frozen at once -/
theorem de_lst {ts : TA} (h : DA K B ts ρ μ fun xs μ1 => xs.length ≤ 100000 ∧ P (.lst xs) μ1) : DE K B (tLst ts) ρ μ P := fun σ G H al hB hσ hA Q hQ =>
  h σ G H al hB hσ hA _ fun vs ds μ1 G1 H1 al1 n1 A1 r1 p1 => by
    refine ⟨by rw [r1.length]; exact Nat.le_trans p1.1 (by decide), fun p hp => ?_⟩
    obtain ⟨A2, n2⟩ := A1.frz (o := .lst vs) hp
    exact hQ _ _ μ1 _ _ al1 (n1.trans n2) A2 (.lst upd_same (r1.nx n2)) p1.2
/-- a list that will change -/
theorem de_lstO {ts : TA} (h : DA K B ts ρ μ fun xs μ1 => xs.length ≤ 100000 ∧ P (.own μ1.length) (μ1 ++ [.lst xs])) : DE K B (tLst ts) ρ μ P := fun σ G H al hB hσ hA Q hQ =>
  h σ G H al hB hσ hA _ fun vs ds μ1 G1 H1 al1 n1 A1 r1 p1 => by
    refine ⟨by rw [r1.length]; exact Nat.le_trans p1.1 (by decide), fun p hp => ?_⟩
    obtain ⟨A2, n2⟩ := A1.own (o := .lst vs) (m := .lst ds) hp ⟨A1.sub.free hp, vs, upd_same, r1.mono (Same.refl _) ⟨[p], rfl⟩⟩
    exact hQ _ _ _ _ _ _ (n1.trans n2) A2 (.own (by rw [← A1.len]; simp)) p1.2
/-- .. is frozen as it is handed on -/
theorem de_frz {te : TE} (h : DE K B te ρ μ fun x μ1 => ∃ k ds, x = .own k ∧ μ1[k]? = some (.lst ds) ∧ P (.lst ds) (μ1.set k .dead)) : DE K B te ρ μ P := fun σ G H al hB hσ hA Q hQ =>
  h σ G H al hB hσ hA _ fun v d μ1 G1 H1 al1 n1 A1 r1 p1 => by
    obtain ⟨k, ds, rfl, hk, p⟩ := p1
    obtain ⟨a, ha, ok⟩ := A1.get hk
    cases r1 with
    | own e =>
      rw [ha] at e
      cases e
      obtain ⟨ga, vs, hv, rv⟩ := ok
      obtain ⟨A2, n2⟩ := A1.freeze ha hv ga
      exact hQ _ _ _ _ _ _ (n1.trans n2) A2 (.lst upd_same (rv.nx n2)) p
theorem de_cb {r : List V → Hp → VK → Prop} {ts : TA} (h : DA K B ts ρ μ fun xs μ1 => RC K r xs μ1 P) : DE K B (tCB r ts) ρ μ P := fun σ G H al hB hσ hA Q hQ =>
  h σ G H al hB hσ hA _ fun vs ds μ1 G1 H1 al1 n1 A1 r1 p1 => p1 G1 H1 al1 vs A1 r1 Q (hQ.nx n1)
theorem do_no {PO : Option Int → Mu → Prop} (h : PO none μ) : DO K B tNoPart ρ μ PO := fun σ G H al hB hσ hA Q hQ => hQ none μ G H al .refl hA h
theorem do_part {PO : Option Int → Mu → Prop} (h : DE K B te ρ μ fun x μ1 => ∃ i, x = .int i ∧ PO (some i) μ1) : DO K B (tPart te) ρ μ PO := fun σ G H al hB hσ hA Q hQ =>
  h σ G H al hB hσ hA _ fun v d μ1 G1 H1 al1 n1 A1 r1 p1 => by
    obtain ⟨i, rfl, p⟩ := p1
    cases r1
    exact ⟨i, rfl, hQ _ μ1 G1 H1 al1 n1 A1 p⟩
theorem de_sl {r : V → Option Int → Option Int → Hp → VK → Prop} {tl th : TO} (h : DE K B te ρ μ fun x μ1 => DO K B tl ρ μ1 fun lo μ2 => DO K B th ρ μ2 fun hi μ3 => RS K r x lo hi μ3 P) : DE K B (tSl r te tl th) ρ μ P := fun σ G H al hB hσ hA Q hQ =>
  h σ G H al hB hσ hA _ fun v d μ1 G1 H1 al1 n1 A1 r1 p1 => p1 σ G1 H1 al1 (hB.trans n1) (hσ.nx n1) A1 _ fun lo μ2 G2 H2 al2 n2 A2 p2 =>
    p2 σ G2 H2 al2 ((hB.trans n1).trans n2) ((hσ.nx n1).nx n2) A2 _ fun hi μ3 G3 H3 al3 n3 A3 p3 => p3 G3 H3 al3 v A3 ((r1.nx n2).nx n3) Q (hQ.nx ((n1.trans n2).trans n3))
/-! fields, methods of built-in types -/
theorem de_fld {f : Str} (h : DE K B te ρ μ fun x μ1 => ∃ C gs d, (x = .obj C gs ∨ ∃ k, x = .own k ∧ μ1[k]? = some (.ins C gs)) ∧ Cls K C ∧ NoAttr K C f ∧ gs.lookup f = some d ∧ P d μ1) : DE K B (tFld K te f) ρ μ P := fun σ G H al hB hσ hA Q hQ =>
  h σ G H al hB hσ hA _ fun v d μ1 G1 H1 al1 n1 A1 r1 p1 => by
    obtain ⟨C, gs, z, hx, cl, na, lk, p⟩ := p1
    rcases hx with rfl | ⟨k, rfl, hk⟩
    · cases r1 with
      | obj e rf =>
        obtain ⟨w, lw, rw'⟩ := rf.look lk
        exact ⟨_, C, _, _, w, rfl, A1.sub _ _ e, cl, na, lw, hQ _ _ μ1 _ _ _ n1 A1 rw' p⟩
    · obtain ⟨a, ha, ok⟩ := A1.get hk
      cases r1 with
      | own e =>
        rw [ha] at e
        cases e
        obtain ⟨ga, dx, fs, hv, rf⟩ := ok
        obtain ⟨w, lw, rw'⟩ := rf.look lk
        exact ⟨_, C, _, _, w, rfl, hv, cl, na, lw, hQ _ _ μ1 _ _ _ n1 A1 rw' p⟩
theorem de_bm {T : String} {r : V → List V → Hp → VK → Prop} {ts : TA} (h : DE K B te ρ μ fun x μ1 => (∀ G H al v, As K G H al μ1 → Rp K G al v x → tyV K T v H) ∧ DA K B ts ρ μ1 fun xs μ2 => RM K r x xs μ2 P) : DE K B (tBM K T r te ts) ρ μ P := fun σ G H al hB hσ hA Q hQ =>
  h σ G H al hB hσ hA _ fun v d μ1 G1 H1 al1 n1 A1 r1 p1 => ⟨p1.1 G1 H1 al1 v A1 r1, p1.2 σ G1 H1 al1 (hB.trans n1) (hσ.nx n1) A1 _ fun vs ds μ2 G2 H2 al2 n2 A2 r2 p2 => p2 G2 H2 al2 v vs A2 (r1.nx n2) r2 Q (hQ.nx (n1.trans n2))⟩
theorem de_bm0 {T : String} {r : V → List V → Hp → VK → Prop} (h : DE K B te ρ μ fun x μ1 => (∀ G H al v, As K G H al μ1 → Rp K G al v x → tyV K T v H) ∧ RM K r x [] μ1 P) : DE K B (tBM0 K T r te) ρ μ P := fun σ G H al hB hσ hA Q hQ =>
  h σ G H al hB hσ hA _ fun v d μ1 G1 H1 al1 n1 A1 r1 p1 => ⟨p1.1 G1 H1 al1 v A1 r1, p1.2 G1 H1 al1 v [] A1 r1 .nil Q (hQ.nx n1)⟩
end

theorem set_id {α : Type} : ∀ {l : List α} {i : Nat} {x : α}, l[i]? = some x → l.set i x = l
  | [], _, _, h => by simp at h
  | a :: r, 0, x, h => by simp at h; subst h; rfl
  | a :: r, i + 1, x, h => by simp at h; simp [set_id h]
/-! ### targets, statements -/
section
variable {K : PySem.W.Frag} {B : Bs} {ρ : En} {μ : Mu} {P : DEnds} {te ta tb : TE} {t u : TS} {PG' : En → Mu → Prop}
theorem dg_name {i : Nat} {d : D} (h : PG' (ρ.set i (some d)) μ) : DG K B (gName i) d ρ μ PG' := fun σ G H al v hB hσ hA r Q hQ => hQ _ _ μ G H al .refl (hσ.set i r) hA h
theorem dgs_nil (h : PG' ρ μ) : DGs K B gNil [] ρ μ PG' := fun σ G H al vs hB hσ hA r Q hQ => by
  cases r
  exact ⟨rfl, hQ _ _ μ G H al .refl hσ hA h⟩
theorem dgs_cons {g : TG} {gs : TGs} {d : D} {ds : List D} (h : DG K B g d ρ μ fun ρ1 μ1 => DGs K B gs ds ρ1 μ1 PG') : DGs K B (gCons g gs) (d :: ds) ρ μ PG' := fun σ G H al vs hB hσ hA r Q hQ => by
  cases r with
  | cons r1 rs => exact ⟨_, _, rfl, h σ G H al _ hB hσ hA r1 _ fun σ1 ρ1 μ1 G1 H1 al1 n1 hσ1 A1 p1 => p1 σ1 G1 H1 al1 _ (hB.trans n1) hσ1 A1 (rs.nx n1) Q (hQ.nx n1)⟩
theorem dg_tup {n : Nat} {gs : TGs} {ds : List D} (hn : ds.length = n) (h : DGs K B gs ds ρ μ PG') : DG K B (gTup K n gs) (.tup ds) ρ μ PG' := fun σ G H al v hB hσ hA r Q hQ => by
  cases r with
  | tup e rs => exact ⟨_, _, rfl, .inl (.inl (hA.sub _ _ e)), rs.length.trans hn, h σ G H al _ hB hσ hA rs Q hQ⟩
theorem dg_sub {to ti : TE} {r : TSet} {d : D} (h : DE K B to ρ μ fun o μ1 => DE K B ti ρ μ1 fun i μ2 => RSet K r o i d μ2 fun μ3 => PG' ρ μ3) : DG K B (gSub to ti r) d ρ μ PG' := fun σ G H al v hB hσ hA rv Q hQ =>
  h σ G H al hB hσ hA _ fun vo o μ1 G1 H1 al1 n1 A1 r1 p1 => p1 σ G1 H1 al1 (hB.trans n1) (hσ.nx n1) A1 _ fun vi i μ2 G2 H2 al2 n2 A2 r2 p2 =>
    p2 G2 H2 al2 vo vi v A2 (r1.nx n2) r2 ((rv.nx n1).nx n2) _ fun μ3 G3 H3 al3 n3 A3 p3 => hQ _ _ μ3 G3 H3 al3 ((n1.trans n2).trans n3) (((hσ.nx n1).nx n2).nx n3) A3 p3
theorem ds_next (h : P.nx ρ μ) : DS K B tNext ρ μ P := fun σ G H al hB hσ hA De hD => hD.nx _ _ μ G H al .refl hσ hA h
theorem ds_break (h : P.bk ρ μ) : DS K B tBreak ρ μ P := fun σ G H al hB hσ hA De hD => hD.bk _ _ μ G H al .refl hσ hA h
theorem ds_cont (h : P.ct ρ μ) : DS K B tCont ρ μ P := fun σ G H al hB hσ hA De hD => hD.ct _ _ μ G H al .refl hσ hA h
theorem ds_seq (h : DS K B t ρ μ { P with nx := fun ρ1 μ1 => DS K B u ρ1 μ1 P }) : DS K B (tSeq t u) ρ μ P := fun σ G H al hB hσ hA De hD =>
  h σ G H al hB hσ hA _ ⟨fun σ1 ρ1 μ1 G1 H1 al1 n1 hσ1 A1 p1 => p1 σ1 G1 H1 al1 (hB.trans n1) hσ1 A1 De (hD.nx' n1), hD.rt, hD.bk, hD.ct⟩
/-- a statement behind which the ways meet again -/
theorem ds_cut {M : En → Mu → Prop} (h : DS K B t ρ μ { P with nx := M }) (k : ∀ ρ1 μ1, M ρ1 μ1 → DS K B u ρ1 μ1 P) : DS K B (tSeq t u) ρ μ P := fun σ G H al hB hσ hA De hD =>
  h σ G H al hB hσ hA _ ⟨fun σ1 ρ1 μ1 G1 H1 al1 n1 hσ1 A1 p1 => k ρ1 μ1 p1 σ1 G1 H1 al1 (hB.trans n1) hσ1 A1 De (hD.nx' n1), hD.rt, hD.bk, hD.ct⟩
theorem ds_asg {g : TG} (h : DE K B te ρ μ fun d μ1 => DG K B g d ρ μ1 P.nx) : DS K B (tAsg te g) ρ μ P := fun σ G H al hB hσ hA De hD =>
  h σ G H al hB hσ hA _ fun v d μ1 G1 H1 al1 n1 A1 r1 p1 => p1 σ G1 H1 al1 v (hB.trans n1) (hσ.nx n1) A1 r1 _ (hD.nx.nx n1)
theorem ds_set {i : Nat} (h : DE K B te ρ μ fun d μ1 => P.nx (ρ.set i (some d)) μ1) : DS K B (tAsg te (gName i)) ρ μ P := ds_asg (h.imp fun d μ1 p => dg_name p)
theorem ds_drop (h : DE K B te ρ μ fun d μ1 => P.nx ρ μ1) : DS K B (tDrop te) ρ μ P := fun σ G H al hB hσ hA De hD =>
  h σ G H al hB hσ hA _ fun v d μ1 G1 H1 al1 n1 A1 r1 p1 => hD.nx _ _ μ1 G1 H1 al1 n1 (hσ.nx n1) A1 p1
theorem ds_ret (h : DE K B te ρ μ P.rt) : DS K B (tRet te) ρ μ P := fun σ G H al hB hσ hA De hD => h σ G H al hB hσ hA _ hD.rt
theorem ds_retN (h : P.rt .non μ) : DS K B tRetN ρ μ P := fun σ G H al hB hσ hA De hD => hD.rt _ _ μ G H al .refl hA .non h
theorem ds_if {c : TT} (h : DT K B c ρ μ fun b μ1 => (b = true → DS K B t ρ μ1 P) ∧ (b = false → DS K B u ρ μ1 P)) : DS K B (tIfS c t u) ρ μ P := fun σ G H al hB hσ hA De hD =>
  h σ G H al hB hσ hA _ fun b μ1 G1 H1 al1 n1 A1 p1 => by
    cases b with
    | true => rw [if_pos rfl]; exact p1.1 rfl σ G1 H1 al1 (hB.trans n1) (hσ.nx n1) A1 De (hD.nx' n1)
    | false => rw [if_neg (by simp)]; exact p1.2 rfl σ G1 H1 al1 (hB.trans n1) (hσ.nx n1) A1 De (hD.nx' n1)
theorem ds_never (h : False) : DS K B tNever ρ μ P := h.elim
theorem ds_par {i j : Nat} {ts : TA} (h : DA K B ts ρ μ fun ds μ1 => ∃ x y, ds = [x, y] ∧ P.nx ((ρ.set i (some x)).set j (some y)) μ1) : DS K B (tPar i j ts) ρ μ P := fun σ G H al hB hσ hA De hD =>
  h σ G H al hB hσ hA _ fun vs ds μ1 G1 H1 al1 n1 A1 r1 p1 => by
    obtain ⟨x, y, rfl, p⟩ := p1
    cases r1 with
    | cons rx r2 => cases r2 with
      | cons ry r3 =>
        cases r3
        exact ⟨_, _, rfl, hD.nx _ _ μ1 G1 H1 al1 n1 (((hσ.nx n1).set i rx).set j ry) A1 p⟩
theorem ds_aug {i : Nat} {r : TIp} {x : D} (e : ρ[i]? = some (some x)) (h : DE K B te ρ μ fun y μ1 => RO K r x y μ1 fun z μ2 => P.nx (ρ.set i (some z)) μ2) : DS K B (tAug i te r) ρ μ P := fun σ G H al hB hσ hA De hD => by
  obtain ⟨v, e1, r1⟩ := hσ.2 i x e
  refine ⟨v, e1, h σ G H al hB hσ hA _ fun w y μ1 G1 H1 al1 n1 A1 r2 p1 => p1 G1 H1 al1 v w A1 (r1.nx n1) r2 _ fun z dz μ2 G2 H2 al2 n2 A2 r3 p2 => ?_⟩
  exact hD.nx _ _ μ2 G2 H2 al2 (n1.trans n2) (((hσ.nx n1).nx n2).set i r3) A2 p2
theorem ds_fld {f : Str} (h : DE K B tb ρ μ fun y μ1 => DE K B ta ρ μ1 fun x μ2 => ∃ k C gs, x = .own k ∧ μ2[k]? = some (.ins C gs) ∧ Cls K C ∧ NoAttr K C f ∧ gs.length < 1000 ∧ P.nx ρ (μ2.set k (.ins C (putD f y gs)))) : DS K B (sFld K ta tb f) ρ μ P := fun σ G H al hB hσ hA De hD =>
  h σ G H al hB hσ hA _ fun vy y μ1 G1 H1 al1 n1 A1 r1 p1 => p1 σ G1 H1 al1 (hB.trans n1) (hσ.nx n1) A1 _ fun vx x μ2 G2 H2 al2 n2 A2 r2 p2 => by
    obtain ⟨k, C, gs, rfl, hk, cl, na, hl, p⟩ := p2
    obtain ⟨a, ha, ok⟩ := A2.get hk
    cases r2 with
    | own e =>
      rw [ha] at e
      cases e
      obtain ⟨ga, dx, fs, hv, rf⟩ := ok
      obtain ⟨A3, n3⟩ := A2.put (o := .ins C dx (putF f vy fs)) (m' := .ins C (putD f y gs)) ha hk (by simp) ⟨ga, dx, _, upd_same, rf.put f (r1.nx n2)⟩
      exact ⟨_, C, dx, fs, rfl, hv, cl, na, by rw [rf.length]; exact hl, hD.nx _ _ _ _ _ _ ((n1.trans n2).trans n3) (((hσ.nx n1).nx n2).nx n3) A3 p⟩
theorem ds_fldAug {f : Str} {r : V → V → Hp → VK → Prop} (h : DE K B ta ρ μ fun x μ1 => ∃ k C gs d, x = .own k ∧ μ1[k]? = some (.ins C gs) ∧ Cls K C ∧ NoAttr K C f ∧ gs.lookup f = some d ∧
      DE K B tb ρ μ1 fun y μ2 => RO K r d y μ2 fun z μ3 => ∃ gs', μ3[k]? = some (.ins C gs') ∧ gs'.length < 1000 ∧ P.nx ρ (μ3.set k (.ins C (putD f z gs')))) : DS K B (sFldAug K ta tb r f) ρ μ P := fun σ G H al hB hσ hA De hD =>
  h σ G H al hB hσ hA _ fun vx x μ1 G1 H1 al1 n1 A1 r1 p1 => by
    obtain ⟨k, C, gs, d, rfl, hk, cl, na, lk, p⟩ := p1
    obtain ⟨a, ha, ok⟩ := A1.get hk
    cases r1 with
    | own e =>
      rw [ha] at e
      cases e
      obtain ⟨ga, dx, fs, hv, rf⟩ := ok
      obtain ⟨w, lw, rw'⟩ := rf.look lk
      refine ⟨_, C, dx, fs, w, rfl, hv, cl, na, lw, p σ G1 H1 al1 (hB.trans n1) (hσ.nx n1) A1 _ fun vy y μ2 G2 H2 al2 n2 A2 r2 p2 => p2 G2 H2 al2 w vy A2 (rw'.nx n2) r2 _ fun vz z μ3 G3 H3 al3 n3 A3 r3 p3 => ?_⟩
      obtain ⟨gs', hk3, hl, p⟩ := p3
      obtain ⟨a3, ha3, ok3⟩ := A3.get hk3
      have ea : a3 = _ := Option.some.inj (ha3.symm.trans (n3.p.get (n2.p.get ha)))
      subst ea
      obtain ⟨ga3, dx3, fs3, hv3, rf3⟩ := ok3
      obtain ⟨A4, n4⟩ := A3.put (o := .ins C dx3 (putF f vz fs3)) (m' := .ins C (putD f z gs')) ha3 hk3 (by simp) ⟨ga3, dx3, _, upd_same, rf3.put f r3⟩
      exact ⟨dx3, fs3, hv3, by rw [rf3.length]; exact hl, hD.nx _ _ _ _ _ _ (((n1.trans n2).trans n3).trans n4) ((((hσ.nx n1).nx n2).nx n3).nx n4) A4 p⟩
/-- less is known of the slots from here on -/
theorem ds_weak {ρ' : En} (hl : ρ'.length = ρ.length) (hw : ∀ (i : Nat) (d : D), ρ'[i]? = some (some d) → ρ[i]? = some (some d)) (h : DS K B t ρ' μ P) : DS K B t ρ μ P := fun σ G H al hB hσ hA De hD =>
  h σ G H al hB (hσ.weak hl hw) hA De hD
/-- a list that a slot holds is frozen -/
theorem ds_freeze {i k : Nat} {ds : List D} (hi : ρ[i]? = some (some (.own k))) (hk : μ[k]? = some (.lst ds)) (h : DS K B t (ρ.set i (some (.lst ds))) (μ.set k .dead) P) : DS K B t ρ μ P := fun σ G H al hB hσ hA De hD => by
  obtain ⟨v, e1, r1⟩ := hσ.2 i _ hi
  obtain ⟨a, ha, ok⟩ := hA.get hk
  cases r1 with
  | own e =>
    rw [ha] at e
    cases e
    obtain ⟨ga, vs, hv, rv⟩ := ok
    obtain ⟨A2, n2⟩ := hA.freeze ha hv ga
    refine h σ _ _ _ (hB.trans n2) ?_ A2 De (hD.nx' n2)
    rw [← set_id e1]
    exact (hσ.nx n2).set i (.lst upd_same (rv.nx n2))
end
end Dl

set_option Elab.async false
set_option linter.all false
set_option maxRecDepth 100000
namespace Dl
open PySem L2

/-! ### lists that are read -/
inductive Ls (μ : Mu) : D → List D → Prop
  | lst (ds : List D) : Ls μ (.lst ds) ds
  | rdl (ds : List D) : Ls μ (.rdl ds) ds
  | own {k : Nat} {ds : List D} (h : μ[k]? = some (.lst ds)) : Ls μ (.own k) ds
/-- .. and stand in the heap itself -/
inductive Lt (μ : Mu) : D → List D → Prop
  | lst (ds : List D) : Lt μ (.lst ds) ds
  | own {k : Nat} {ds : List D} (h : μ[k]? = some (.lst ds)) : Lt μ (.own k) ds
inductive Ts : D → List D → Prop
  | tup (ds : List D) : Ts (.tup ds) ds
  | rdt (ds : List D) : Ts (.rdt ds) ds
section
variable {K : PySem.W.Frag} {G H : Hp} {al : List Addr} {μ : Mu} {v : V} {d : D} {ds : List D}
theorem Lt.get (h : Lt μ d ds) (A : As K G H al μ) (r : Rp K G al v d) : ∃ a vs, v = .ref a ∧ H a = some (.lst vs) ∧ Rps K G al vs ds := by
  cases h with
  | lst => cases r with | lst e rs => exact ⟨_, _, rfl, A.sub _ _ e, rs⟩
  | own hk =>
    obtain ⟨a, ha, ga, vs, hv, rs⟩ := A.get hk
    cases r with
    | own e => rw [ha] at e; cases e; exact ⟨_, vs, rfl, hv, rs⟩
theorem Ls.get (h : Ls μ d ds) (A : As K G H al μ) (r : Rp K G al v d) : ∃ a vs, v = .ref a ∧ SqL K H a vs ∧ Rps K G al vs ds := by
  cases h with
  | lst => cases r with | lst e rs => exact ⟨_, _, rfl, .inl (.inl (A.sub _ _ e)), rs⟩
  | rdl => cases r with | rdl e rs => exact ⟨_, _, rfl, sql_mono A.sub e, rs⟩
  | own hk =>
    obtain ⟨a, ha, ga, vs, hv, rs⟩ := A.get hk
    cases r with
    | own e => rw [ha] at e; cases e; exact ⟨_, vs, rfl, .inl (.inl hv), rs⟩
theorem Ts.get (h : Ts d ds) (A : As K G H al μ) (r : Rp K G al v d) : ∃ a vs, v = .ref a ∧ SqT K H a vs ∧ Rps K G al vs ds := by
  cases h with
  | tup => cases r with | tup e rs => exact ⟨_, _, rfl, .inl (.inl (A.sub _ _ e)), rs⟩
  | rdt => cases r with | rdt e rs => exact ⟨_, _, rfl, sqt_mono A.sub e, rs⟩
end
theorem rps_cons {K : PySem.W.Frag} {G : Hp} {al : List Addr} {vs : List V} {d : D} {ds : List D} (h : Rps K G al vs (d :: ds)) : ∃ v ws, vs = v :: ws ∧ Rp K G al v d ∧ Rps K G al ws ds := by
  cases h with | cons r t => exact ⟨_, _, rfl, r, t⟩
theorem rps_nil {K : PySem.W.Frag} {G : Hp} {al : List Addr} {vs : List V} (h : Rps K G al vs []) : vs = [] := by cases h; rfl
theorem rps1 {K : PySem.W.Frag} {G : Hp} {al : List Addr} {vs : List V} {d : D} (h : Rps K G al vs [d]) : ∃ v, vs = [v] ∧ Rp K G al v d := by
  obtain ⟨v, ws, rfl, r, t⟩ := rps_cons h
  cases t; exact ⟨v, rfl, r⟩
theorem rps2 {K : PySem.W.Frag} {G : Hp} {al : List Addr} {vs : List V} {d e : D} (h : Rps K G al vs [d, e]) : ∃ v w, vs = [v, w] ∧ Rp K G al v d ∧ Rp K G al w e := by
  obtain ⟨v, ws, rfl, r, t⟩ := rps_cons h
  obtain ⟨w, rfl, q⟩ := rps1 t
  exact ⟨v, w, rfl, r, q⟩
/-- an item by an index of any sign -/
theorem atI_rps {K : PySem.W.Frag} {G : Hp} {al : List Addr} {vs : List V} {ds : List D} {i : Int} {d : D} (h : Rps K G al vs ds) (e : atI ds i = some d) : ∃ v, atI vs i = some v ∧ Rp K G al v d := by
  unfold atI at e ⊢
  rw [h.length]
  cases q : ixN ds.length i with
  | none => rw [q] at e; cases e
  | some j =>
    rw [q] at e
    exact h.get e
def cutD (xs : List D) (lo hi : Option Int) : List D := (xs.drop (HT.sIx xs.length 0 lo)).take (HT.sIx xs.length xs.length hi - HT.sIx xs.length 0 lo)
theorem cut_rps {K : PySem.W.Frag} {G : Hp} {al : List Addr} {vs : List V} {ds : List D} (h : Rps K G al vs ds) (lo hi : Option Int) : Rps K G al (cutV vs lo hi) (cutD ds lo hi) := by
  unfold cutV cutD
  rw [h.length]
  exact (h.drop _).take _

section
variable {K : PySem.W.Frag} {μ : Mu} {P : D → Mu → Prop} {i j : Int} {x y d : D} {ds es : List D}
/-! ### numbers -/
theorem ro_i {f : Int → Int → Int} (h : P (.int (f i j)) μ) : RO K (rI0 fun i j => .int (f i j)) (.int i) (.int j) μ P := fun G H al v w A r1 r2 Q hQ => by
  cases r1; cases r2
  exact ⟨i, j, rfl, rfl, hQ.now A (.int _) h⟩
theorem ro_b {f : Int → Int → Bool} (h : P (.bl (f i j)) μ) : RO K (rI0 fun i j => .bl (f i j)) (.int i) (.int j) μ P := fun G H al v w A r1 r2 Q hQ => by
  cases r1; cases r2
  exact ⟨i, j, rfl, rfl, hQ.now A (.bl _) h⟩
theorem ro_ic {C : Int → Int → Prop} {f : Int → Int → Int} (hc : C i j) (h : P (.int (f i j)) μ) : RO K (rI C fun i j => .int (f i j)) (.int i) (.int j) μ P := fun G H al v w A r1 r2 Q hQ => by
  cases r1; cases r2
  exact ⟨i, j, rfl, rfl, hc, hQ.now A (.int _) h⟩
theorem ro_ip {f : Int → Int → Int} (h : P (.int (f i j)) μ) : RO K (ipI f) (.int i) (.int j) μ P := fun G H al v w A r1 r2 Q hQ => by
  cases r1; cases r2
  exact ⟨i, j, rfl, rfl, hQ.now A (.int _) h⟩
theorem ro_add (h : P (.int (i + j)) μ) : RO K rAdd (.int i) (.int j) μ P := fun G H al v w A r1 r2 Q hQ => by
  cases r1; cases r2
  exact ⟨i, j, rfl, rfl, hQ.now A (.int _) h⟩
theorem ro_sub (h : P (.int (i - j)) μ) : RO K rSub (.int i) (.int j) μ P := fun G H al v w A r1 r2 Q hQ => by
  cases r1; cases r2
  exact ⟨i, j, rfl, rfl, hQ.now A (.int _) h⟩
theorem ru_i {f : Int → Int} (h : P (.int (f i)) μ) : RU K (rU fun i => .int (f i)) (.int i) μ P := fun G H al v A r1 Q hQ => by
  cases r1
  exact ⟨i, rfl, hQ.now A (.int _) h⟩
theorem rc_max2 (h : P (.int (max i j)) μ) : RC K (fun xs H Q => ∃ i j, xs = [.int i, .int j] ∧ Q (.int (if j > i then j else i)) H) [.int i, .int j] μ P := fun G H al vs A r Q hQ => by
  obtain ⟨v, w, rfl, r1, r2⟩ := rps2 r
  cases r1; cases r2
  refine ⟨i, j, rfl, ?_⟩
  have e : (if j > i then j else i) = max i j := by rw [Int.max_def]; split <;> split <;> omega
  rw [e]
  exact hQ.now A (.int _) h
theorem rc_min2 (h : P (.int (min i j)) μ) : RC K (fun xs H Q => ∃ i j, xs = [.int i, .int j] ∧ Q (.int (if j < i then j else i)) H) [.int i, .int j] μ P := fun G H al vs A r Q hQ => by
  obtain ⟨v, w, rfl, r1, r2⟩ := rps2 r
  cases r1; cases r2
  refine ⟨i, j, rfl, ?_⟩
  have e : (if j < i then j else i) = min i j := by rw [Int.min_def]; split <;> split <;> omega
  rw [e]
  exact hQ.now A (.int _) h
/-! ### lengths, items, slices, joins -/
theorem rc_len (hl : Ls μ x ds) (h : P (.int (ds.length : Int)) μ) : RC K (fun xs H Q => ∃ x n, xs = [x] ∧ LenV K x H n ∧ Q (.int (n : Nat)) H) [x] μ P := fun G H al vs A r Q hQ => by
  obtain ⟨v, rfl, r1⟩ := rps1 r
  obtain ⟨a, ws, rfl, s, rs⟩ := hl.get A r1
  exact ⟨.ref a, ds.length, rfl, .inl ⟨ws, s, rs.length.symm⟩, hQ.now A (.int _) h⟩
theorem rc_lenT (hl : Ts x ds) (h : P (.int (ds.length : Int)) μ) : RC K (fun xs H Q => ∃ x n, xs = [x] ∧ LenV K x H n ∧ Q (.int (n : Nat)) H) [x] μ P := fun G H al vs A r Q hQ => by
  obtain ⟨v, rfl, r1⟩ := rps1 r
  obtain ⟨a, ws, rfl, s, rs⟩ := hl.get A r1
  exact ⟨.ref a, ds.length, rfl, .inr ⟨ws, s, rs.length.symm⟩, hQ.now A (.int _) h⟩
theorem rc_lenS {s : Str} (hs : s.length ≤ 100000) (h : P (.int (s.length : Int)) μ) : RC K (fun xs H Q => ∃ x n, xs = [x] ∧ LenV K x H n ∧ Q (.int (n : Nat)) H) [.str s] μ P := fun G H al vs A r Q hQ => by
  obtain ⟨v, rfl, r1⟩ := rps1 r
  cases r1
  exact ⟨.str s, s.length, rfl, ⟨Nat.le_trans hs (by decide), rfl⟩, hQ.now A (.int _) h⟩
theorem ro_ixL (hl : Ls μ x ds) (e : atI ds i = some d) (h : P d μ) : RO K (rIx K) x (.int i) μ P := fun G H al v w A r1 r2 Q hQ => by
  cases r2
  obtain ⟨a, ws, rfl, s, rs⟩ := hl.get A r1
  obtain ⟨z, ez, rz⟩ := atI_rps rs e
  exact .inl ⟨a, ws, i, z, rfl, rfl, s, ez, hQ.now A rz h⟩
theorem ro_ixT (hl : Ts x ds) (e : atI ds i = some d) (h : P d μ) : RO K (rIx K) x (.int i) μ P := fun G H al v w A r1 r2 Q hQ => by
  cases r2
  obtain ⟨a, ws, rfl, s, rs⟩ := hl.get A r1
  obtain ⟨z, ez, rz⟩ := atI_rps rs e
  exact .inr (.inl ⟨a, ws, i, z, rfl, rfl, s, ez, hQ.now A rz h⟩)
theorem ro_ixS {s : Str} {c : Nat} (hs : s.length ≤ 100000) (e : atI s.cps.toList i = some c) (h : P (.str ⟨#[c]⟩) μ) : RO K (rIx K) (.str s) (.int i) μ P := fun G H al v w A r1 r2 Q hQ => by
  cases r1; cases r2
  exact .inr (.inr ⟨s, i, c, rfl, rfl, Nat.le_trans hs (by decide), e, hQ.now A (.str _) h⟩)
theorem rs_lst {lo hi : Option Int} (hl : Ls μ x ds) (h : P (.lst (cutD ds lo hi)) μ) : RS K (rSlL K) x lo hi μ P := fun G H al v A r Q hQ => by
  obtain ⟨a, ws, rfl, s, rs⟩ := hl.get A r
  refine ⟨a, ws, rfl, s, fun p hp => ?_⟩
  obtain ⟨A2, n2⟩ := A.frz (o := .lst (cutV ws lo hi)) hp
  exact hQ _ _ μ _ _ _ n2 A2 (.lst upd_same ((cut_rps rs lo hi).nx n2)) h
theorem rs_lstO {lo hi : Option Int} (hl : Ls μ x ds) (h : P (.own μ.length) (μ ++ [.lst (cutD ds lo hi)])) : RS K (rSlL K) x lo hi μ P := fun G H al v A r Q hQ => by
  obtain ⟨a, ws, rfl, s, rs⟩ := hl.get A r
  refine ⟨a, ws, rfl, s, fun p hp => ?_⟩
  obtain ⟨A2, n2⟩ := A.own (o := .lst (cutV ws lo hi)) (m := .lst (cutD ds lo hi)) hp ⟨A.sub.free hp, _, upd_same, (cut_rps rs lo hi).mono (Same.refl _) ⟨[p], rfl⟩⟩
  exact hQ _ _ _ _ _ _ n2 A2 (.own (by rw [← A.len]; simp)) h
theorem ro_cat (h1 : Lt μ x ds) (h2 : Lt μ y es) (hs : ds.length + es.length ≤ 100000) (h : P (.lst (ds ++ es)) μ) : RO K rCat x y μ P := fun G H al v w A r1 r2 Q hQ => by
  obtain ⟨a, ws, rfl, s1, rs1⟩ := h1.get A r1
  obtain ⟨b, us, rfl, s2, rs2⟩ := h2.get A r2
  refine ⟨a, b, ws, us, rfl, rfl, s1, s2, by rw [rs1.length, rs2.length]; exact Nat.le_trans hs (by decide), fun p hp => ?_⟩
  obtain ⟨A2, n2⟩ := A.frz (o := .lst (ws ++ us)) hp
  exact hQ _ _ μ _ _ _ n2 A2 (.lst upd_same ((rs1.append rs2).nx n2)) h
theorem ro_catO (h1 : Lt μ x ds) (h2 : Lt μ y es) (hs : ds.length + es.length ≤ 100000) (h : P (.own μ.length) (μ ++ [.lst (ds ++ es)])) : RO K rCat x y μ P := fun G H al v w A r1 r2 Q hQ => by
  obtain ⟨a, ws, rfl, s1, rs1⟩ := h1.get A r1
  obtain ⟨b, us, rfl, s2, rs2⟩ := h2.get A r2
  refine ⟨a, b, ws, us, rfl, rfl, s1, s2, by rw [rs1.length, rs2.length]; exact Nat.le_trans hs (by decide), fun p hp => ?_⟩
  obtain ⟨A2, n2⟩ := A.own (o := .lst (ws ++ us)) (m := .lst (ds ++ es)) hp ⟨A.sub.free hp, _, upd_same, (rs1.append rs2).mono (Same.refl _) ⟨[p], rfl⟩⟩
  exact hQ _ _ _ _ _ _ n2 A2 (.own (by rw [← A.len]; simp)) h
theorem ro_catT (h1 : Ts x ds) (h2 : Ts y es) (hne : ds ≠ []) (hes : es ≠ []) (hs : ds.length + es.length ≤ 100000) (h : P (.tup (ds ++ es)) μ) : RO K (rCatT K) x y μ P := fun G H al v w A r1 r2 Q hQ => by
  obtain ⟨a, ws, rfl, s1, rs1⟩ := h1.get A r1
  obtain ⟨b, us, rfl, s2, rs2⟩ := h2.get A r2
  have hw : ws ≠ [] := fun z => by
    subst z
    have := rs1.length
    cases ds with
    | nil => exact hne rfl
    | cons _ _ => simp at this
  have hu : us ≠ [] := fun z => by
    subst z
    have := rs2.length
    cases es with
    | nil => exact hes rfl
    | cons _ _ => simp at this
  refine ⟨a, b, ws, us, rfl, rfl, s1, s2, hw, by rw [rs1.length, rs2.length]; exact Nat.le_trans hs (by decide), ?_⟩
  refine ⟨fun z => absurd z hu, fun _ p hp => ?_⟩
  obtain ⟨A2, n2⟩ := A.frz (o := .tup (ws ++ us)) hp
  exact hQ _ _ μ _ _ _ n2 A2 (.tup upd_same ((rs1.append rs2).nx n2)) h
/-! ### lists that change -/
theorem ty_list (hl : Ls μ x ds) : ∀ G H al v, As K G H al μ → Rp K G al v x → tyV K "list" v H := fun G H al v A r => by
  obtain ⟨a, ws, rfl, s, rs⟩ := hl.get A r
  exact .inl ⟨rfl, ws, s⟩
theorem rm_app {k : Nat} (hk : μ[k]? = some (.lst ds)) (hs : ds.length < 100000) (h : P .non (μ.set k (.lst (ds ++ [d])))) : RM K rAppend (.own k) [d] μ P := fun G H al v vs A r rs Q hQ => by
  obtain ⟨a, ha, ga, ws, hv, rw'⟩ := A.get hk
  obtain ⟨u, rfl, ru⟩ := rps1 rs
  cases r with
  | own e =>
    rw [ha] at e; cases e
    refine ⟨a, ws, u, rfl, rfl, hv, by rw [rw'.length]; exact Nat.lt_of_lt_of_le hs (by decide), ?_⟩
    obtain ⟨A2, n2⟩ := A.put (o := .lst (ws ++ [u])) (m' := .lst (ds ++ [d])) ha hk (by simp) ⟨ga, _, upd_same, rw'.append (.cons ru .nil)⟩
    exact hQ _ _ _ _ _ _ n2 A2 .non h
theorem rm_clear {k : Nat} (hk : μ[k]? = some (.lst ds)) (h : P .non (μ.set k (.lst []))) : RM K rClear (.own k) [] μ P := fun G H al v vs A r rs Q hQ => by
  obtain ⟨a, ha, ga, ws, hv, rw'⟩ := A.get hk
  have := rps_nil rs
  subst this
  cases r with
  | own e =>
    rw [ha] at e; cases e
    obtain ⟨A2, n2⟩ := A.put (o := .lst []) (m' := .lst []) ha hk (by simp) ⟨ga, _, upd_same, .nil⟩
    exact ⟨a, ws, rfl, rfl, hv, hQ _ _ _ _ _ _ n2 A2 .non h⟩
theorem rm_reverse {k : Nat} (hk : μ[k]? = some (.lst ds)) (h : P .non (μ.set k (.lst ds.reverse))) : RM K rReverse (.own k) [] μ P := fun G H al v vs A r rs Q hQ => by
  obtain ⟨a, ha, ga, ws, hv, rw'⟩ := A.get hk
  have := rps_nil rs
  subst this
  cases r with
  | own e =>
    rw [ha] at e; cases e
    obtain ⟨A2, n2⟩ := A.put (o := .lst ws.reverse) (m' := .lst ds.reverse) ha hk (by simp) ⟨ga, _, upd_same, rw'.reverse⟩
    exact ⟨a, ws, rfl, rfl, hv, hQ _ _ _ _ _ _ n2 A2 .non h⟩
theorem rps_dropLast {K : PySem.W.Frag} {G : Hp} {al : List Addr} {vs : List V} {ds : List D} (h : Rps K G al vs ds) : Rps K G al vs.dropLast ds.dropLast := by
  rw [List.dropLast_eq_take, List.dropLast_eq_take, h.length]
  exact h.take _
theorem rm_pop {k : Nat} (hk : μ[k]? = some (.lst ds)) (hd : ds[ds.length - 1]? = some d) (h : P d (μ.set k (.lst ds.dropLast))) : RM K rPop (.own k) [] μ P := fun G H al v vs A r rs Q hQ => by
  obtain ⟨a, ha, ga, ws, hv, rw'⟩ := A.get hk
  have := rps_nil rs
  subst this
  cases r with
  | own e =>
    rw [ha] at e; cases e
    obtain ⟨u, hu, ru⟩ := rw'.get hd
    obtain ⟨A2, n2⟩ := A.put (o := .lst ws.dropLast) (m' := .lst ds.dropLast) ha hk (by simp) ⟨ga, _, upd_same, rps_dropLast rw'⟩
    exact ⟨a, ws, u, rfl, rfl, hv, by rw [rw'.length]; exact hu, hQ _ _ _ _ _ _ n2 A2 (ru.nx n2) h⟩
theorem rset_lst {k j : Nat} {PM : Mu → Prop} (hk : μ[k]? = some (.lst ds)) (hj : ixN ds.length i = some j) (h : PM (μ.set k (.lst (ds.set j d)))) : RSet K rSetL (.own k) (.int i) d μ PM := fun G H al v w u A r1 r2 r3 Q hQ => by
  obtain ⟨a, ha, ga, ws, hv, rw'⟩ := A.get hk
  cases r2
  cases r1 with
  | own e =>
    rw [ha] at e; cases e
    obtain ⟨A2, n2⟩ := A.put (o := .lst (ws.set j u)) (m' := .lst (ds.set j d)) ha hk (by simp) ⟨ga, _, upd_same, rw'.set j r3⟩
    exact ⟨a, ws, i, j, rfl, rfl, hv, by rw [rw'.length]; exact hj, hQ _ _ _ _ n2 A2 h⟩
/-! ### sums, all, any -/
theorem rc_sum {ns : List Int} (hl : Ls μ x (ns.map D.int)) (h : P (.int ns.sum) μ) : RC K (rSum K) [x] μ P := fun G H al vs A r Q hQ => by
  obtain ⟨v, rfl, r1⟩ := rps1 r
  obtain ⟨a, ws, rfl, s, rs⟩ := hl.get A r1
  have e := rs.ints
  subst e
  exact ⟨a, ns, rfl, s, hQ.now A (.int _) h⟩
theorem rc_all {bs : List Bool} (hl : Ls μ x (bs.map D.bl)) (h : P (.bl (bs.all id)) μ) : RC K (rAll K) [x] μ P := fun G H al vs A r Q hQ => by
  obtain ⟨v, rfl, r1⟩ := rps1 r
  obtain ⟨a, ws, rfl, s, rs⟩ := hl.get A r1
  have e := rs.bools
  subst e
  exact ⟨a, bs, rfl, s, hQ.now A (.bl _) h⟩
theorem rc_max {ns : List Int} (hl : Ls μ x (ns.map D.int)) (hn : 0 < ns.length) (h : ∀ m, m ∈ ns → (∀ y, y ∈ ns → y ≤ m) → P (.int m) μ) : RC K (rMax K) [x] μ P := fun G H al vs A r Q hQ => by
  obtain ⟨v, rfl, r1⟩ := rps1 r
  obtain ⟨a, ws, rfl, s, rs⟩ := hl.get A r1
  have e := rs.ints
  subst e
  exact ⟨a, ns, rfl, s, hn, fun m h1 h2 => hQ.now A (.int _) (h m h1 h2)⟩
theorem rc_min {ns : List Int} (hl : Ls μ x (ns.map D.int)) (hn : 0 < ns.length) (h : ∀ m, m ∈ ns → (∀ y, y ∈ ns → m ≤ y) → P (.int m) μ) : RC K (rMin K) [x] μ P := fun G H al vs A r Q hQ => by
  obtain ⟨v, rfl, r1⟩ := rps1 r
  obtain ⟨a, ws, rfl, s, rs⟩ := hl.get A r1
  have e := rs.ints
  subst e
  exact ⟨a, ns, rfl, s, hn, fun m h1 h2 => hQ.now A (.int _) (h m h1 h2)⟩
end

/-! ### isinstance -/
/-- a built-in type's name -/
def tyD (μ : Mu) : D → Option String
  | .non => some "NoneType"
  | .bl _ => some "bool"
  | .int _ => some "int"
  | .str _ => some "str"
  | .tup _ => some "tuple"
  | .lst _ => some "list"
  | .rdl _ => some "list"
  | .rdt _ => some "tuple"
  | .dct _ => some "dict"
  | .own k => match μ[k]? with
    | some (.lst _) => some "list"
    | some (.dK _) => some "dict"
    | some (.dT _) => some "dict"
    | _ => none
  | _ => none
/-- what isinstance asks of an own class -/
structure ObT (K : PySem.W.Frag) (C : Addr) : Prop where
  cl : Cls K C
  ha : PySem.W.findIn K (.ref C) "__class__" = some (some (.builtin "object.__class__"))
  hn : PySem.W.specialIn K (.builtin "object.__class__") "__get__" = some (some (.builtin "getset_descriptor.__get__"))
  htk : PySem.W.takesIn K (.builtin "object.__class__") = some true
  hm : PySem.W.mroIn K C (.type "object") = some true
/-- the type of a datum as the deciders take it -/
inductive TyDV (K : PySem.W.Frag) (μ : Mu) : D → Value → Prop
  | ty {d : D} {n : String} (h : tyD μ d = some n) : TyDV K μ d (.type n)
  | obj {C : Addr} {gs : List (Str × D)} (o : ObT K C) : TyDV K μ (.obj C gs) (.ref C)
  | own {C : Addr} {gs : List (Str × D)} {k : Nat} (h : μ[k]? = some (.ins C gs)) (o : ObT K C) : TyDV K μ (.own k) (.ref C)
inductive ClD : D → Value → Prop
  | ty (n : String) : ClD (.ty n) (.type n)
  | loc (C : Addr) : ClD (.loc C) (.ref C)
theorem TyDV.tyx {K : PySem.W.Frag} {G H : Hp} {al : List Addr} {μ : Mu} {v : V} {d : D} {t : Value} (h : TyDV K μ d t) (A : As K G H al μ) (r : Rp K G al v d) : TyX K H v t := by
  cases h with
  | obj o =>
    cases r with
    | obj e rf => exact .base (.ins (A.sub _ _ e) o.cl o.ha o.hn o.htk o.hm)
  | own hk o =>
    obtain ⟨a, ha, ga, dx, fs, hv, rf⟩ := A.get hk
    cases r with
    | own e => rw [ha] at e; cases e; exact .base (.ins hv o.cl o.ha o.hn o.htk o.hm)
  | ty ht =>
    cases r with
    | non => cases ht; exact .base .non
    | bl b => cases ht; exact .base (.bl b)
    | int i => cases ht; exact .base (.int i)
    | str x => cases ht; exact .base (.str x)
    | ty n => cases ht
    | tup e rs => cases ht; exact .base (.tup (A.sub _ _ e))
    | lst e rs => cases ht; exact .base (.lst (A.sub _ _ e))
    | rdl e rs =>
      cases ht
      rcases e with (e | ⟨o, e⟩) | ⟨o, its, n, hk, hc, hd, hs, hz, _⟩
      · exact .base (.lst (A.sub _ _ e))
      · exact .base (.frz (A.sub _ _ e))
      · exact .kList hk hc
    | rdt e rs =>
      cases ht
      rcases e with (e | ⟨o, e⟩) | ⟨o, its, n, hk, hc, hs, hz, _⟩
      · exact .base (.tup (A.sub _ _ e))
      · exact .fTuple (A.sub _ _ e)
      · exact .kTuple hk hc
    | obj e rf => cases ht
    | dct e rf => cases ht; exact .base (.dK (A.sub _ _ e))
    | own e =>
      rename_i a k
      simp only [tyD] at ht
      cases hk : μ[k]? with
      | none => rw [hk] at ht; cases ht
      | some m =>
        rw [hk] at ht
        obtain ⟨a', ha, ok⟩ := A.get hk
        rw [ha] at e; cases e
        cases m with
        | lst ds => cases ht; obtain ⟨ga, vs, hv, _⟩ := ok; exact .base (.lst hv)
        | dK ds => cases ht; obtain ⟨ga, vs, hv, _⟩ := ok; exact .base (.dK hv)
        | dT ds => cases ht; obtain ⟨ga, vs, hv, _⟩ := ok; exact .base (.dT hv)
        | dead => cases ht
        | ins _ _ => cases ht
        | tab _ _ => cases ht
    | loc a => cases ht
    | exc _ _ _ => cases ht
section
variable {K : PySem.W.Frag} {μ : Mu} {P : D → Mu → Prop} {x c : D}
theorem rc_isi {t u : Value} {b : Bool} (ht : TyDV K μ x t) (hc : ClD c u) (hk : PySem.W.kitOne K t u = some b) (h : P (.bl b) μ) : RC K (rIsi K) [x, c] μ P := fun G H al vs A r Q hQ => by
  obtain ⟨v, w, rfl, r1, r2⟩ := rps2 r
  have tx := ht.tyx A r1
  cases hc with
  | ty n => cases r2; exact ⟨v, _, t, _, b, rfl, .ty n, tx, hk, hQ.now A (.bl b) h⟩
  | loc C => cases r2; exact ⟨v, _, t, _, b, rfl, .own C, tx, hk, hQ.now A (.bl b) h⟩
theorem rc_isiB {n m : String} {b : Bool} (ht : tyD μ x = some n) (hk : kitB n m = some b) (h : P (.bl b) μ) : RC K (rIsi K) [x, .ty m] μ P := rc_isi (.ty ht) (.ty m) (kit_ty hk) h
end

/-! ### == of data -/
mutual
def D.py : D → PyData
  | .non => .none
  | .bl b => .bool b
  | .int i => .int i
  | .str x => .str x
  | .ty _ => .none
  | .tup xs => .tuple (pyL xs)
  | .lst xs => .list (pyL xs)
  | .rdl xs => .list (pyL xs)
  | .rdt xs => .tuple (pyL xs)
  | .obj _ _ => .none
  | .dct _ => .none
  | .own _ => .none
  | .loc _ => .none
  | .exc _ _ => .none
def pyL : List D → List PyData
  | [] => []
  | x :: xs => D.py x :: pyL xs
end
mutual
/-- data that == goes through: how deep -/
def D.shp : D → Nat → Bool
  | .non, _ => true
  | .bl _, _ => true
  | .int _, _ => true
  | .str x, _ => PyData.strOk x
  | .tup xs, n => decide (0 < n) && shpL xs (n - 1)
  | .lst xs, n => decide (0 < n) && shpL xs (n - 1)
  | .rdl xs, n => decide (0 < n) && shpL xs (n - 1)
  | .rdt xs, n => decide (0 < n) && shpL xs (n - 1)
  | .ty _, _ => false
  | .obj _ _, _ => false
  | .dct _, _ => false
  | .own _, _ => false
  | .loc _, _ => false
  | .exc _ _, _ => false
def shpL : List D → Nat → Bool
  | [], _ => true
  | x :: xs, n => D.shp x n && shpL xs n
end
section
variable {K : PySem.W.Frag} {G H : Hp} {al : List Addr}
mutual
theorem dp_of (s : Same G H) : ∀ {d : D} {n : Nat} {v : V}, d.shp n = true → Rp K G al v d → Dp K H v d.py
  | .non, _, _, _, .non => by unfold D.py; exact .non
  | .bl _, _, _, _, .bl b => by unfold D.py; exact .bl b
  | .int _, _, _, _, .int i => by unfold D.py; exact .int i
  | .str _, _, _, _, .str x => by unfold D.py; exact .str x
  | .tup xs, n, _, h, .tup e r => by
    unfold D.py; unfold D.shp at h; simp at h
    exact .tup (.inl (.inl (s _ _ e))) (dpAll_of s h.2 r)
  | .lst xs, n, _, h, .lst e r => by
    unfold D.py; unfold D.shp at h; simp at h
    exact .lst (.inl (.inl (s _ _ e))) (dpAll_of s h.2 r)
  | .rdl xs, n, _, h, .rdl e r => by
    unfold D.py; unfold D.shp at h; simp at h
    exact .lst (sql_mono s e) (dpAll_of s h.2 r)
  | .rdt xs, n, _, h, .rdt e r => by
    unfold D.py; unfold D.shp at h; simp at h
    exact .tup (sqt_mono s e) (dpAll_of s h.2 r)
  | .ty _, _, _, h, _ => by unfold D.shp at h; cases h
  | .obj _ _, _, _, h, _ => by unfold D.shp at h; cases h
  | .dct _, _, _, h, _ => by unfold D.shp at h; cases h
  | .own _, _, _, h, _ => by unfold D.shp at h; cases h
  | .loc _, _, _, h, _ => by unfold D.shp at h; cases h
  | .exc _ _, _, _, h, _ => by unfold D.shp at h; cases h
theorem dpAll_of (s : Same G H) : ∀ {ds : List D} {n : Nat} {vs : List V}, shpL ds n = true → Rps K G al vs ds → DpAll K H vs (pyL ds)
  | [], _, _, _, .nil => by unfold pyL; exact .nil
  | d :: ds, n, _, h, .cons r t => by
    unfold pyL; unfold shpL at h; simp at h
    exact .cons (dp_of s h.1 r) (dpAll_of s h.2 t)
end
end
mutual
theorem can_of : ∀ {d : D} {n : Nat}, d.shp n = true → d.py.canLay0 = true ∧ d.py.depth ≤ n
  | .non, n, _ => by simp [D.py, PyData.canLay0, PyData.depth]
  | .bl _, n, _ => by simp [D.py, PyData.canLay0, PyData.depth]
  | .int _, n, _ => by simp [D.py, PyData.canLay0, PyData.depth]
  | .str x, n, h => by
    unfold D.shp at h
    simp [D.py, PyData.canLay0, PyData.depth, h]
  | .tup xs, n, h => by
    unfold D.shp at h; simp at h
    have q := canL_of h.2
    simp [D.py, PyData.canLay0, PyData.depth, q.1]
    omega
  | .lst xs, n, h => by
    unfold D.shp at h; simp at h
    have q := canL_of h.2
    simp [D.py, PyData.canLay0, PyData.depth, q.1]
    omega
  | .rdl xs, n, h => by
    unfold D.shp at h; simp at h
    have q := canL_of h.2
    simp [D.py, PyData.canLay0, PyData.depth, q.1]
    omega
  | .rdt xs, n, h => by
    unfold D.shp at h; simp at h
    have q := canL_of h.2
    simp [D.py, PyData.canLay0, PyData.depth, q.1]
    omega
  | .ty _, _, h => by unfold D.shp at h; cases h
  | .obj _ _, _, h => by unfold D.shp at h; cases h
  | .dct _, _, h => by unfold D.shp at h; cases h
  | .own _, _, h => by unfold D.shp at h; cases h
  | .loc _, _, h => by unfold D.shp at h; cases h
  | .exc _ _, _, h => by unfold D.shp at h; cases h
theorem canL_of : ∀ {ds : List D} {n : Nat}, shpL ds n = true → PyData.canLayAll0 (pyL ds) = true ∧ PyData.depthAll (pyL ds) ≤ n
  | [], n, _ => by simp [pyL, PyData.canLayAll0, PyData.depthAll]
  | d :: ds, n, h => by
    unfold shpL at h; simp at h
    have q1 := can_of h.1
    have q2 := canL_of h.2
    simp [pyL, PyData.canLayAll0, PyData.depthAll, q1.1, q2.1]
    have := q1.2; have := q2.2; omega
end
theorem shaped_of {d : D} {n : Nat} (hn : n ≤ 64) (h : d.shp n = true) : SeqAt.shaped d.py = true := by
  have q := can_of h
  unfold SeqAt.shaped
  simp [q.1]
  omega
theorem beq_dec {α : Type} [BEq α] [LawfulBEq α] [DecidableEq α] (a b : α) : (a == b) = decide (a = b) := by
  rw [Bool.eq_iff_iff, beq_iff_eq, decide_eq_true_eq]
/-- what == says of two data -/
def eqvD (x y : D) : Bool := PyData.eqv x.py y.py
def eqvL (xs ys : List D) : Bool := PyData.eqvAll (pyL xs) (pyL ys)
@[simp] theorem eqvD_int (i j : Int) : eqvD (.int i) (.int j) = decide (i = j) := by
  simp only [eqvD, D.py, PyData.eqv]
  exact beq_dec i j
@[simp] theorem eqvD_bl (i j : Bool) : eqvD (.bl i) (.bl j) = decide (i = j) := by
  simp only [eqvD, D.py, PyData.eqv]
  exact beq_dec i j
@[simp] theorem eqvD_str (i j : Str) : eqvD (.str i) (.str j) = decide (i = j) := by
  simp only [eqvD, D.py, PyData.eqv]
  exact beq_dec i j
@[simp] theorem eqvD_tup (xs ys : List D) : eqvD (.tup xs) (.tup ys) = eqvL xs ys := by simp only [eqvD, eqvL, D.py, PyData.eqv]
@[simp] theorem eqvD_lst (xs ys : List D) : eqvD (.lst xs) (.lst ys) = eqvL xs ys := by simp only [eqvD, eqvL, D.py, PyData.eqv]
@[simp] theorem eqvD_rdl (xs ys : List D) : eqvD (.rdl xs) (.lst ys) = eqvL xs ys := by simp only [eqvD, eqvL, D.py, PyData.eqv]
@[simp] theorem eqvL_nil : eqvL [] [] = true := by simp only [eqvL, pyL, PyData.eqvAll]
@[simp] theorem eqvL_cons (x y : D) (xs ys : List D) : eqvL (x :: xs) (y :: ys) = (eqvD x y && eqvL xs ys) := by simp only [eqvL, eqvD, pyL, PyData.eqvAll]
@[simp] theorem eqvL_nc (y : D) (ys : List D) : eqvL [] (y :: ys) = false := by simp only [eqvL, pyL, PyData.eqvAll]
@[simp] theorem eqvL_cn (y : D) (ys : List D) : eqvL (y :: ys) [] = false := by simp only [eqvL, pyL, PyData.eqvAll]
@[simp] theorem eqvD_nn : eqvD .non .non = true := by simp only [eqvD, D.py, PyData.eqv]
theorem eqvL_map {α : Type} [DecidableEq α] {f : α → D} (hf : ∀ a b, eqvD (f a) (f b) = decide (a = b)) : ∀ xs ys : List α, eqvL (xs.map f) (ys.map f) = decide (xs = ys)
  | [], [] => by simp
  | [], _ :: _ => by simp
  | _ :: _, [] => by simp
  | x :: xs, y :: ys => by
    rw [List.map_cons, List.map_cons, eqvL_cons, hf, eqvL_map hf xs ys, ← Bool.decide_and]
    exact decide_eq_decide.mpr (by rw [List.cons.injEq])
theorem eqvD_refl {d : D} {n : Nat} (h : d.shp n = true) : eqvD d d = true := SeqAt.eqv_refl _ (can_of h).1
theorem eqvL_refl {d : List D} {n : Nat} (h : shpL d n = true) : eqvL d d = true := SeqAt.eqvAll_refl _ (canL_of h).1
theorem shpL_map {α : Type} {f : α → D} {n : Nat} {xs : List α} (h : ∀ x ∈ xs, (f x).shp n = true) : shpL (xs.map f) n = true := by
  induction xs with
  | nil => simp [shpL]
  | cons x xs ih =>
    simp [shpL, h x (by simp)]
    exact ih fun y hy => h y (by simp [hy])
theorem shpL_iff {xs : List D} {n : Nat} : shpL xs n = true ↔ ∀ x ∈ xs, x.shp n = true := by
  induction xs with
  | nil => simp [shpL]
  | cons x xs ih => simp [shpL, ih]
/-- one that may still change is looked at as it is now -/
inductive Fz (μ : Mu) : D → D → Prop
  | id (d : D) : Fz μ d d
  | own {k : Nat} {ds : List D} (h : μ[k]? = some (.lst ds)) : Fz μ (.own k) (.lst ds)
theorem Fz.dp {K : PySem.W.Frag} {G H : Hp} {al : List Addr} {μ : Mu} {v : V} {x d : D} {n : Nat} (h : Fz μ x d) (A : As K G H al μ) (hs : d.shp n = true) (r : Rp K G al v x) : Dp K H v d.py := by
  cases h with
  | id => exact dp_of A.sub hs r
  | own hk =>
    obtain ⟨a, ha, ga, ws, hv, rw'⟩ := A.get hk
    cases r with
    | own e =>
      rw [ha] at e; cases e
      unfold D.py; unfold D.shp at hs; simp at hs
      exact .lst (.inl (.inl hv)) (dpAll_of A.sub hs.2 rw')
section
variable {K : PySem.W.Frag} {μ : Mu} {P : D → Mu → Prop} {x y d e : D}
theorem ro_eqD {n m : Nat} (hx : Fz μ x d) (hy : Fz μ y e) (h1 : d.shp n = true) (h2 : e.shp m = true) (h : P (.bl (eqvD d e)) μ) (hn : n ≤ 64 := by decide) (hm : m ≤ 64 := by decide) : RO K (rEqD K) x y μ P := fun G H al v w A r1 r2 Q hQ =>
  ⟨d.py, e.py, hx.dp A h1 r1, hy.dp A h2 r2, shaped_of hn h1, shaped_of hm h2, hQ.now A (.bl _) h⟩
theorem ro_neD {n m : Nat} (hx : Fz μ x d) (hy : Fz μ y e) (h1 : d.shp n = true) (h2 : e.shp m = true) (h : P (.bl (!eqvD d e)) μ) (hn : n ≤ 64 := by decide) (hm : m ≤ 64 := by decide) : RO K (rNeD K) x y μ P := fun G H al v w A r1 r2 Q hQ =>
  ⟨d.py, e.py, hx.dp A h1 r1, hy.dp A h2 r2, shaped_of hn h1, shaped_of hm h2, hQ.now A (.bl _) h⟩
theorem ro_eqI {i j : Int} (h : P (.bl (decide (i = j))) μ) : RO K (rEqD K) (.int i) (.int j) μ P := ro_eqD (n := 0) (m := 0) (.id _) (.id _) rfl rfl (by rw [eqvD_int]; exact h)
theorem ro_neI {i j : Int} (h : P (.bl (!decide (i = j))) μ) : RO K (rNeD K) (.int i) (.int j) μ P := ro_neD (n := 0) (m := 0) (.id _) (.id _) rfl rfl (by rw [eqvD_int]; exact h)
theorem ro_eqB {i j : Bool} (h : P (.bl (decide (i = j))) μ) : RO K (rEqD K) (.bl i) (.bl j) μ P := ro_eqD (n := 0) (m := 0) (.id _) (.id _) rfl rfl (by rw [eqvD_bl]; exact h)
theorem ro_neB {i j : Bool} (h : P (.bl (!decide (i = j))) μ) : RO K (rNeD K) (.bl i) (.bl j) μ P := ro_neD (n := 0) (m := 0) (.id _) (.id _) rfl rfl (by rw [eqvD_bl]; exact h)
end
end Dl

set_option Elab.async false
set_option linter.all false
set_option maxRecDepth 100000
namespace Dl
open PySem L2

/-! ### what is walked -/
/-- J walks ds, as long as S holds of what may change -/
def ItOk (K : PySem.W.Frag) (J : It) (ds : List D) (S : Mu → Prop) (G H : Hp) (al : List Addr) : Prop := ∀ G2 H2 al2 μ2, Nx G H al G2 H2 al2 → As K G2 H2 al2 μ2 → S μ2 →
  (∀ i, i < ds.length → J.go i H2) ∧ (∀ i, ds.length ≤ i → J.stop i H2) ∧ ∀ i x H3, J.yld i H2 x H3 → ∀ d, ds[i]? = some d → ∃ G3, Nx G2 H2 al2 G3 H3 al2 ∧ As K G3 H3 al2 μ2 ∧ Rp K G3 al2 x d
def DI (K : PySem.W.Frag) (B : Bs) (wi : TI) (ρ : En) (μ : Mu) (P : List D → (Mu → Prop) → Mu → Prop) : Prop := ∀ σ G H al, B.le G H al → RpS K G al σ ρ → As K G H al μ → ∀ R : It → Hp → Prop,
  (∀ J ds S μ' G' H' al', Nx G H al G' H' al' → As K G' H' al' μ' → ItOk K J ds S G' H' al' → P ds S μ' → R J H') → wi σ H R
section
variable {K : PySem.W.Frag} {B : Bs} {ρ : En} {μ : Mu} {te : TE} {ts : TA} {PI' : List D → (Mu → Prop) → Mu → Prop}
theorem itl_ok {G H : Hp} {al : List Addr} {a : Addr} {ds : List D} {S : Mu → Prop} (h : ∀ G2 H2 al2 μ2, Nx G H al G2 H2 al2 → As K G2 H2 al2 μ2 → S μ2 → ∃ vs, SqL K H2 a vs ∧ Rps K G2 al2 vs ds) : ItOk K (Itl K a) ds S G H al := fun G2 H2 al2 μ2 n A s => by
  obtain ⟨vs, sq, r⟩ := h G2 H2 al2 μ2 n A s
  refine ⟨fun i hi => ⟨vs, vs[i]'(by rw [r.length]; exact hi), sq, by simp⟩, fun i hi => ⟨vs, sq, by rw [r.length]; exact hi⟩, fun i x H3 y d hd => ?_⟩
  obtain ⟨rfl, y⟩ := y
  obtain ⟨d', hd', r'⟩ := r.getV (y vs sq)
  rw [hd] at hd'; cases hd'
  exact ⟨G2, .refl, A, r'⟩
theorem di_list (h : DE K B te ρ μ fun x μ1 => (∃ ds, x = .lst ds ∧ PI' ds (fun _ => True) μ1) ∨ (∃ ds, x = .rdl ds ∧ PI' ds (fun _ => True) μ1) ∨ ∃ k ds, x = .own k ∧ μ1[k]? = some (.lst ds) ∧ PI' ds (fun μ' => μ'[k]? = some (.lst ds)) μ1) : DI K B (iList K te) ρ μ PI' := fun σ G H al hB hσ hA R hR =>
  h σ G H al hB hσ hA _ fun v d μ1 G1 H1 al1 n1 A1 r1 p1 => by
    rcases p1 with ⟨ds, rfl, p⟩ | ⟨ds, rfl, p⟩ | ⟨k, ds, rfl, hk, p⟩
    · cases r1 with
      | lst e rs => exact ⟨_, rfl, ⟨_, .inl (.inl (A1.sub _ _ e))⟩, hR _ ds _ μ1 G1 H1 al1 n1 A1 (itl_ok fun G2 H2 al2 μ2 n2 A2 _ => ⟨_, .inl (.inl (A2.sub _ _ (n2.g _ _ e))), rs.nx n2⟩) p⟩
    · cases r1 with
      | rdl e rs => exact ⟨_, rfl, ⟨_, sql_mono A1.sub e⟩, hR _ ds _ μ1 G1 H1 al1 n1 A1 (itl_ok fun G2 H2 al2 μ2 n2 A2 _ => ⟨_, sql_mono A2.sub (sql_mono n2.g e), rs.nx n2⟩) p⟩
    · obtain ⟨a, ha, ga, vs, hv, rs⟩ := A1.get hk
      cases r1 with
      | own e =>
        rw [ha] at e; cases e
        refine ⟨_, rfl, ⟨_, .inl (.inl hv)⟩, hR _ ds _ μ1 G1 H1 al1 n1 A1 (itl_ok fun G2 H2 al2 μ2 n2 A2 s => ?_) p⟩
        obtain ⟨a2, ha2, ga2, vs2, hv2, rs2⟩ := A2.get s
        rw [n2.p.get ha] at ha2; cases ha2
        exact ⟨vs2, .inl (.inl hv2), rs2⟩
theorem di_tup (h : DE K B te ρ μ fun x μ1 => ∃ ds, Ts x ds ∧ PI' ds (fun _ => True) μ1) : DI K B (iTup K te) ρ μ PI' := fun σ G H al hB hσ hA R hR =>
  h σ G H al hB hσ hA _ fun v d μ1 G1 H1 al1 n1 A1 r1 p1 => by
    obtain ⟨ds, ht, p⟩ := p1
    have key : ∃ a, v = .ref a ∧ ∃ vs, (∀ G2 H2 al2 μ2, Nx G1 H1 al1 G2 H2 al2 → As K G2 H2 al2 μ2 → SqT K H2 a vs ∧ Rps K G2 al2 vs ds) := by
      cases ht with
      | tup => cases r1 with | tup e rs => exact ⟨_, rfl, _, fun G2 H2 al2 μ2 n2 A2 => ⟨.inl (.inl (A2.sub _ _ (n2.g _ _ e))), rs.nx n2⟩⟩
      | rdt => cases r1 with | rdt e rs => exact ⟨_, rfl, _, fun G2 H2 al2 μ2 n2 A2 => ⟨sqt_mono A2.sub (sqt_mono n2.g e), rs.nx n2⟩⟩
    obtain ⟨a, rfl, vs, key⟩ := key
    refine ⟨a, rfl, ⟨vs, (key G1 H1 al1 μ1 .refl A1).1⟩, hR _ ds _ μ1 G1 H1 al1 n1 A1 (fun G2 H2 al2 μ2 n2 A2 _ => ?_) p⟩
    obtain ⟨sq, r⟩ := key G2 H2 al2 μ2 n2 A2
    refine ⟨fun i hi => ⟨vs, vs[i]'(by rw [r.length]; exact hi), sq, by simp⟩, fun i hi => ⟨vs, sq, by rw [r.length]; exact hi⟩, fun i x H3 y d hd => ?_⟩
    obtain ⟨rfl, y⟩ := y
    obtain ⟨d', hd', r'⟩ := r.getV (y vs sq)
    rw [hd] at hd'; cases hd'
    exact ⟨G2, .refl, A2, r'⟩
/-- lo, lo + 1, .. -/
def rangeD (lo : Int) (n : Nat) : List D := (List.range n).map fun (i : Nat) => D.int (lo + (i : Int))
theorem rangeD_length (lo : Int) (n : Nat) : (rangeD lo n).length = n := by simp [rangeD]
theorem rangeD_get {lo : Int} {n i : Nat} (h : i < n) : (rangeD lo n)[i]? = some (.int (lo + (i : Int))) := by simp [rangeD, h]
theorem rangeD_some {lo : Int} {n i : Nat} {d : D} (h : (rangeD lo n)[i]? = some d) : i < n ∧ d = .int (lo + (i : Int)) := by
  have hi : i < n := by
    have := (List.getElem?_eq_some_iff.mp h).1
    rw [rangeD_length] at this
    exact this
  rw [rangeD_get hi] at h
  exact ⟨hi, (Option.some.inj h).symm⟩
theorem itr_ok {lo : Int} {n : Nat} {G H : Hp} {al : List Addr} : ItOk K (Itr lo n) (rangeD lo n) (fun _ => True) G H al := fun G2 H2 al2 μ2 _ A _ => by
  refine ⟨fun i hi => by rw [rangeD_length] at hi; exact hi, fun i hi => by rw [rangeD_length] at hi; exact hi, fun i x H3 y d hd => ?_⟩
  obtain ⟨rfl, rfl⟩ := y
  obtain ⟨_, rfl⟩ := rangeD_some hd
  exact ⟨G2, .refl, A, .int _⟩
theorem di_range1 (h : DA K B ts ρ μ fun xs μ1 => ∃ n : Int, xs = [.int n] ∧ -(2 ^ 62) ≤ n ∧ n < 2 ^ 62 ∧ PI' (rangeD 0 n.toNat) (fun _ => True) μ1) : DI K B (iRng1 ts) ρ μ PI' := fun σ G H al hB hσ hA R hR =>
  h σ G H al hB hσ hA _ fun vs ds μ1 G1 H1 al1 n1 A1 r1 p1 => by
    obtain ⟨n, rfl, h1, h2, p⟩ := p1
    obtain ⟨v, rfl, r⟩ := rps1 r1
    cases r
    exact ⟨n, rfl, h1, h2, hR _ _ _ μ1 G1 H1 al1 n1 A1 itr_ok p⟩
theorem di_range2 (h : DA K B ts ρ μ fun xs μ1 => ∃ lo n : Int, xs = [.int lo, .int n] ∧ (-(2 ^ 62) ≤ lo ∧ lo < 2 ^ 62 ∧ -(2 ^ 62) ≤ n ∧ n < 2 ^ 62) ∧ PI' (rangeD lo (n - lo).toNat) (fun _ => True) μ1) : DI K B (iRng2 ts) ρ μ PI' := fun σ G H al hB hσ hA R hR =>
  h σ G H al hB hσ hA _ fun vs ds μ1 G1 H1 al1 n1 A1 r1 p1 => by
    obtain ⟨lo, n, rfl, h1, p⟩ := p1
    obtain ⟨v, w, rfl, r, r'⟩ := rps2 r1
    cases r; cases r'
    exact ⟨lo, n, rfl, h1, hR _ _ _ μ1 G1 H1 al1 n1 A1 itr_ok p⟩
/-- enumerate -/
def enumD (ds : List D) : List D := ds.mapIdx fun i d => .tup [.int (i : Int), d]
theorem enumD_length (ds : List D) : (enumD ds).length = ds.length := by simp [enumD]
theorem enumD_some {ds : List D} {i : Nat} {d : D} (h : (enumD ds)[i]? = some d) : ∃ x, ds[i]? = some x ∧ d = .tup [.int (i : Int), x] := by
  simp only [enumD, List.getElem?_mapIdx] at h
  cases q : ds[i]? with
  | none => rw [q] at h; cases h
  | some x => rw [q] at h; exact ⟨x, rfl, (Option.some.inj h).symm⟩
theorem di_enum (h : DA K B ts ρ μ fun xs μ1 => ∃ x ds, xs = [x] ∧ ((x = .lst ds ∧ PI' (enumD ds) (fun _ => True) μ1) ∨ (x = .rdl ds ∧ PI' (enumD ds) (fun _ => True) μ1) ∨ ∃ k, x = .own k ∧ μ1[k]? = some (.lst ds) ∧ PI' (enumD ds) (fun μ' => μ'[k]? = some (.lst ds)) μ1)) : DI K B (iEnum K ts) ρ μ PI' := fun σ G H al hB hσ hA R hR =>
  h σ G H al hB hσ hA _ fun vs ds μ1 G1 H1 al1 n1 A1 r1 p1 => by
    obtain ⟨x, xs, rfl, p1⟩ := p1
    obtain ⟨v, rfl, r⟩ := rps1 r1
    have key : ∃ a S, v = .ref a ∧ PI' (enumD xs) S μ1 ∧ S μ1 ∧ ∀ G2 H2 al2 μ2, Nx G1 H1 al1 G2 H2 al2 → As K G2 H2 al2 μ2 → S μ2 → ∃ vs, SqL K H2 a vs ∧ Rps K G2 al2 vs xs := by
      rcases p1 with ⟨rfl, p⟩ | ⟨rfl, p⟩ | ⟨k, rfl, hk, p⟩
      · cases r with | lst e rs => exact ⟨_, _, rfl, p, trivial, fun G2 H2 al2 μ2 n2 A2 _ => ⟨_, .inl (.inl (A2.sub _ _ (n2.g _ _ e))), rs.nx n2⟩⟩
      · cases r with | rdl e rs => exact ⟨_, _, rfl, p, trivial, fun G2 H2 al2 μ2 n2 A2 _ => ⟨_, sql_mono A2.sub (sql_mono n2.g e), rs.nx n2⟩⟩
      · obtain ⟨a, ha, ga, vs, hv, rs⟩ := A1.get hk
        cases r with
        | own e =>
          rw [ha] at e; cases e
          refine ⟨_, _, rfl, p, hk, fun G2 H2 al2 μ2 n2 A2 s => ?_⟩
          obtain ⟨a2, ha2, ga2, vs2, hv2, rs2⟩ := A2.get s
          rw [n2.p.get ha] at ha2; cases ha2
          exact ⟨vs2, .inl (.inl hv2), rs2⟩
    obtain ⟨a, S, rfl, p, s1, key⟩ := key
    obtain ⟨vs1, sq1, _⟩ := key G1 H1 al1 μ1 .refl A1 s1
    refine ⟨a, vs1, rfl, sq1, hR _ _ S μ1 G1 H1 al1 n1 A1 (fun G2 H2 al2 μ2 n2 A2 s => ?_) p⟩
    obtain ⟨vs, sq, r⟩ := key G2 H2 al2 μ2 n2 A2 s
    rw [enumD_length]
    refine ⟨fun i hi => ⟨vs, vs[i]'(by rw [r.length]; exact hi), sq, by simp⟩, fun i hi => ⟨vs, sq, by rw [r.length]; exact hi⟩, fun i x H3 y d hd => ?_⟩
    obtain ⟨T, z, rfl, hT, rfl, y⟩ := y
    obtain ⟨w, hw, rfl⟩ := enumD_some hd
    obtain ⟨d', hd', r'⟩ := r.getV (y vs sq)
    rw [hw] at hd'; cases hd'
    obtain ⟨A3, n3⟩ := A2.frz (o := .tup [.int (i : Nat), z]) hT
    exact ⟨_, n3, A3, .tup upd_same (.cons (.int _) (.cons (r'.nx n3) .nil))⟩
def zipD (xs ys : List D) : List D := xs.zipWith (fun a b => .tup [a, b]) ys
theorem zipD_length (xs ys : List D) : (zipD xs ys).length = min xs.length ys.length := by simp [zipD]
theorem zipD_some {xs ys : List D} {i : Nat} {d : D} (h : (zipD xs ys)[i]? = some d) : ∃ x y, xs[i]? = some x ∧ ys[i]? = some y ∧ d = .tup [x, y] := by
  simp only [zipD, List.getElem?_zipWith] at h
  cases q : xs[i]? with
  | none => rw [q] at h; cases h
  | some x =>
    cases q2 : ys[i]? with
    | none => rw [q, q2] at h; cases h
    | some y => rw [q, q2] at h; exact ⟨x, y, rfl, rfl, (Option.some.inj h).symm⟩
/-- zip of two frozen lists -/
theorem di_zip (h : DA K B ts ρ μ fun xs μ1 => ∃ ds es, xs = [.lst ds, .lst es] ∧ PI' (zipD ds es) (fun _ => True) μ1) : DI K B (iZip K ts) ρ μ PI' := fun σ G H al hB hσ hA R hR =>
  h σ G H al hB hσ hA _ fun vs ds μ1 G1 H1 al1 n1 A1 r1 p1 => by
    obtain ⟨xs, ys, rfl, p⟩ := p1
    obtain ⟨v, w, rfl, r, r'⟩ := rps2 r1
    cases r with
    | lst e rs => cases r' with
      | lst e' rs' =>
        refine ⟨_, _, _, _, rfl, .inl (.inl (A1.sub _ _ e)), .inl (.inl (A1.sub _ _ e')), hR _ _ _ μ1 G1 H1 al1 n1 A1 (fun G2 H2 al2 μ2 n2 A2 s => ?_) p⟩
        have q1 := A2.sub _ _ (n2.g _ _ e)
        have q2 := A2.sub _ _ (n2.g _ _ e')
        have rr := rs.nx n2
        have rr' := rs'.nx n2
        rw [zipD_length]
        refine ⟨fun i hi => ⟨_, _, _, _, .inl (.inl q1), .inl (.inl q2), List.getElem?_eq_getElem (by rw [rr.length]; omega), List.getElem?_eq_getElem (by rw [rr'.length]; omega)⟩, fun i hi => ⟨_, _, .inl (.inl q1), .inl (.inl q2), by rw [rr.length, rr'.length]; omega⟩, fun i x H3 y d hd => ?_⟩
        obtain ⟨T, z, z', rfl, hT, rfl, y1, y2⟩ := y
        obtain ⟨a, b, ha, hb, rfl⟩ := zipD_some hd
        obtain ⟨d1, hd1, k1⟩ := rr.getV (y1 _ (.inl (.inl q1)))
        obtain ⟨d2, hd2, k2⟩ := rr'.getV (y2 _ (.inl (.inl q2)))
        rw [ha] at hd1; cases hd1
        rw [hb] at hd2; cases hd2
        obtain ⟨A3, n3⟩ := A2.frz (o := .tup [z, z']) hT
        exact ⟨_, n3, A3, .tup upd_same (.cons (k1.nx n3) (.cons (k2.nx n3) .nil))⟩
/-- the signs of a text -/
def signsD (x : Str) : List D := x.cps.toList.map fun c => .str ⟨#[c]⟩
theorem di_str (h : DE K B te ρ μ fun d μ1 => ∃ x, d = .str x ∧ PI' (signsD x) (fun _ => True) μ1) : DI K B (iStr te) ρ μ PI' := fun σ G H al hB hσ hA R hR =>
  h σ G H al hB hσ hA _ fun v d μ1 G1 H1 al1 n1 A1 r1 p1 => by
    obtain ⟨x, rfl, p⟩ := p1
    cases r1
    refine ⟨x, rfl, hR _ _ _ μ1 G1 H1 al1 n1 A1 (fun G2 H2 al2 μ2 n2 A2 _ => ?_) p⟩
    have hl : (signsD x).length = x.cps.size := by simp [signsD]
    rw [hl]
    refine ⟨fun i hi => hi, fun i hi => hi, fun i y H3 hy d hd => ?_⟩
    obtain ⟨rfl, c, hc, rfl⟩ := hy
    have : d = .str ⟨#[c]⟩ := by
      simp only [signsD, List.getElem?_map, Array.getElem?_toList, hc] at hd
      exact (Option.some.inj hd).symm
    subst this
    exact ⟨G2, .refl, A2, .str _⟩

/-! ### for -/
theorem ds_for {wi : TI} {g : TG} {tb : TS} {P : DEnds} (h : DI K B wi ρ μ fun ds S μ1 => ∃ Iv : Nat → En → Mu → Prop, Iv 0 ρ μ1 ∧ (∀ i ρ' μ', i ≤ ds.length → Iv i ρ' μ' → S μ') ∧
      (∀ i d ρ' μ', ds[i]? = some d → Iv i ρ' μ' → DG K B g d ρ' μ' fun ρ2 μ2 => DS K B tb ρ2 μ2 { P with nx := Iv (i + 1), ct := Iv (i + 1), bk := P.nx }) ∧ (∀ ρ' μ', Iv ds.length ρ' μ' → P.nx ρ' μ')) : DS K B (tFor wi g tb) ρ μ P := fun σ G H al hB hσ hA De hD =>
  h σ G H al hB hσ hA _ fun J ds S μ1 G1 H1 al1 n1 A1 ok p1 => by
    obtain ⟨Iv, h0, hS, hs, hd⟩ := p1
    refine ⟨fun i m σ' H' => m = ds.length - i ∧ i ≤ ds.length ∧ ∃ G' al' ρ' μ', Nx G1 H1 al1 G' H' al' ∧ RpS K G' al' σ' ρ' ∧ As K G' H' al' μ' ∧ Iv i ρ' μ', ⟨ds.length, by simp, Nat.zero_le _, G1, al1, ρ, μ1, .refl, hσ.nx n1, A1, h0⟩, ?_⟩
    rintro i m σ' H' ⟨rfl, hi, G', al', ρ', μ', n', hσ', A', iv⟩
    obtain ⟨go, stop, yld⟩ := ok G' H' al' μ' n' A' (hS i ρ' μ' hi iv)
    by_cases hlt : i < ds.length
    · refine .inr ⟨go i hlt, fun σ2 H2 => ∃ G2 al2 ρ2 μ2, Nx G1 H1 al1 G2 H2 al2 ∧ RpS K G2 al2 σ2 ρ2 ∧ As K G2 H2 al2 μ2 ∧ Iv (i + 1) ρ2 μ2, fun σ2 H2 q => ⟨ds.length - (i + 1), by omega, rfl, hlt, q⟩, fun x H3 y => ?_⟩
      obtain ⟨G3, n3, A3, r3⟩ := yld i x H3 y _ (List.getElem?_eq_getElem hlt)
      have q := hs i _ ρ' μ' (List.getElem?_eq_getElem hlt) iv σ' G3 H3 al' x (((hB.trans n1).trans n').trans n3) (hσ'.nx n3) A3 r3
      refine q _ fun σ4 ρ4 μ4 G4 H4 al4 n4 hσ4 A4 p4 => ?_
      have nn : Nx G1 H1 al1 G4 H4 al4 := (n'.trans n3).trans n4
      exact p4 σ4 G4 H4 al4 ((hB.trans n1).trans nn) hσ4 A4 _ ⟨fun σ5 ρ5 μ5 G5 H5 al5 n5 hσ5 A5 p5 => ⟨G5, al5, ρ5, μ5, nn.trans n5, hσ5, A5, p5⟩, hD.rt.nx (n1.trans nn), hD.nx.nx (n1.trans nn), fun σ5 ρ5 μ5 G5 H5 al5 n5 hσ5 A5 p5 => ⟨G5, al5, ρ5, μ5, nn.trans n5, hσ5, A5, p5⟩⟩
    · have e : i = ds.length := by omega
      subst e
      exact .inl ⟨stop _ (Nat.le_refl _), hD.nx _ _ μ' G' H' al' (n1.trans n') hσ' A' (hd ρ' μ' iv)⟩
/-! ### while -/
theorem ds_while {c : TT} {tb : TS} {P : DEnds} (Iv : Nat → En → Mu → Prop) {m0 : Nat} (h0 : Iv m0 ρ μ)
    (hs : ∀ m ρ' μ', Iv m ρ' μ' → DT K B c ρ' μ' fun b μ1 => (b = true → DS K B tb ρ' μ1 { P with nx := fun ρ2 μ2 => ∃ m', m' < m ∧ Iv m' ρ2 μ2, ct := fun ρ2 μ2 => ∃ m', m' < m ∧ Iv m' ρ2 μ2, bk := P.nx }) ∧ (b = false → P.nx ρ' μ1)) : DS K B (tWhile c tb) ρ μ P := fun σ G H al hB hσ hA De hD => by
  refine ⟨fun m σ' H' => ∃ G' al' ρ' μ', Nx G H al G' H' al' ∧ RpS K G' al' σ' ρ' ∧ As K G' H' al' μ' ∧ Iv m ρ' μ', ⟨m0, G, al, ρ, μ, .refl, hσ, hA, h0⟩, ?_⟩
  rintro m σ' H' ⟨G', al', ρ', μ', n', hσ', A', iv⟩
  refine hs m ρ' μ' iv σ' G' H' al' (hB.trans n') hσ' A' _ fun b μ1 G1 H1 al1 n1 A1 p1 => ?_
  have nn := n'.trans n1
  cases b with
  | true =>
    rw [if_pos rfl]
    refine ⟨fun σ2 H2 => ∃ m', m' < m ∧ ∃ G2 al2 ρ2 μ2, Nx G H al G2 H2 al2 ∧ RpS K G2 al2 σ2 ρ2 ∧ As K G2 H2 al2 μ2 ∧ Iv m' ρ2 μ2, fun σ2 H2 q => q, ?_⟩
    exact p1.1 rfl σ' G1 H1 al1 (hB.trans nn) (hσ'.nx n1) A1 _ ⟨fun σ5 ρ5 μ5 G5 H5 al5 n5 hσ5 A5 ⟨m', lt, p5⟩ => ⟨m', lt, G5, al5, ρ5, μ5, nn.trans n5, hσ5, A5, p5⟩, hD.rt.nx nn, hD.nx.nx nn, fun σ5 ρ5 μ5 G5 H5 al5 n5 hσ5 A5 ⟨m', lt, p5⟩ => ⟨m', lt, G5, al5, ρ5, μ5, nn.trans n5, hσ5, A5, p5⟩⟩
  | false =>
    rw [if_neg (by simp)]
    exact hD.nx _ _ μ1 G1 H1 al1 nn (hσ'.nx n1) A1 (p1.2 rfl)
end

/-! ### comprehensions -/
def wipeD (ρ : En) : List Nat → En
  | [] => ρ
  | v :: vs => (wipeD ρ vs).set v none
theorem wipe_rps {K : PySem.W.Frag} {G : Hp} {al : List Addr} {σ : St} {ρ : En} (h : RpS K G al σ ρ) : ∀ vs : List Nat, RpS K G al (wipe σ vs) (wipeD ρ vs)
  | [] => h
  | v :: vs => (wipe_rps h vs).forget v none
theorem wipe_set {σ : St} {j : Nat} {x : Option V} : ∀ {vs : List Nat}, j ∈ vs → wipe (σ.set j x) vs = wipe σ vs
  | [], h => by simp at h
  | v :: vs, h => by
    by_cases hv : j ∈ vs
    · unfold wipe; rw [wipe_set hv]
    · have e : j = v := by simpa [hv] using h
      subst e
      have q : ∀ (ws : List Nat), j ∉ ws → wipe (σ.set j x) ws = (wipe σ ws).set j x := by
        intro ws
        induction ws with
        | nil => intro _; rfl
        | cons w ws ih =>
          intro hn
          simp only [List.mem_cons, not_or] at hn
          unfold wipe
          rw [ih hn.2, List.set_comm _ _ (fun z => hn.1 z)]
      unfold wipe
      rw [q vs hv, List.set_set]
theorem wipe_wipe (σ : St) : ∀ vs ws : List Nat, (∀ w ∈ ws, w ∈ vs) → wipe (wipe σ ws) vs = wipe σ vs
  | vs, [], _ => rfl
  | vs, w :: ws, h => by
    show wipe ((wipe σ ws).set w none) vs = wipe σ vs
    rw [wipe_set (h w (by simp)), wipe_wipe σ vs ws fun x hx => h x (by simp [hx])]
/-- a target that stores in vs alone -/
def GW (g : TG) (vs : List Nat) : Prop := ∀ x σ H (Q : St → Hp → Prop), g x σ H Q → g x σ H fun σ2 H2 => wipe σ2 vs = wipe σ vs ∧ Q σ2 H2
def GWs (g : TGs) (vs : List Nat) : Prop := ∀ xs σ H (Q : St → Hp → Prop), g xs σ H Q → g xs σ H fun σ2 H2 => wipe σ2 vs = wipe σ vs ∧ Q σ2 H2
theorem gw_name {i : Nat} {vs : List Nat} (h : i ∈ vs) : GW (gName i) vs := fun x σ H Q q => ⟨wipe_set h, q⟩
theorem gws_nil {vs : List Nat} : GWs gNil vs := fun xs σ H Q q => ⟨q.1, rfl, q.2⟩
theorem gws_cons {i : Nat} {gs : TGs} {vs : List Nat} (h : i ∈ vs) (h2 : GWs gs vs) : GWs (gCons (gName i) gs) vs := fun xs σ H Q q => by
  obtain ⟨v, r, e, q⟩ := q
  refine ⟨v, r, e, ?_⟩
  have z := h2 r (σ.set i (some v)) H Q q
  rw [show wipe (σ.set i (some v)) vs = wipe σ vs from wipe_set h] at z
  exact z
theorem gw_tup {K : PySem.W.Frag} {n : Nat} {gs : TGs} {vs : List Nat} (h : GWs gs vs) : GW (gTup K n gs) vs := fun x σ H Q q => by
  obtain ⟨a, xs, e, s, l, q⟩ := q
  exact ⟨a, xs, e, s, l, h xs σ H Q q⟩
section
variable {K : PySem.W.Frag} {B : Bs} {ρ : En} {μ : Mu} {te : TE} {tt : TT} {wi : TI} {g : TG} {vs : List Nat} {P : D → Mu → Prop}
/-- the list that a comprehension makes is frozen at its end -/
theorem de_lc (hg : GW g vs) (h : DI K B wi ρ μ fun ds S μ1 => ds.length ≤ 100000 ∧ ∃ Iv : Nat → List D → Mu → Prop, Iv 0 [] μ1 ∧ (∀ i acc μ', i ≤ ds.length → Iv i acc μ' → S μ') ∧
      (∀ i d acc μ', ds[i]? = some d → Iv i acc μ' → DG K B g d (wipeD ρ vs) μ' fun ρ2 μ2 => DT K B tt ρ2 μ2 fun b μ3 => (b = true → DE K B te ρ2 μ3 fun y μ4 => Iv (i + 1) (acc ++ [y]) μ4) ∧ (b = false → Iv (i + 1) acc μ3)) ∧
      (∀ acc μ', Iv ds.length acc μ' → P (.lst acc) μ')) : DE K B (tLc wi g tt te vs) ρ μ P := fun σ G H al hB hσ hA Q hQ =>
  h σ G H al hB hσ hA _ fun J ds S μ1 G1 H1 al1 n1 A1 ok p1 => by
    obtain ⟨hlen, Iv, h0, hS, hs, hd⟩ := p1
    intro Dl hDl
    have nDl : Dl ∉ al1 := fun m => A1.here Dl m hDl
    have gDl : G1 Dl = none := A1.sub.free hDl
    -- a store to the list that is made
    have store : ∀ {G' H' al' μ' ac}, Nx G1 H1 al1 G' H' al' → As K G' H' al' μ' → G' Dl = none → Dl ∉ al' → As K G' (upd H' Dl (.lst ac)) al' μ' ∧ Nx G1 H1 al1 G' (upd H' Dl (.lst ac)) al' := by
      intro G' H' al' μ' ac n A g' nal
      refine ⟨⟨fun b u e => by rw [upd_ne (ne_of_none e g')]; exact A.sub _ _ e, A.nd, A.len, fun a m => ?_, fun k a o e1 e2 => ?_⟩, ⟨n.g, n.p, fun a u h m => ?_, n.out, n.new⟩⟩
      · have z : a ≠ Dl := fun z => nal (z ▸ m)
        rw [upd_ne z]; exact A.here a m
      · have z : a ≠ Dl := fun z => nal (z ▸ List.mem_of_getElem? e1)
        exact OkO.mono (Same.refl _) (Pre.refl _) (fun _ g => g) (by rw [upd_ne z]) (A.ok k a o e1 e2)
      · rw [upd_ne (ne_of_none h hDl)]; exact n.keep a u h m
    -- Dl stays where it is through a step
    have stay : ∀ {G' H' al' G'' H'' al'' u}, Nx G' H' al' G'' H'' al'' → H' Dl = some u → G' Dl = none → Dl ∉ al' → H'' Dl = some u ∧ G'' Dl = none ∧ Dl ∉ al'' := by
      intro G' H' al' G'' H'' al'' u n h g' nal
      refine ⟨n.keep Dl u h nal, n.out Dl (by rw [h]; simp) nal g', fun m => ?_⟩
      rcases n.new Dl m with z | z
      · exact nal z
      · rw [h] at z; cases z
    obtain ⟨A0, N0⟩ := store (ac := []) .refl A1 gDl nDl
    refine ⟨fun i m H' => m = ds.length - i ∧ i ≤ ds.length ∧ ∃ G' al' μ' acc vacc, Nx G1 H1 al1 G' H' al' ∧ As K G' H' al' μ' ∧ H' Dl = some (.lst vacc) ∧ Rps K G' al' vacc acc ∧ G' Dl = none ∧ Dl ∉ al' ∧ acc.length ≤ i ∧ Iv i acc μ',
      ⟨ds.length, by simp, Nat.zero_le _, G1, al1, μ1, [], [], N0, A0, upd_same, .nil, gDl, nDl, Nat.le_refl _, h0⟩, ?_⟩
    rintro i m H' ⟨rfl, hi, G', al', μ', acc, vacc, n', A', hv, rv, g', nal, hacc, iv⟩
    obtain ⟨go, stop, yld⟩ := ok G' H' al' μ' n' A' (hS i acc μ' hi iv)
    by_cases hlt : i < ds.length
    · refine .inr ⟨go i hlt, fun H2 => ∃ G2 al2 μ2 acc vacc, Nx G1 H1 al1 G2 H2 al2 ∧ As K G2 H2 al2 μ2 ∧ H2 Dl = some (.lst vacc) ∧ Rps K G2 al2 vacc acc ∧ G2 Dl = none ∧ Dl ∉ al2 ∧ acc.length ≤ i + 1 ∧ Iv (i + 1) acc μ2, fun H2 q => ⟨ds.length - (i + 1), by omega, rfl, hlt, q⟩, fun x H3 y => ?_⟩
      obtain ⟨G3, n3, A3, r3⟩ := yld i x H3 y _ (List.getElem?_eq_getElem hlt)
      obtain ⟨hv3, g3, nal3⟩ := stay n3 hv g' nal
      have nn3 := n'.trans n3
      have hw : RpS K G3 al' (wipe σ vs) (wipeD ρ vs) := wipe_rps ((hσ.nx n1).nx nn3) vs
      have q := hs i _ acc μ' (List.getElem?_eq_getElem hlt) iv (wipe σ vs) G3 H3 al' x (((hB.trans n1).trans n').trans n3) hw A3 r3
      have q2 := hg x (wipe σ vs) H3 _ (q (fun σ2 H2 => tt σ2 H2 fun b H3 => if b = true then te σ2 H3 fun y H4 => ∃ acc, H4 Dl = some (.lst acc) ∧ acc.length < sizeLine ∧ (∃ G2 al2 μ2 acc' vacc, Nx G1 H1 al1 G2 (upd H4 Dl (.lst (acc ++ [y]))) al2 ∧ As K G2 (upd H4 Dl (.lst (acc ++ [y]))) al2 μ2 ∧ (upd H4 Dl (.lst (acc ++ [y]))) Dl = some (.lst vacc) ∧ Rps K G2 al2 vacc acc' ∧ G2 Dl = none ∧ Dl ∉ al2 ∧ acc'.length ≤ i + 1 ∧ Iv (i + 1) acc' μ2)
          else (∃ G2 al2 μ2 acc' vacc, Nx G1 H1 al1 G2 H3 al2 ∧ As K G2 H3 al2 μ2 ∧ H3 Dl = some (.lst vacc) ∧ Rps K G2 al2 vacc acc' ∧ G2 Dl = none ∧ Dl ∉ al2 ∧ acc'.length ≤ i + 1 ∧ Iv (i + 1) acc' μ2)) fun σ4 ρ4 μ4 G4 H4 al4 n4 hσ4 A4 p4 => ?_)
      · rw [wipe_wipe σ vs vs fun _ h => h] at q2
        exact q2
      · obtain ⟨hv4, g4, nal4⟩ := stay n4 hv3 g3 nal3
        have nn4 := nn3.trans n4
        refine p4 σ4 G4 H4 al4 ((hB.trans n1).trans nn4) hσ4 A4 _ fun b μ5 G5 H5 al5 n5 A5 p5 => ?_
        obtain ⟨hv5, g5, nal5⟩ := stay n5 hv4 g4 nal4
        have nn5 := nn4.trans n5
        cases b with
        | false =>
          rw [if_neg (by simp)]
          exact ⟨G5, al5, μ5, acc, vacc, nn5, A5, hv5, (((rv.nx n3).nx n4).nx n5), g5, nal5, Nat.le_succ_of_le hacc, p5.2 rfl⟩
        | true =>
          rw [if_pos rfl]
          refine p5.1 rfl σ4 G5 H5 al5 ((hB.trans n1).trans nn5) (hσ4.nx n5) A5 _ fun yv y μ6 G6 H6 al6 n6 A6 r6 p6 => ?_
          obtain ⟨hv6, g6, nal6⟩ := stay n6 hv5 g5 nal5
          have rv6 := (((rv.nx n3).nx n4).nx n5).nx n6
          obtain ⟨A7, n7⟩ := store (ac := vacc ++ [yv]) (nn5.trans n6) A6 g6 nal6
          refine ⟨vacc, hv6, ?_, G6, al6, μ6, acc ++ [y], vacc ++ [yv], n7, A7, upd_same, rv6.append (.cons r6 .nil), g6, nal6, by simp; omega, p6⟩
          rw [rv6.length]
          exact Nat.lt_of_lt_of_le (Nat.lt_of_le_of_lt hacc (Nat.lt_of_lt_of_le hlt hlen)) (by decide)
    · have e : i = ds.length := by omega
      subst e
      refine .inl ⟨stop _ (Nat.le_refl _), ?_⟩
      have s1 : Same G' (upd G' Dl (.lst vacc)) := fun b u e => by rw [upd_ne (ne_of_none e g')]; exact e
      have A7 : As K (upd G' Dl (.lst vacc)) H' al' μ' := by
        refine ⟨fun b u e => ?_, A'.nd, A'.len, A'.here, fun k a o e1 e2 => ?_⟩
        · by_cases hb : b = Dl
          · subst hb; rw [upd_same] at e; rw [← e]; exact hv
          · rw [upd_ne hb] at e; exact A'.sub _ _ e
        · have z : a ≠ Dl := fun z => nal (z ▸ List.mem_of_getElem? e1)
          exact OkO.mono s1 (Pre.refl _) (fun _ g => by rw [upd_ne z]; exact g) rfl (A'.ok k a o e1 e2)
      have n7 : Nx G1 H1 al1 (upd G' Dl (.lst vacc)) H' al' := ⟨n'.g.trans s1, n'.p, n'.keep, fun a h m g => by
        have z : a ≠ Dl := fun z => h (by rw [z]; exact hDl)
        rw [upd_ne z]; exact n'.out a h m g, n'.new⟩
      exact hQ _ _ _ _ _ _ (n1.trans n7) A7 (.lst upd_same (rv.mono s1 (Pre.refl _))) (hd acc μ' iv)
theorem dt_yes {PT' : Bool → Mu → Prop} (h : PT' true μ) : DT K B tYes ρ μ PT' := fun σ G H al hB hσ hA Q hQ => hQ true μ G H al .refl hA h
end
end Dl

set_option Elab.async false
set_option linter.all false
set_option maxRecDepth 100000
namespace Dl
open PySem L2 PyProof.Rows

/-! ### what names no thing from the n-th on -/
mutual
def D.cl : D → Nat → Bool
  | .tup xs, n => clL xs n
  | .lst xs, n => clL xs n
  | .rdl xs, n => clL xs n
  | .rdt xs, n => clL xs n
  | .obj _ gs, n => clF gs n
  | .exc _ gs, n => clF gs n
  | .dct gs, n => clK gs n
  | .own k, n => decide (k < n)
  | .non, _ => true
  | .bl _, _ => true
  | .int _, _ => true
  | .str _, _ => true
  | .ty _, _ => true
  | .loc _, _ => true
def clL : List D → Nat → Bool
  | [], _ => true
  | x :: xs, n => D.cl x n && clL xs n
def clF : List (Str × D) → Nat → Bool
  | [], _ => true
  | (_, x) :: xs, n => D.cl x n && clF xs n
def clK : List (Key × D) → Nat → Bool
  | [], _ => true
  | (_, x) :: xs, n => D.cl x n && clK xs n
end
def MO.cl : MO → Nat → Bool
  | .dead, _ => true
  | .lst xs, n => clL xs n
  | .ins _ gs, n => clF gs n
  | .dK gs, n => clK gs n
  | .dT gs, n => clL (gs.map (·.2)) n
  | .tab _ _, _ => true
theorem clL_iff {xs : List D} {n : Nat} : clL xs n = true ↔ ∀ x ∈ xs, x.cl n = true := by
  induction xs with
  | nil => simp [clL]
  | cons x xs ih => simp [clL, ih]
theorem clL_map {α : Type} {f : α → D} {xs : List α} {n : Nat} (h : ∀ x ∈ xs, (f x).cl n = true) : clL (xs.map f) n = true := by
  rw [clL_iff]
  intro x hx
  obtain ⟨a, ha, rfl⟩ := List.mem_map.mp hx
  exact h a ha
@[simp] theorem clL_append {xs ys : List D} {n : Nat} : clL (xs ++ ys) n = (clL xs n && clL ys n) := by
  induction xs with
  | nil => simp [clL]
  | cons x xs ih => simp [clL, ih, Bool.and_assoc]
section
variable {K : PySem.W.Frag} {G : Hp} {al be : List Addr}
mutual
theorem Rp.cl : ∀ {v : V} {d : D}, Rp K G al v d → d.cl al.length = true
  | _, _, .non => by simp [D.cl]
  | _, _, .bl _ => by simp [D.cl]
  | _, _, .int _ => by simp [D.cl]
  | _, _, .str _ => by simp [D.cl]
  | _, _, .ty _ => by simp [D.cl]
  | _, _, .tup _ r => by unfold D.cl; exact Rps.cl r
  | _, _, .lst _ r => by unfold D.cl; exact Rps.cl r
  | _, _, .rdl _ r => by unfold D.cl; exact Rps.cl r
  | _, _, .rdt _ r => by unfold D.cl; exact Rps.cl r
  | _, _, .obj _ r => by unfold D.cl; exact Rpf.cl r
  | _, _, .dct _ r => by unfold D.cl; exact Rpk.cl r
  | _, _, .own h => by unfold D.cl; exact decide_eq_true (List.getElem?_eq_some_iff.mp h).1
  | _, _, .loc _ => by simp [D.cl]
  | _, _, .exc _ _ r => by unfold D.cl; exact Rpf.cl r
theorem Rps.cl : ∀ {v : List V} {d : List D}, Rps K G al v d → clL d al.length = true
  | _, _, .nil => by simp [clL]
  | _, _, .cons h r => by unfold clL; rw [Rp.cl h, Rps.cl r]; rfl
theorem Rpf.cl : ∀ {v : List (Str × V)} {d : List (Str × D)}, Rpf K G al v d → clF d al.length = true
  | _, _, .nil => by simp [clF]
  | _, _, .cons h r => by unfold clF; rw [Rp.cl h, Rpf.cl r]; rfl
theorem Rpk.cl : ∀ {v : List (Key × V)} {d : List (Key × D)}, Rpk K G al v d → clK d al.length = true
  | _, _, .nil => by simp [clK]
  | _, _, .cons h r => by unfold clK; rw [Rp.cl h, Rpk.cl r]; rfl
end
mutual
theorem Rp.shrink : ∀ {v : V} {d : D}, Rp K G (al ++ be) v d → d.cl al.length = true → Rp K G al v d
  | _, _, .non, _ => .non
  | _, _, .bl b, _ => .bl b
  | _, _, .int i, _ => .int i
  | _, _, .str x, _ => .str x
  | _, _, .ty x, _ => .ty x
  | _, _, .tup e r, h => .tup e (Rps.shrink r (by unfold D.cl at h; exact h))
  | _, _, .lst e r, h => .lst e (Rps.shrink r (by unfold D.cl at h; exact h))
  | _, _, .rdl e r, h => .rdl e (Rps.shrink r (by unfold D.cl at h; exact h))
  | _, _, .rdt e r, h => .rdt e (Rps.shrink r (by unfold D.cl at h; exact h))
  | _, _, .obj e r, h => .obj e (Rpf.shrink r (by unfold D.cl at h; exact h))
  | _, _, .dct e r, h => .dct e (Rpk.shrink r (by unfold D.cl at h; exact h))
  | _, _, .own e, h => .own (by
      unfold D.cl at h
      rw [List.getElem?_append_left (of_decide_eq_true h)] at e
      exact e)
  | _, _, .loc a, _ => .loc a
  | _, _, .exc e d r, h => .exc e d (Rpf.shrink r (by unfold D.cl at h; exact h))
theorem Rps.shrink : ∀ {v : List V} {d : List D}, Rps K G (al ++ be) v d → clL d al.length = true → Rps K G al v d
  | _, _, .nil, _ => .nil
  | _, _, .cons r t, h => by
    unfold clL at h; simp at h
    exact .cons (Rp.shrink r h.1) (Rps.shrink t h.2)
theorem Rpf.shrink : ∀ {v : List (Str × V)} {d : List (Str × D)}, Rpf K G (al ++ be) v d → clF d al.length = true → Rpf K G al v d
  | _, _, .nil, _ => .nil
  | _, _, .cons r t, h => by
    unfold clF at h; simp at h
    exact .cons (Rp.shrink r h.1) (Rpf.shrink t h.2)
theorem Rpk.shrink : ∀ {v : List (Key × V)} {d : List (Key × D)}, Rpk K G (al ++ be) v d → clK d al.length = true → Rpk K G al v d
  | _, _, .nil, _ => .nil
  | _, _, .cons r t, h => by
    unfold clK at h; simp at h
    exact .cons (Rp.shrink r h.1) (Rpk.shrink t h.2)
end
end
def MuCl (μ : Mu) (n : Nat) : Prop := ∀ o ∈ μ, o.cl n = true
section
variable {K : PySem.W.Frag} {G H : Hp} {al be : List Addr} {μ ext : Mu}
theorem As.cl (A : As K G H al μ) : MuCl μ μ.length := fun o ho => by
  obtain ⟨k, hk⟩ := List.getElem?_of_mem ho
  obtain ⟨a, ha, ok⟩ := A.get hk
  rw [← A.len]
  cases o with
  | dead => rfl
  | lst ds => obtain ⟨_, _, _, r⟩ := ok; exact r.cl
  | ins C gs => obtain ⟨_, _, _, _, r⟩ := ok; exact r.cl
  | dK gs => obtain ⟨_, _, _, r⟩ := ok; exact r.cl
  | dT gs => obtain ⟨_, _, _, _, r⟩ := ok; exact r.cl
  | tab _ _ => rfl
theorem As.shrink (A : As K G H (al ++ be) (μ ++ ext)) (hl : al.length = μ.length) (hc : MuCl μ μ.length) : As K G H al μ := by
  refine ⟨A.sub, (List.nodup_append.mp A.nd).1, hl, fun a m => A.here a (List.mem_append_left _ m), fun k a o e1 e2 => ?_⟩
  have hk : k < al.length := (List.getElem?_eq_some_iff.mp e1).1
  have ok := A.ok k a o (by rw [List.getElem?_append_left hk]; exact e1) (by rw [List.getElem?_append_left (by rw [← hl]; exact hk)]; exact e2)
  have c := hc o (List.mem_of_getElem? e2)
  rw [← hl] at c
  cases o with
  | dead => trivial
  | lst ds => obtain ⟨g, vs, e, r⟩ := ok; exact ⟨g, vs, e, r.shrink c⟩
  | ins C gs => obtain ⟨g, dx, vs, e, r⟩ := ok; exact ⟨g, dx, vs, e, r.shrink c⟩
  | dK gs => obtain ⟨g, vs, e, r⟩ := ok; exact ⟨g, vs, e, r.shrink c⟩
  | dT gs => obtain ⟨g, vs, e, q, r⟩ := ok; exact ⟨g, vs, e, q, r.shrink c⟩
  | tab _ _ => exact ok
theorem Nx.shrink {G' H' : Hp} {al' : List Addr} (n : Nx G H al G' H' (al ++ al')) : Nx G H al G' H' al := ⟨n.g, Pre.refl _, n.keep, n.out, fun a m => .inl m⟩
end

/-! ### exceptions -/
abbrev PXT := Addr → List (Str × D) → Mu → Prop
/-- the own dict of an exception, frozen -/
def XRep (K : PySem.W.Frag) (G : Hp) (al : List Addr) (dd : Option Addr) (fs : List (Str × D)) : Prop := (dd = none ∧ fs = []) ∨ ∃ d vs, dd = some d ∧ G d = some (.xd vs) ∧ Rpf K G al vs fs
def XAg (K : PySem.W.Frag) (B : Bs) (PX : PXT) (E : XK) : Prop := ∀ C fs dd μ' G' H' al', B.le G' H' al' → As K G' H' al' μ' → XRep K G' al' dd fs → PX C fs μ' → E (.ref C) dd H'
theorem XAg.nx {K : PySem.W.Frag} {B : Bs} {PX : PXT} {E : XK} {G H : Hp} {al : List Addr} (n : B.le G H al) (h : XAg K B PX E) : XAg K ⟨G, H, al⟩ PX E := fun C fs dd μ' G' H' al' n' A r p => h C fs dd μ' G' H' al' (n.trans n') A r p
theorem XAg.none {K : PySem.W.Frag} {B : Bs} {E : XK} : XAg K B (fun _ _ _ => False) E := fun _ _ _ _ _ _ _ _ _ _ p => p.elim
theorem Rpf.nx {K : PySem.W.Frag} {G H G1 H1 : Hp} {al al1 : List Addr} (n : Nx G H al G1 H1 al1) {v : List (Str × V)} {d : List (Str × D)} (h : Rpf K G al v d) : Rpf K G1 al1 v d := h.mono n.g n.p
/-! ### contracts -/
abbrev CT := List D → Mu → (D → Mu → Prop) → PXT → Prop
def spD (K : PySem.W.Frag) (C : CT) : Sp := fun vs H Q E => ∃ G al ds μ P PX, As K G H al μ ∧ Rps K G al vs ds ∧ C ds μ P PX ∧ KV K G H al P Q ∧ XAg K ⟨G, H, al⟩ PX E
/-- behind a call: the callee's own things are forgotten, but those that are handed on -/
def Ret (n : Nat) (P : D → Mu → Prop) (d : D) (μ' : Mu) : Prop := ∃ μ1 ext, μ' = μ1 ++ ext ∧ n ≤ μ1.length ∧ MuCl μ1 μ1.length ∧ d.cl μ1.length = true ∧ P d μ1
def RetX (n : Nat) (PX : PXT) : PXT := fun C fs μ' => ∃ μ1 ext, μ' = μ1 ++ ext ∧ μ1.length = n ∧ MuCl μ1 n ∧ clF fs n = true ∧ PX C fs μ1
theorem XAg.ret {K : PySem.W.Frag} {G1 H1 G2 H2 : Hp} {al1 al2 : List Addr} {PX : PXT} {E : XK} (h : XAg K ⟨G1, H1, al1⟩ PX E) (n2 : Nx G1 H1 al1 G2 H2 al2) : XAg K ⟨G2, H2, al2⟩ (RetX al1.length PX) E := by
  intro C fs dd μ' G' H' al' n A' xr ⟨μ1, ext, e, hl, hcl, hf, hp⟩
  have n' : Nx G1 H1 al1 G' H' al' := n2.trans n
  obtain ⟨be, rfl⟩ := n'.p
  subst e
  refine h C fs dd μ1 G' H' al1 n'.shrink (A'.shrink hl.symm (by rw [hl]; exact hcl)) ?_ hp
  rcases xr with ⟨h1, h2⟩ | ⟨d, vs, h1, h2, h3⟩
  · exact .inl ⟨h1, h2⟩
  · exact .inr ⟨d, vs, h1, h2, h3.shrink hf⟩
def fnE (n : Nat) (P : D → Mu → Prop) : DEnds := { nx := fun _ μ' => Ret n P .non μ', rt := Ret n P }
theorem ret_same {μ ext : Mu} {n : Nat} {P : D → Mu → Prop} {d : D} (hn : n ≤ μ.length) (hc : MuCl μ μ.length) (hd : d.cl μ.length = true) (h : P d μ) : Ret n P d (μ ++ ext) := ⟨μ, ext, rfl, hn, hc, hd, h⟩
theorem ret_same0 {μ : Mu} {n : Nat} {P : D → Mu → Prop} {d : D} (hn : n ≤ μ.length) (hc : MuCl μ μ.length) (hd : d.cl μ.length = true) (h : P d μ) : Ret n P d μ := ⟨μ, [], by simp, hn, hc, hd, h⟩
theorem retx_same0 {μ : Mu} {PX : PXT} {C : Addr} {fs : List (Str × D)} (hc : MuCl μ μ.length) (hd : clF fs μ.length = true) (h : PX C fs μ) : RetX μ.length PX C fs μ := ⟨μ, [], by simp, rfl, hc, hd, h⟩
theorem MuCl.set {μ : Mu} {n k : Nat} {o : MO} (h : MuCl μ n) (ho : o.cl n = true) : MuCl (μ.set k o) n := fun x hx => by
  rcases List.mem_or_eq_of_mem_set hx with m | e
  · exact h x m
  · subst e; exact ho
theorem MuCl.get {μ : Mu} {n k : Nat} {o : MO} (h : MuCl μ n) (e : μ[k]? = some o) : o.cl n = true := h o (List.mem_of_getElem? e)
def startD (N : List Str) (ds : List D) : En := ds.map some ++ List.replicate (N.length - ds.length) none
theorem start_rp {K : PySem.W.Frag} {G : Hp} {al : List Addr} {N : List Str} {vs : List V} {ds : List D} (h : Rps K G al vs ds) : RpS K G al (L2.start N vs) (startD N ds) := by
  have hl := h.length
  refine ⟨by simp [L2.start, startD, hl], fun i d e => ?_⟩
  unfold startD at e
  unfold L2.start
  by_cases hi : i < ds.length
  · rw [List.getElem?_append_left (by simpa using hi), List.getElem?_map] at e
    cases q : ds[i]? with
    | none => rw [q] at e; cases e
    | some x =>
      rw [q] at e
      have ex : x = d := by simpa using e
      subst ex
      obtain ⟨v, hv, r⟩ := h.get q
      refine ⟨v, ?_, r⟩
      rw [List.getElem?_append_left (by simp [hl, hi]), List.getElem?_map, hv]
      rfl
  · rw [List.getElem?_append_right (by simp; omega), List.getElem?_replicate] at e
    split at e <;> simp at e
section
variable {P : Program} {w : World} {K : PySem.W.Frag} {mg : Str → Option Value} {base : Heap}
theorem sem_of {C : CT} {N : List Str} {t : XK → TS} (hn : ∀ ds μ P PX, C ds μ P PX → ds.length ≤ N.length) (sem : ∀ ds μ P PX, C ds μ P PX → MuCl μ μ.length → clL ds μ.length = true → ∀ B E, XAg K B (RetX μ.length PX) E → DS K B (t E) (startD N ds) μ (fnE μ.length P))
    {vs : List V} {H : Hp} {Q : VK} {E : XK} (h : spD K C vs H Q E) : t E { nx := fun _ H' => Q .non H', rt := Q } (L2.start N vs) H := by
  obtain ⟨G, al, ds, μ, P, PX, A, r, c, hQ, hX⟩ := h
  have hc := A.cl
  have sh : ∀ {v : V} {d : D} {μ' : Mu} {G' H' : Hp} {al' : List Addr}, Nx G H al G' H' al' → As K G' H' al' μ' → Rp K G' al' v d → Ret μ.length P d μ' → Q v H' := by
    intro v d μ' G' H' al' n A' rv ⟨μ1, ext, e, hl, hcl, hd, hp⟩
    subst e
    have hlen : μ1.length ≤ al'.length := by rw [A'.len]; simp
    have e1 : al' = al'.take μ1.length ++ al'.drop μ1.length := (List.take_append_drop _ _).symm
    have l1 : (al'.take μ1.length).length = μ1.length := by rw [List.length_take]; omega
    have pre : Pre al (al'.take μ1.length) := by
      obtain ⟨be, e2⟩ := n.p
      refine ⟨(be.take (μ1.length - al.length)), ?_⟩
      rw [e2, List.take_append]
      rw [List.take_of_length_le (by rw [A.len]; exact hl)]
    have n1 : Nx G H al G' H' (al'.take μ1.length) := ⟨n.g, pre, n.keep, n.out, fun a m => n.new a (List.mem_of_mem_take m)⟩
    rw [e1] at A' rv
    exact hQ v d μ1 G' H' _ n1 (A'.shrink l1 hcl) (rv.shrink (by rw [l1]; exact hd)) hp
  refine sem ds μ P PX c hc (by rw [← A.len]; exact r.cl) ⟨G, H, al⟩ E ?_ _ G H al .refl (start_rp r) A _ ⟨fun σ' ρ' μ' G' H' al' n hσ A' p => sh n A' .non p, fun v d μ' G' H' al' n A' rv p => sh n A' rv p, fun _ _ _ _ _ _ _ _ _ p => p.elim, fun _ _ _ _ _ _ _ _ _ p => p.elim⟩
  rw [← A.len]
  exact hX.ret .refl
/-- THE RULE for a def: its body as a reading t, and what t does to data -/
theorem fn_D {x qual : Str} {st : Stmt} {f : Addr} {fd : FuncData} {N ps : List Str} {k : Nat} {C : CT} {t : XK → TS} (F : Fun K x qual st f fd) (S : FnScope N ps (defScope st)) (len : ∀ ds μ P PX, C ds μ P PX → ds.length = ps.length) (hN : ps.length ≤ N.length)
    (body : ∀ (cdv : Value) (A : Around) (outer : List Env) (s : Shared) (H : Hp) (E : XK), Room k (A.deeper (envOfC qual (defScope st) s.heap.objs.size f cdv)) → PSs (cxOf (L2.CX P w) P w K mg base N qual (defScope st) f cdv A outer s H E) (defBody st) (t E))
    (sem : ∀ ds μ P PX, C ds μ P PX → MuCl μ μ.length → clL ds μ.length = true → ∀ B E, XAg K B (RetX μ.length PX) E → DS K B (t E) (startD N ds) μ (fnE μ.length P)) : FnOk P w K mg base (L2.CX P w) (k + 1) f fd ps (spD K C) := by
  refine F.okX S (fun vs H Q E h => ?_) (fun cdv A outer s H vs Q E hr h => ⟨t E, body cdv A outer s H E hr, sem_of (fun ds μ P PX c => by rw [len ds μ P PX c]; exact hN) sem h⟩)
  obtain ⟨G, al, ds, μ, P, PX, A, r, c, _⟩ := h
  rw [r.length]
  exact len ds μ P PX c
end
/-! ### calls -/
section
variable {K : PySem.W.Frag} {B : Bs} {ρ : En} {μ : Mu} {te : TE} {ts : TA} {P : D → Mu → Prop} {PX : PXT} {E : XK} {C : CT} {dvs : List V} {dds : List D}
theorem de_call (hE : XAg K B PX E) (h : DA K B ts ρ μ fun ds μ1 => C ds μ1 P PX) : DE K B (tCall (spD K C) [] E ts) ρ μ P := fun σ G H al hB hσ hA Q hQ =>
  h σ G H al hB hσ hA _ fun vs ds μ1 G1 H1 al1 n1 A1 r1 p1 => by
    rw [List.append_nil]
    exact ⟨G1, al1, ds, μ1, P, PX, A1, r1, p1, hQ.nx n1, hE.nx (hB.trans n1)⟩
theorem de_callD (hd : ∀ G al, Rps K G al dvs dds) (hE : XAg K B PX E) (h : DA K B ts ρ μ fun ds μ1 => C (ds ++ dds) μ1 P PX) : DE K B (tCall (spD K C) dvs E ts) ρ μ P := fun σ G H al hB hσ hA Q hQ =>
  h σ G H al hB hσ hA _ fun vs ds μ1 G1 H1 al1 n1 A1 r1 p1 => ⟨G1, al1, ds ++ dds, μ1, P, PX, A1, r1.append (hd _ _), p1, hQ.nx n1, hE.nx (hB.trans n1)⟩
theorem de_meth {Cc : Addr} {m : Str} (hE : XAg K B PX E) (h : DE K B te ρ μ fun x μ1 => ∃ gs, (x = .obj Cc gs ∨ ∃ k, x = .own k ∧ μ1[k]? = some (.ins Cc gs)) ∧ gs.lookup m = none ∧ DA K B ts ρ μ1 fun ds μ2 => C (x :: ds) μ2 P PX) : DE K B (tMeth Cc m (spD K C) [] E te ts) ρ μ P := fun σ G H al hB hσ hA Q hQ =>
  h σ G H al hB hσ hA _ fun v x μ1 G1 H1 al1 n1 A1 r1 p1 => by
    obtain ⟨gs, hx, hl, p⟩ := p1
    have key : ∃ a dx fs, v = .ref a ∧ H1 a = some (.ins Cc dx fs) ∧ fs.lookup m = none := by
      rcases hx with rfl | ⟨k, rfl, hk⟩
      · cases r1 with | obj e rf => exact ⟨_, _, _, rfl, A1.sub _ _ e, rf.none hl⟩
      · obtain ⟨a, ha, ga, dx, fs, hv, rf⟩ := A1.get hk
        cases r1 with | own e => rw [ha] at e; cases e; exact ⟨_, _, _, rfl, hv, rf.none hl⟩
    obtain ⟨a, dx, fs, e, hv, hm⟩ := key
    refine ⟨a, dx, fs, e, hv, hm, p σ G1 H1 al1 (hB.trans n1) (hσ.nx n1) A1 _ fun vs ds μ2 G2 H2 al2 n2 A2 r2 p2 => ?_⟩
    rw [List.append_nil]
    exact ⟨G2, al2, x :: ds, μ2, P, PX, A2, .cons (r1.nx n2) r2, p2, hQ.nx (n1.trans n2), hE.nx (hB.trans (n1.trans n2))⟩
/-- C(..): the new instance is frozen behind its __init__ -/
theorem de_make {Cc : Addr} (hE : XAg K B PX E) (hd : ∀ G al, Rps K G al dvs dds) (h : DA K B ts ρ μ fun ds μ1 => C (.own μ1.length :: (ds ++ dds)) (μ1 ++ [.ins Cc []]) (fun d μ2 => d = .non ∧ ∃ gs, μ2 = μ1 ++ [.ins Cc gs] ∧ clF gs μ1.length = true ∧ P (.obj Cc gs) μ1) (RetX μ1.length PX)) : DE K B (tMake Cc (spD K C) dvs E ts) ρ μ P := fun σ G H al hB hσ hA Q hQ =>
  h σ G H al hB hσ hA _ fun vs ds μ1 G1 H1 al1 n1 A1 r1 p1 => by
    intro x dx hx hdx hne
    -- the own dict first
    have nx1 : x ≠ dx := hne.symm
    have A2 : As K G1 (upd H1 dx (.own x)) al1 μ1 ∧ Nx G1 H1 al1 G1 (upd H1 dx (.own x)) al1 := by
      have gd : G1 dx = none := A1.sub.free hdx
      have nal : dx ∉ al1 := fun m => A1.here dx m hdx
      refine ⟨⟨fun b u e => by rw [upd_ne (ne_of_none e gd)]; exact A1.sub _ _ e, A1.nd, A1.len, fun a m => ?_, fun k a o e1 e2 => ?_⟩, ⟨Same.refl _, Pre.refl _, fun a u h _ => by rw [upd_ne (ne_of_none h hdx)]; exact h, fun _ _ _ g => g, fun _ m => .inl m⟩⟩
      · have z : a ≠ dx := fun z => nal (z ▸ m)
        rw [upd_ne z]; exact A1.here a m
      · have z : a ≠ dx := fun z => nal (z ▸ List.mem_of_getElem? e1)
        exact OkO.mono (Same.refl _) (Pre.refl _) (fun _ g => g) (by rw [upd_ne z]) (A1.ok k a o e1 e2)
    obtain ⟨A2, n2⟩ := A2
    have hx2 : (upd H1 dx (.own x)) x = none := by rw [upd_ne nx1]; exact hx
    obtain ⟨A3, n3⟩ := A2.own (o := .ins Cc dx []) (m := .ins Cc []) hx2 ⟨A2.sub.free hx2, dx, [], upd_same, .nil⟩
    refine ⟨G1, al1 ++ [x], .own μ1.length :: (ds ++ dds), μ1 ++ [.ins Cc []], _, _, A3, .cons (.own (by rw [← A1.len]; simp)) ((((r1.nx n2).nx n3).append (hd _ _))), p1, ?_, by rw [← A1.len]; exact (hE.nx (hB.trans n1)).ret (n2.trans n3)⟩
    intro v d μ2 G4 H4 al4 n4 A4 r4 p4
    obtain ⟨rfl, gs, rfl, hcl, hp⟩ := p4
    cases r4
    refine ⟨rfl, ?_⟩
    have hal : al4[μ1.length]? = some x := n4.p.get (by rw [← A1.len]; simp)
    obtain ⟨a, ha, ga, dx4, fs4, hv4, rf4⟩ := A4.get (k := μ1.length) (m := .ins Cc gs) (by simp)
    rw [hal] at ha; cases ha
    obtain ⟨A5, n5⟩ := A4.freeze hal hv4 ga
    have nn : Nx G1 H1 al1 (upd G4 x (.ins Cc dx4 fs4)) H4 al4 := ((n2.trans n3).trans n4).trans n5
    obtain ⟨be, rfl⟩ := nn.p
    have e5 : (μ1 ++ [MO.ins Cc gs]).set μ1.length MO.dead = μ1 ++ [.dead] := by simp
    rw [e5] at A5
    refine hQ (.ref x) (.obj Cc gs) μ1 _ H4 al1 (n1.trans nn.shrink) (A5.shrink A1.len A1.cl) ?_ hp
    exact .obj upd_same ((rf4.nx n5).shrink (by rw [A1.len]; exact hcl))
theorem da_nd : ∀ G al, Rps K G al [] [] := fun _ _ => .nil
end
end Dl

set_option Elab.async false
set_option linter.all false
set_option maxRecDepth 100000
namespace L2
open PySem PySem.Spec PyProof.Rows
section
variable {X : Cx} {a b c d : Expr} {ta tb tc td : TE} {pos : Pos}
/-- a op1 b op2 c op3 d -/
def tChain3 (r r' r3 : R2) (ta tb tc td : TE) : TE := fun σ H Q => ta σ H fun x H1 => tb σ H1 fun y H2 => r x y H2 fun z H3 => ∃ k, z = .bl k ∧
  (if k = true then tc σ H3 fun w' H4 => r' y w' H4 fun z2 H5 => ∃ k2, z2 = .bl k2 ∧ (if k2 = true then td σ H5 fun u H6 => r3 w' u H6 Q else Q (.bl false) H5) else Q (.bl false) H3)
theorem pe_chain3 {op op' op3 : CmpOp} {r r' r3 : R2} (ho : OpR X (compareOp op) r) (ho' : OpR X (compareOp op') r') (ho3 : OpR X (compareOp op3) r3) (ha : PE X a ta) (hb : PE X b tb) (hc : PE X c tc) (hd : PE X d td)
    (hm : lastMarks [op, op', op3] [b, c, d] = false := by with_unfolding_all rfl) : PE X (.Compare a [op, op', op3] [b, c, d] pos) (tChain3 r r' r3 ta tb tc td) := by
  refine ⟨fun pins s σ H Q I h => ?_⟩
  refine Compare_chain (thn (ha.run pins s σ H _ I h) fun v s1 ⟨x, H1, I1, r1, q1⟩ => chain_link (thn (hb.run pins s1 σ H1 _ I1 q1) fun u s2 ⟨y, H2, I2, r2, q2⟩ =>
    thn (ho pins s2 σ H2 x y v u _ I2 r1 r2 q2) fun dd s3 ⟨z, H3, I3, r3, k, e, q3⟩ => ?_)) hm
  subst e
  cases r3
  refine wpAny_truthy_bool ?_
  cases k with
  | false => exact ite_ff ⟨.bl false, H3, I3, rfl, q3⟩
  | true =>
    refine ite_tt (chain_link (thn (hc.run pins s3 σ H3 _ I3 q3) fun w' s4 ⟨z', H4, I4, r4, q4⟩ => thn (ho' pins s4 σ H4 y z' u w' _ I4 r2 r4 q4) fun d' s5 ⟨z2, H5, I5, r5, k2, e2, q5⟩ => ?_))
    subst e2
    cases r5
    refine wpAny_truthy_bool ?_
    cases k2 with
    | false => exact ite_ff ⟨.bl false, H5, I5, rfl, q5⟩
    | true => exact ite_tt (chain_last (thn (hd.run pins s5 σ H5 _ I5 q5) fun u' s6 ⟨z6, H6, I6, r6, q6⟩ => ho3 pins s6 σ H6 z' z6 w' u' Q I6 r4 r6 q6))
theorem pt_chain3 {op op' op3 : CmpOp} {r r' r3 : R2} (ho : OpR X (compareOp op) r) (ho' : OpR X (compareOp op') r') (ho3 : OpR X (compareOp op3) r3) (ha : PE X a ta) (hb : PE X b tb) (hc : PE X c tc) (hd : PE X d td)
    (hm : lastMarks [op, op', op3] [b, c, d] = false := by with_unfolding_all rfl) : PT X (.Compare a [op, op', op3] [b, c, d] pos) (tTest (tChain3 r r' r3 ta tb tc td)) := by
  refine ⟨fun pins s σ H Q I h => ?_⟩
  refine isTrue_chain (thn (ha.run pins s σ H _ I h) fun v s1 ⟨x, H1, I1, r1, q1⟩ => test_link (thn (hb.run pins s1 σ H1 _ I1 q1) fun u s2 ⟨y, H2, I2, r2, q2⟩ =>
    thn (ho pins s2 σ H2 x y v u _ I2 r1 r2 q2) fun dd s3 ⟨z, H3, I3, r3, k, e, q3⟩ => ?_)) hm
  subst e
  cases r3
  refine wpAny_truthy_bool ?_
  cases k with
  | false =>
    obtain ⟨k', e', q'⟩ := q3
    cases e'
    exact ite_ff ⟨H3, I3, q'⟩
  | true =>
    refine ite_tt (test_link (thn (hc.run pins s3 σ H3 _ I3 q3) fun w' s4 ⟨z', H4, I4, r4, q4⟩ => thn (ho' pins s4 σ H4 y z' u w' _ I4 r2 r4 q4) fun d' s5 ⟨z2, H5, I5, r5, k2, e2, q5⟩ => ?_))
    subst e2
    cases r5
    refine wpAny_truthy_bool ?_
    cases k2 with
    | false =>
      obtain ⟨k', e', q'⟩ := q5
      cases e'
      exact ite_ff ⟨H5, I5, q'⟩
    | true =>
      refine ite_tt (test_last (thn (hd.run pins s5 σ H5 _ I5 q5) fun u' s6 ⟨z6, H6, I6, r6, q6⟩ => thn (ho3 pins s6 σ H6 z' z6 w' u' _ I6 r4 r6 q6) fun d7 s7 ⟨z7, H7, I7, r7, k7, e7, q7⟩ => ?_))
      subst e7
      cases r7
      exact wpAny_truthy_bool ⟨H7, I7, q7⟩
end
/-- two readings of one expression -/
theorem PE.or {X : Cx} {e : Expr} {t u : TE} (h : PE X e t) (h' : PE X e u) : PE X e (fun σ H Q => t σ H Q ∨ u σ H Q) := ⟨fun pins s σ H Q I hw => hw.elim (h.run pins s σ H Q I) (h'.run pins s σ H Q I)⟩
def tOrE (t u : TE) : TE := fun σ H Q => t σ H Q ∨ u σ H Q
/-! ### operators of any kind -/
def rAddS : R2 := fun x y H Q => ∃ i j, x = .str i ∧ y = .str j ∧ i.length + j.length ≤ sizeLine ∧ Q (.str (i ++ j)) H
def rAddA (K : PySem.W.Frag) : R2 := fun x y H Q => rI0 (fun i j => .int (i + j)) x y H Q ∨ rCat x y H Q ∨ rAddS x y H Q ∨ rCatT K x y H Q
def rMulA : R2 := fun x y H Q => rI CMul (fun i j => .int (i * j)) x y H Q ∨ rI CMulW (fun i j => .int (i * j)) x y H Q ∨ rRep x y H Q
section
variable {X : Cx}
theorem op_addA : OpR X (binaryOp .Add) (rAddA X.K) := op_add.or (op_cat.or (op_add_str.or op_catT))
theorem op_mulA : OpR X (binaryOp .Mult) rMulA := op_mul.or (op_mulW.or op_rep)
end
def rFdivA : R2 := fun x y H Q => rI CDivW (fun i j => .int (i / j)) x y H Q ∨ rI CDivN (fun i j => .int (i.fdiv j)) x y H Q
def rModA : R2 := fun x y H Q => rI (fun _ j => 0 < j) (fun i j => .int (i % j)) x y H Q ∨ rI (fun _ j => j ≠ 0) (fun i j => .int (i.fmod j)) x y H Q
def rInSg : R2 := fun x y H Q => ∃ (c : Nat) (z : Str), x = .str ⟨#[c]⟩ ∧ y = .str z ∧ Q (.bl (decide (c ∈ z.cps.toList))) H
def rInSt : R2 := fun x y H Q => ∃ i j, x = .str i ∧ y = .str j ∧ Q (.bl (!(Builtin.Str.occurrences j i 0 j.length 1).isEmpty)) H
def rInA (K : PySem.W.Frag) : R2 := fun x y H Q => rIn K false x y H Q ∨ rInSg x y H Q ∨ rInSt x y H Q
section
variable {X : Cx}
theorem op_fdivA : OpR X (binaryOp .FloorDiv) rFdivA := op_fdivW.or op_fdivN
theorem op_modA : OpR X (binaryOp .Mod) rModA := op_mod.or op_modN
theorem op_inA : OpR X (compareOp .In) (rInA X.K) := op_in_seq.or (op_in_sign.or op_in_str)
end
def rNotInA (K : PySem.W.Frag) : R2 := fun x y H Q => rIn K true x y H Q ∨ (fun x y H Q => ∃ (c : Nat) (z : Str), x = .str ⟨#[c]⟩ ∧ y = .str z ∧ Q (.bl (!decide (c ∈ z.cps.toList))) H) x y H Q
theorem op_notInA {X : Cx} : OpR X (compareOp .NotIn) (rNotInA X.K) := op_notIn_seq.or op_notIn_sign
/-- a list, a tuple, a text walked -/
def iAny (K : PySem.W.Frag) (tl : TE) : TI := fun σ H R => tl σ H fun x H1 => (∃ a, x = .ref a ∧ (∃ xs, SqL K H1 a xs) ∧ R (Itl K a) H1) ∨ (∃ a, x = .ref a ∧ (∃ xs, SqT K H1 a xs) ∧ R (Itt K a) H1) ∨ ∃ s, x = .str s ∧ R (Its s) H1
theorem pi_any {X : Cx} {tg l : Expr} {tl : TE} (hl : PE X l tl) : PI X tg l (iAny X.K tl) := by
  refine ⟨fun pins s σ H R I h => ?_⟩
  refine thn (hl.run pins s σ H _ I h) fun v s1 ⟨x, H1, I1, r1, q1⟩ => ?_
  rcases q1 with ⟨a, e, ⟨xs, hq⟩, q⟩ | ⟨a, e, ⟨xs, hq⟩, q⟩ | ⟨z, e, q⟩
  · subst e
    cases r1
    obtain ⟨its, rv, p, hz⟩ := I1.list hq
    refine wpAny_pyIter_list p.isList ?_
    refine ⟨s1.heap.objs.size, [s1.heap.objs.size], _, _, H1, rfl, I1.kept (t' := s1.toks) fun b o e => Heap.get?_push_of_some _ e, turn_list a _, ⟨_, Heap.get?_push_size _ rfl, rfl, rfl⟩, fun b hb => ?_, q⟩
    have e : b = s1.heap.objs.size := by simpa using hb
    subst e
    exact I1.fpOk (Nat.le_refl _) (I1.hok.fresh (Nat.le_refl _))
  · subst e
    cases r1
    obtain ⟨its, rv, p, hz⟩ := I1.tuple hq
    refine wpAny_pyIter_tuple (show s1.heap.IsTuple a its.toArray from p) ?_
    refine ⟨s1.heap.objs.size, [s1.heap.objs.size], _, _, H1, rfl, I1.kept (t' := s1.toks) fun b o e => Heap.get?_push_of_some _ e, turn_tuple a _, ⟨_, Heap.get?_push_size _ rfl, rfl, rfl⟩, fun b hb => ?_, q⟩
    have e : b = s1.heap.objs.size := by simpa using hb
    subst e
    exact I1.fpOk (Nat.le_refl _) (I1.hok.fresh (Nat.le_refl _))
  · subst e
    obtain ⟨t, rfl⟩ := r1
    cases ha : z.cps.all (· < 128)
    · exact wpAny_pyIter_wide ha (pi_one (tk := s1.toks) I1 _ (turn_str _ z t "str_iterator" (.inr rfl)) ⟨_, Heap.get?_push_size _ rfl, rfl, rfl⟩ q)
    · exact wpAny_pyIter_ascii ha (pi_one (tk := s1.toks) I1 _ (turn_str _ z t "str_ascii_iterator" (.inl rfl)) ⟨_, Heap.get?_push_size _ rfl, rfl, rfl⟩ q)
def rSlA (K : PySem.W.Frag) : V → Option Int → Option Int → Hp → VK → Prop := fun x lo hi H Q => rSlL K x lo hi H Q ∨ (∃ z, x = .str z ∧ z.length ≤ sizeLine ∧ Q (.str (cutS z lo hi)) H) ∨ rSlT K x lo hi H Q
theorem sl_any {X : Cx} : SlR X (rSlA X.K) := sl_list.or (sl_str.or sl_tup)
/-- an own exception without an __init__ of its own -/
structure ExC (K : PySem.W.Frag) (mg : Str → Option Value) (x : Str) : Prop where
  xc : PySem.W.excIn K (He.ga K x) He.veBase "ValueError.__new__" = true
  gc : mg x = some (.ref (He.ga K x))
  kc : PySem.W.keepIn K (.ref (He.ga K x)) = true
  bc : PySem.W.subIn K (.ref (He.ga K x)) (.type "BaseException") = some true
  tc : PySem.W.typeIn K (.ref (He.ga K x)) = some (.type "type")
/-- a value's truth -/
def tTruth (K : PySem.W.Frag) (ta : TE) : TT := fun σ H Q => ta σ H fun x H' => ∃ k, TruV K x H' k ∧ Q k H'
/-- a raise of an own class without fields -/
def tRaise0 (C : Addr) (E : XK) : TS := fun _ σ H => E (.ref C) none H
def _root_.Dl.rLen (K : PySem.W.Frag) : List V → Hp → VK → Prop := fun xs H Q => ∃ x n, xs = [x] ∧ LenV K x H n ∧ Q (.int (n : Nat)) H
def rMax2 : List V → Hp → VK → Prop := fun xs H Q => ∃ i j, xs = [.int i, .int j] ∧ Q (.int (if j > i then j else i)) H
def rMin2 : List V → Hp → VK → Prop := fun xs H Q => ∃ i j, xs = [.int i, .int j] ∧ Q (.int (if j < i then j else i)) H
def rMaxA (K : PySem.W.Frag) : List V → Hp → VK → Prop := fun xs H Q => rMax2 xs H Q ∨ rMax K xs H Q
def rMinA (K : PySem.W.Frag) : List V → Hp → VK → Prop := fun xs H Q => rMin2 xs H Q ∨ rMin K xs H Q
theorem call_maxA {X : Cx} (hc : X.calm = true) : CallR X (.builtin "max") (rMaxA X.K) := (call_max2 hc).or (cr_max hc)
theorem call_minA {X : Cx} (hc : X.calm = true) : CallR X (.builtin "min") (rMinA X.K) := (call_min2 hc).or (cr_min hc)
def rListOf (K : PySem.W.Frag) : List V → Hp → VK → Prop := fun xs H Q => ∃ p ys, xs = [.ref p] ∧ (SqL K H p ys ∨ SqT K H p ys) ∧ ∀ l, H l = none → Q (.ref l) (upd H l (.lst ys))
def rDivmod : List V → Hp → VK → Prop := fun xs H Q => ∃ i j, xs = [.int i, .int j] ∧ CDiv i j ∧ ∀ p, H p = none → Q (.ref p) (upd H p (.tup [.int (i / j), .int (i % j)]))
end L2
namespace Dl
open PySem L2 PyProof.Rows
section
variable {K : PySem.W.Frag} {μ : Mu} {P : D → Mu → Prop} {i j : Int} {x y d : D} {ds es : List D}
theorem ro_or1 {r r' : R2} (h : RO K r x y μ P) : RO K (fun x y H Q => r x y H Q ∨ r' x y H Q) x y μ P := fun G H al v w A r1 r2 Q hQ => .inl (h G H al v w A r1 r2 Q hQ)
theorem ro_addI (h : P (.int (i + j)) μ) : RO K (rAddA K) (.int i) (.int j) μ P := fun G H al v w A r1 r2 Q hQ => .inl (ro_i (f := fun i j => i + j) h G H al v w A r1 r2 Q hQ)
theorem ro_addL (h1 : Lt μ x ds) (h2 : Lt μ y es) (hs : ds.length + es.length ≤ 100000) (h : P (.lst (ds ++ es)) μ) : RO K (rAddA K) x y μ P := fun G H al v w A r1 r2 Q hQ => .inr (.inl (ro_cat h1 h2 hs h G H al v w A r1 r2 Q hQ))
theorem ro_addLO (h1 : Lt μ x ds) (h2 : Lt μ y es) (hs : ds.length + es.length ≤ 100000) (h : P (.own μ.length) (μ ++ [.lst (ds ++ es)])) : RO K (rAddA K) x y μ P := fun G H al v w A r1 r2 Q hQ => .inr (.inl (ro_catO h1 h2 hs h G H al v w A r1 r2 Q hQ))
theorem ro_addS {s t : Str} (hs : s.length + t.length ≤ 100000) (h : P (.str (s ++ t)) μ) : RO K (rAddA K) (.str s) (.str t) μ P := fun G H al v w A r1 r2 Q hQ => by
  cases r1; cases r2
  exact .inr (.inr (.inl ⟨s, t, rfl, rfl, Nat.le_trans hs (by decide), hQ.now A (.str _) h⟩))
theorem ro_addT (h1 : Ts x ds) (h2 : Ts y es) (hne : ds ≠ []) (hes : es ≠ []) (hs : ds.length + es.length ≤ 100000) (h : P (.tup (ds ++ es)) μ) : RO K (rAddA K) x y μ P := fun G H al v w A r1 r2 Q hQ => .inr (.inr (.inr (ro_catT h1 h2 hne hes hs h G H al v w A r1 r2 Q hQ)))
theorem ro_mulI (hc : CMul i j) (h : P (.int (i * j)) μ) : RO K rMulA (.int i) (.int j) μ P := fun G H al v w A r1 r2 Q hQ => .inl (ro_ic (f := fun i j => i * j) hc h G H al v w A r1 r2 Q hQ)
theorem ro_mulW (hc : CMulW i j) (h : P (.int (i * j)) μ) : RO K rMulA (.int i) (.int j) μ P := fun G H al v w A r1 r2 Q hQ => .inr (.inl (ro_ic (f := fun i j => i * j) hc h G H al v w A r1 r2 Q hQ))
def repD (xs : List D) (k : Int) : List D := (List.replicate k.toNat xs).flatten
theorem rps_rep {G : Hp} {al : List Addr} {vs : List V} (h : Rps K G al vs ds) (n : Nat) : Rps K G al (List.replicate n vs).flatten (List.replicate n ds).flatten := by
  induction n with
  | zero => exact .nil
  | succ n ih => rw [List.replicate_succ, List.replicate_succ, List.flatten_cons, List.flatten_cons]; exact h.append ih
theorem ro_rep (h1 : Lt μ x ds) (hj : -100000 ≤ j ∧ j ≤ 100000) (hs : ds.length * j.toNat ≤ 100000) (h : P (.lst (repD ds j)) μ) : RO K rMulA x (.int j) μ P := fun G H al v w A r1 r2 Q hQ => by
  obtain ⟨a, ws, rfl, s1, rs1⟩ := h1.get A r1
  cases r2
  refine .inr (.inr ⟨a, j, ws, rfl, rfl, s1, by omega, by omega, by rw [rs1.length]; exact Nat.le_trans hs (by decide), fun p hp => ?_⟩)
  obtain ⟨A2, n2⟩ := A.frz (o := .lst (List.replicate j.toNat ws).flatten) hp
  exact hQ _ _ μ _ _ _ n2 A2 (.lst upd_same ((rps_rep rs1 j.toNat).nx n2)) h
theorem rc_max2' (h : P (.int (max i j)) μ) : RC K (rMaxA K) [.int i, .int j] μ P := fun G H al vs A r Q hQ => .inl (rc_max2 h G H al vs A r Q hQ)
theorem rc_min2' (h : P (.int (min i j)) μ) : RC K (rMinA K) [.int i, .int j] μ P := fun G H al vs A r Q hQ => .inl (rc_min2 h G H al vs A r Q hQ)
theorem rc_max' {ns : List Int} (hl : Ls μ x (ns.map D.int)) (hn : 0 < ns.length) (h : ∀ m, m ∈ ns → (∀ y, y ∈ ns → y ≤ m) → P (.int m) μ) : RC K (rMaxA K) [x] μ P := fun G H al vs A r Q hQ => .inr (rc_max hl hn h G H al vs A r Q hQ)
theorem rc_min' {ns : List Int} (hl : Ls μ x (ns.map D.int)) (hn : 0 < ns.length) (h : ∀ m, m ∈ ns → (∀ y, y ∈ ns → m ≤ y) → P (.int m) μ) : RC K (rMinA K) [x] μ P := fun G H al vs A r Q hQ => .inr (rc_min hl hn h G H al vs A r Q hQ)
theorem rc_lenL (hl : Ls μ x ds) (h : P (.int (ds.length : Int)) μ) : RC K (rLen K) [x] μ P := rc_len hl h
theorem rc_lenT' (hl : Ts x ds) (h : P (.int (ds.length : Int)) μ) : RC K (rLen K) [x] μ P := rc_lenT hl h
theorem rc_lenS' {s : Str} (hs : s.length ≤ 100000) (h : P (.int (s.length : Int)) μ) : RC K (rLen K) [.str s] μ P := rc_lenS hs h
theorem rc_list (hl : Ls μ x ds) (h : P (.lst ds) μ) : RC K (rListOf K) [x] μ P := fun G H al vs A r Q hQ => by
  obtain ⟨v, rfl, r1⟩ := rps1 r
  obtain ⟨a, ws, rfl, s, rs⟩ := hl.get A r1
  refine ⟨a, ws, rfl, .inl s, fun p hp => ?_⟩
  obtain ⟨A2, n2⟩ := A.frz (o := .lst ws) hp
  exact hQ _ _ μ _ _ _ n2 A2 (.lst upd_same (rs.nx n2)) h
theorem rc_listO (hl : Ls μ x ds) (h : P (.own μ.length) (μ ++ [.lst ds])) : RC K (rListOf K) [x] μ P := fun G H al vs A r Q hQ => by
  obtain ⟨v, rfl, r1⟩ := rps1 r
  obtain ⟨a, ws, rfl, s, rs⟩ := hl.get A r1
  refine ⟨a, ws, rfl, .inl s, fun p hp => ?_⟩
  obtain ⟨A2, n2⟩ := A.own (o := .lst ws) (m := .lst ds) hp ⟨A.sub.free hp, _, upd_same, rs.mono (Same.refl _) ⟨[p], rfl⟩⟩
  exact hQ _ _ _ _ _ _ n2 A2 (.own (by rw [← A.len]; simp)) h
theorem rc_listT (hl : Ts x ds) (h : P (.lst ds) μ) : RC K (rListOf K) [x] μ P := fun G H al vs A r Q hQ => by
  obtain ⟨v, rfl, r1⟩ := rps1 r
  obtain ⟨a, ws, rfl, s, rs⟩ := hl.get A r1
  refine ⟨a, ws, rfl, .inr s, fun p hp => ?_⟩
  obtain ⟨A2, n2⟩ := A.frz (o := .lst ws) hp
  exact hQ _ _ μ _ _ _ n2 A2 (.lst upd_same (rs.nx n2)) h
theorem rc_divmod (hc : CDiv i j) (h : P (.tup [.int (i / j), .int (i % j)]) μ) : RC K rDivmod [.int i, .int j] μ P := fun G H al vs A r Q hQ => by
  obtain ⟨v, w, rfl, r1, r2⟩ := rps2 r
  cases r1; cases r2
  refine ⟨i, j, rfl, hc, fun p hp => ?_⟩
  obtain ⟨A2, n2⟩ := A.frz (o := .tup [.int (i / j), .int (i % j)]) hp
  exact hQ _ _ μ _ _ _ n2 A2 (.tup upd_same (.cons (.int _) (.cons (.int _) .nil))) h
end
section
variable {K : PySem.W.Frag} {B : Bs} {ρ : En} {μ : Mu} {P : D → Mu → Prop} {ta tb te tc td : TE} {PT' : Bool → Mu → Prop}
theorem de_chain3 {r r' r3 : R2} (h : DE K B ta ρ μ fun x μ1 => DE K B tb ρ μ1 fun y μ2 => RO K r x y μ2 fun z μ3 => ∃ b, z = .bl b ∧ (b = true → DE K B tc ρ μ3 fun w μ4 => RO K r' y w μ4 fun z2 μ5 => ∃ b2, z2 = .bl b2 ∧
      (b2 = true → DE K B td ρ μ5 fun u μ6 => RO K r3 w u μ6 P) ∧ (b2 = false → P (.bl false) μ5)) ∧ (b = false → P (.bl false) μ3)) :
    DE K B (tChain3 r r' r3 ta tb tc td) ρ μ P := fun σ G H al hB hσ hA Q hQ =>
  h σ G H al hB hσ hA _ fun v d μ1 G1 H1 al1 n1 A1 r1 p1 => p1 σ G1 H1 al1 (hB.trans n1) (hσ.nx n1) A1 _ fun w e μ2 G2 H2 al2 n2 A2 r2 p2 =>
    p2 G2 H2 al2 v w A2 (r1.nx n2) r2 _ fun z dz μ3 G3 H3 al3 n3 A3 r3 p3 => by
      obtain ⟨b, rfl, pt, pf⟩ := p3
      cases r3
      refine ⟨b, rfl, ?_⟩
      have nn3 := (n1.trans n2).trans n3
      cases b with
      | false =>
        rw [if_neg (by simp)]
        exact hQ (.bl false) _ μ3 G3 H3 al3 nn3 A3 (.bl _) (pf rfl)
      | true =>
        rw [if_pos rfl]
        refine pt rfl σ G3 H3 al3 (hB.trans nn3) (hσ.nx nn3) A3 _ fun u du μ4 G4 H4 al4 n4 A4 r4 p4 => p4 G4 H4 al4 w u A4 ((r2.nx n3).nx n4) r4 _ fun z5 dz5 μ5 G5 H5 al5 n5 A5 r5 p5 => ?_
        obtain ⟨b2, rfl, pt2, pf2⟩ := p5
        cases r5
        refine ⟨b2, rfl, ?_⟩
        have nn5 := (nn3.trans n4).trans n5
        cases b2 with
        | false =>
          rw [if_neg (by simp)]
          exact hQ (.bl false) _ μ5 G5 H5 al5 nn5 A5 (.bl _) (pf2 rfl)
        | true =>
          rw [if_pos rfl]
          exact pt2 rfl σ G5 H5 al5 (hB.trans nn5) (hσ.nx nn5) A5 _ fun u6 du6 μ6 G6 H6 al6 n6 A6 r6 p6 => p6 G6 H6 al6 u u6 A6 ((r4.nx n5).nx n6) r6 Q (hQ.nx (nn5.trans n6))
theorem de_orL (h : DE K B ta ρ μ P) : DE K B (tOrE ta tb) ρ μ P := fun σ G H al hB hσ hA Q hQ => .inl (h σ G H al hB hσ hA Q hQ)
theorem de_orR (h : DE K B tb ρ μ P) : DE K B (tOrE ta tb) ρ μ P := fun σ G H al hB hσ hA Q hQ => .inr (h σ G H al hB hσ hA Q hQ)
theorem dt_truth (h : DE K B te ρ μ fun x μ1 => ∃ b, x = .bl b ∧ PT' b μ1) : DT K B (tTruth K te) ρ μ PT' := fun σ G H al hB hσ hA Q hQ =>
  h σ G H al hB hσ hA _ fun v d μ1 G1 H1 al1 n1 A1 r1 p1 => by
    obtain ⟨b, rfl, p⟩ := p1
    cases r1
    exact ⟨b, rfl, hQ b μ1 G1 H1 al1 n1 A1 p⟩
theorem ds_raise0 {C : Addr} {E : XK} {PX : PXT} {Pe : DEnds} (hE : XAg K B PX E) (h : PX C [] μ) : DS K B (tRaise0 C E) ρ μ Pe := fun σ G H al hB hσ hA De hD =>
  hE C [] none μ G H al hB hA (.inl ⟨rfl, rfl⟩) h
end
end Dl

set_option Elab.async false
set_option linter.all false
set_option maxRecDepth 100000
namespace Dl
open PySem L2 PyProof.Rows
section
variable {K : PySem.W.Frag} {μ : Mu} {P : D → Mu → Prop} {i j : Int} {x y d : D} {ds es : List D}
theorem ro_fdiv (hc : 0 < j) (hj : j.natAbs.log2 < 9000) (h : P (.int (i / j)) μ) : RO K rFdivA (.int i) (.int j) μ P := fun G H al v w A r1 r2 Q hQ => .inl (ro_ic (f := fun i j => i / j) ⟨hc, hj⟩ h G H al v w A r1 r2 Q hQ)
theorem ro_fdivN (hc : CDivN i j) (h : P (.int (i.fdiv j)) μ) : RO K rFdivA (.int i) (.int j) μ P := fun G H al v w A r1 r2 Q hQ => .inr (ro_ic (f := fun i j => i.fdiv j) hc h G H al v w A r1 r2 Q hQ)
theorem ro_mod (hc : 0 < j) (h : P (.int (i % j)) μ) : RO K rModA (.int i) (.int j) μ P := fun G H al v w A r1 r2 Q hQ => .inl (ro_ic (f := fun i j => i % j) (C := fun _ j => 0 < j) hc h G H al v w A r1 r2 Q hQ)
theorem ro_pow (hc : CPow i j) (h : P (.int (i ^ j.toNat)) μ) : RO K (rI CPow fun i j => .int (i ^ j.toNat)) (.int i) (.int j) μ P := ro_ic (f := fun i j => i ^ j.toNat) hc h
theorem ro_isB {a b : Bool} (h : P (.bl (decide (a = b))) μ) : RO K rIsB (.bl a) (.bl b) μ P := fun G H al v w A r1 r2 Q hQ => by
  cases r1; cases r2
  exact ⟨a, b, rfl, rfl, hQ.now A (.bl _) h⟩
theorem ro_notB {a b : Bool} (h : P (.bl (!decide (a = b))) μ) : RO K rNotB (.bl a) (.bl b) μ P := fun G H al v w A r1 r2 Q hQ => by
  cases r1; cases r2
  exact ⟨a, b, rfl, rfl, hQ.now A (.bl _) h⟩
end
section
variable {K : PySem.W.Frag} {B : Bs} {ρ : En} {μ : Mu} {te ta : TE} {ts : TA} {PI' : List D → (Mu → Prop) → Mu → Prop} {P : DEnds} {t u v : TS}
/-- what a datum is walked as; S: what must stay of what may change -/
inductive Wk (μ : Mu) : D → List D → (Mu → Prop) → Prop
  | lst (ds : List D) : Wk μ (.lst ds) ds (fun _ => True)
  | rdl (ds : List D) : Wk μ (.rdl ds) ds (fun _ => True)
  | own {k : Nat} {ds : List D} (h : μ[k]? = some (.lst ds)) : Wk μ (.own k) ds (fun μ' => μ'[k]? = some (.lst ds))
  | tup (ds : List D) : Wk μ (.tup ds) ds (fun _ => True)
  | rdt (ds : List D) : Wk μ (.rdt ds) ds (fun _ => True)
  | str (s : Str) : Wk μ (.str s) (signsD s) (fun _ => True)
theorem itt_ok {G H : Hp} {al : List Addr} {a : Addr} {ds : List D} {S : Mu → Prop} (h : ∀ G2 H2 al2 μ2, Nx G H al G2 H2 al2 → As K G2 H2 al2 μ2 → S μ2 → ∃ vs, SqT K H2 a vs ∧ Rps K G2 al2 vs ds) : ItOk K (Itt K a) ds S G H al := fun G2 H2 al2 μ2 n A s => by
  obtain ⟨vs, sq, r⟩ := h G2 H2 al2 μ2 n A s
  refine ⟨fun i hi => ⟨vs, vs[i]'(by rw [r.length]; exact hi), sq, by simp⟩, fun i hi => ⟨vs, sq, by rw [r.length]; exact hi⟩, fun i x H3 y d hd => ?_⟩
  obtain ⟨rfl, y⟩ := y
  obtain ⟨d', hd', r'⟩ := r.getV (y vs sq)
  rw [hd] at hd'; cases hd'
  exact ⟨G2, .refl, A, r'⟩
theorem di_any (h : DE K B te ρ μ fun x μ1 => ∃ ds S, Wk μ1 x ds S ∧ PI' ds S μ1) : DI K B (iAny K te) ρ μ PI' := fun σ G H al hB hσ hA R hR =>
  h σ G H al hB hσ hA _ fun v d μ1 G1 H1 al1 n1 A1 r1 p1 => by
    obtain ⟨ds, S, wk, p⟩ := p1
    cases wk with
    | lst =>
      cases r1 with
      | lst e rs => exact .inl ⟨_, rfl, ⟨_, .inl (.inl (A1.sub _ _ e))⟩, hR _ ds _ μ1 G1 H1 al1 n1 A1 (itl_ok fun G2 H2 al2 μ2 n2 A2 _ => ⟨_, .inl (.inl (A2.sub _ _ (n2.g _ _ e))), rs.nx n2⟩) p⟩
    | rdl =>
      cases r1 with
      | rdl e rs => exact .inl ⟨_, rfl, ⟨_, sql_mono A1.sub e⟩, hR _ ds _ μ1 G1 H1 al1 n1 A1 (itl_ok fun G2 H2 al2 μ2 n2 A2 _ => ⟨_, sql_mono A2.sub (sql_mono n2.g e), rs.nx n2⟩) p⟩
    | own hk =>
      obtain ⟨a, ha, ga, vs, hv, rs⟩ := A1.get hk
      cases r1 with
      | own e =>
        rw [ha] at e; cases e
        refine .inl ⟨_, rfl, ⟨_, .inl (.inl hv)⟩, hR _ ds _ μ1 G1 H1 al1 n1 A1 (itl_ok fun G2 H2 al2 μ2 n2 A2 s => ?_) p⟩
        obtain ⟨a2, ha2, ga2, vs2, hv2, rs2⟩ := A2.get s
        rw [n2.p.get ha] at ha2; cases ha2
        exact ⟨vs2, .inl (.inl hv2), rs2⟩
    | tup =>
      cases r1 with
      | tup e rs => exact .inr (.inl ⟨_, rfl, ⟨_, .inl (.inl (A1.sub _ _ e))⟩, hR _ ds _ μ1 G1 H1 al1 n1 A1 (itt_ok fun G2 H2 al2 μ2 n2 A2 _ => ⟨_, .inl (.inl (A2.sub _ _ (n2.g _ _ e))), rs.nx n2⟩) p⟩)
    | rdt =>
      cases r1 with
      | rdt e rs => exact .inr (.inl ⟨_, rfl, ⟨_, sqt_mono A1.sub e⟩, hR _ ds _ μ1 G1 H1 al1 n1 A1 (itt_ok fun G2 H2 al2 μ2 n2 A2 _ => ⟨_, sqt_mono A2.sub (sqt_mono n2.g e), rs.nx n2⟩) p⟩)
    | str x =>
      cases r1
      refine .inr (.inr ⟨x, rfl, hR _ _ _ μ1 G1 H1 al1 n1 A1 (fun G2 H2 al2 μ2 n2 A2 _ => ?_) p⟩)
      have hl : (signsD x).length = x.cps.size := by simp [signsD]
      rw [hl]
      refine ⟨fun i hi => hi, fun i hi => hi, fun i y H3 hy d hd => ?_⟩
      obtain ⟨rfl, c, hc, rfl⟩ := hy
      have : d = .str ⟨#[c]⟩ := by
        simp only [signsD, List.getElem?_map, Array.getElem?_toList, hc] at hd
        exact (Option.some.inj hd).symm
      subst this
      exact ⟨G2, .refl, A2, .str _⟩
theorem di_enum' (h : DA K B ts ρ μ fun xs μ1 => ∃ x ds S, xs = [x] ∧ Ls μ1 x ds ∧ Wk μ1 x ds S ∧ PI' (enumD ds) S μ1) : DI K B (iEnum K ts) ρ μ PI' := di_enum (fun σ G H al hB hσ hA Q hQ => h σ G H al hB hσ hA Q fun vs ds' μ' G' H' al' n A r p => hQ vs ds' μ' G' H' al' n A r (by
  obtain ⟨x, ds, S, e, ls, wk, p⟩ := p
  refine ⟨x, ds, e, ?_⟩
  cases wk with
  | lst => exact .inl ⟨rfl, p⟩
  | rdl => exact .inr (.inl ⟨rfl, p⟩)
  | own hk => exact .inr (.inr ⟨_, rfl, hk, p⟩)
  | tup => cases ls
  | rdt => cases ls
  | str => cases ls))
/-! ### statements with what follows -/
theorem q_set {i : Nat} (h : DE K B te ρ μ fun d μ1 => DS K B u (ρ.set i (some d)) μ1 P) : DS K B (tSeq (tAsg te (gName i)) u) ρ μ P := ds_seq (ds_set h)
theorem q_asg {g : TG} (h : DE K B te ρ μ fun d μ1 => DG K B g d ρ μ1 fun ρ2 μ2 => DS K B u ρ2 μ2 P) : DS K B (tSeq (tAsg te g) u) ρ μ P := ds_seq (ds_asg h)
theorem q_drop (h : DE K B te ρ μ fun d μ1 => DS K B u ρ μ1 P) : DS K B (tSeq (tDrop te) u) ρ μ P := ds_seq (ds_drop h)
theorem q_aug {i : Nat} {r : TIp} {x : D} (e : ρ[i]? = some (some x)) (h : DE K B te ρ μ fun y μ1 => RO K r x y μ1 fun z μ2 => DS K B u (ρ.set i (some z)) μ2 P) : DS K B (tSeq (tAug i te r) u) ρ μ P := ds_seq (ds_aug e h)
/-- an if without else -/
theorem q_when {c : TT} (h : DT K B c ρ μ fun b μ1 => (b = true → DS K B t ρ μ1 { P with nx := fun ρ1 μ1 => DS K B u ρ1 μ1 P }) ∧ (b = false → DS K B u ρ μ1 P)) : DS K B (tSeq (tIfS c t tNext) u) ρ μ P :=
  ds_seq (ds_if fun σ G H al hB hσ hA Q hQ => h σ G H al hB hσ hA Q fun b μ1 G1 H1 al1 n1 A1 p1 => hQ b μ1 G1 H1 al1 n1 A1 ⟨p1.1, fun e => ds_next (p1.2 e)⟩)
theorem s_when {c : TT} (h : DT K B c ρ μ fun b μ1 => (b = true → DS K B t ρ μ1 P) ∧ (b = false → P.nx ρ μ1)) : DS K B (tIfS c t tNext) ρ μ P :=
  ds_if fun σ G H al hB hσ hA Q hQ => h σ G H al hB hσ hA Q fun b μ1 G1 H1 al1 n1 A1 p1 => hQ b μ1 G1 H1 al1 n1 A1 ⟨p1.1, fun e => ds_next (p1.2 e)⟩
theorem q_if {c : TT} (h : DT K B c ρ μ fun b μ1 => (b = true → DS K B t ρ μ1 { P with nx := fun ρ1 μ1 => DS K B u ρ1 μ1 P }) ∧ (b = false → DS K B v ρ μ1 { P with nx := fun ρ1 μ1 => DS K B u ρ1 μ1 P })) : DS K B (tSeq (tIfS c t v) u) ρ μ P := ds_seq (ds_if h)
theorem q_for {wi : TI} {g : TG} {tb : TS} (h : DI K B wi ρ μ fun ds S μ1 => ∃ Iv : Nat → En → Mu → Prop, Iv 0 ρ μ1 ∧ (∀ i ρ' μ', i ≤ ds.length → Iv i ρ' μ' → S μ') ∧
      (∀ i d ρ' μ', ds[i]? = some d → Iv i ρ' μ' → DG K B g d ρ' μ' fun ρ2 μ2 => DS K B tb ρ2 μ2 { nx := Iv (i + 1), ct := Iv (i + 1), bk := fun ρ1 μ1 => DS K B u ρ1 μ1 P, rt := P.rt }) ∧ (∀ ρ' μ', Iv ds.length ρ' μ' → DS K B u ρ' μ' P)) : DS K B (tSeq (tFor wi g tb) u) ρ μ P := ds_seq (ds_for h)
theorem q_while {c : TT} {tb : TS} (Iv : Nat → En → Mu → Prop) {m0 : Nat} (h0 : Iv m0 ρ μ)
    (hs : ∀ m ρ' μ', Iv m ρ' μ' → DT K B c ρ' μ' fun b μ1 => (b = true → DS K B tb ρ' μ1 { nx := fun ρ2 μ2 => ∃ m', m' < m ∧ Iv m' ρ2 μ2, ct := fun ρ2 μ2 => ∃ m', m' < m ∧ Iv m' ρ2 μ2, bk := fun ρ1 μ1 => DS K B u ρ1 μ1 P, rt := P.rt }) ∧ (b = false → DS K B u ρ' μ1 P)) : DS K B (tSeq (tWhile c tb) u) ρ μ P := ds_seq (ds_while Iv h0 hs)
theorem q_fld {f : Str} {tb : TE} (h : DE K B tb ρ μ fun y μ1 => DE K B ta ρ μ1 fun x μ2 => ∃ k C gs, x = .own k ∧ μ2[k]? = some (.ins C gs) ∧ Cls K C ∧ NoAttr K C f ∧ gs.length < 1000 ∧ DS K B u ρ (μ2.set k (.ins C (putD f y gs))) P) : DS K B (tSeq (sFld K ta tb f) u) ρ μ P := ds_seq (ds_fld h)
theorem q_par {i j : Nat} (h : DA K B ts ρ μ fun ds μ1 => ∃ x y, ds = [x, y] ∧ DS K B u ((ρ.set i (some x)).set j (some y)) μ1 P) : DS K B (tSeq (tPar i j ts) u) ρ μ P := ds_seq (ds_par h)
end
/-- the n-th thing from the end of what may change -/
theorem mu_last {μ : Mu} {o : MO} : (μ ++ [o])[μ.length]? = some o := by simp
theorem mu_old {μ ext : Mu} {k : Nat} {o : MO} (h : μ[k]? = some o) : (μ ++ ext)[k]? = some o := by
  rw [List.getElem?_append_left (List.getElem?_eq_some_iff.mp h).1]
  exact h
theorem set_last {μ : Mu} {o o' : MO} : (μ ++ [o]).set μ.length o' = μ ++ [o'] := by simp
theorem set_old {μ ext : Mu} {k : Nat} {o o' : MO} (h : μ[k]? = some o) : (μ ++ ext).set k o' = μ.set k o' ++ ext := by
  rw [List.set_append_left _ _ (List.getElem?_eq_some_iff.mp h).1]
theorem set_get {μ : Mu} {k : Nat} {o o' : MO} (h : μ[k]? = some o) : (μ.set k o')[k]? = some o' := by
  rw [List.getElem?_set_self (List.getElem?_eq_some_iff.mp h).1]
theorem set_set' {μ : Mu} {k : Nat} {o o' : MO} : (μ.set k o).set k o' = μ.set k o' := by simp
/-- a fresh list handed on: frozen, or to be changed -/
def Fresh (xs : List D) (μ : Mu) (P : D → Mu → Prop) : Prop := P (.lst xs) μ ∨ P (.own μ.length) (μ ++ [.lst xs])

/-! ### defs by their contracts -/
section
variable (P : Program) (w : World) (K : PySem.W.Frag) (mg : Str → Option Value) (base : Heap)
/-- a def that keeps its contract -/
def FnC (k : Nat) (f : Addr) (ps : List Str) (C : CT) : Prop := ∃ fd, Binds K fd ps [] ∧ FnOk P w K mg base (L2.CX P w) k f fd ps (spD K C)
end
section
variable {P : Program} {w : World} {K : PySem.W.Frag} {mg : Str → Option Value} {base : Heap}
theorem fn_DD {x qual : Str} {st : Stmt} {dvs : List V} {kws : List (Str × V)} {f : Addr} {fd : FuncData} {N ps : List Str} {k : Nat} {C : CT} {t : XK → TS} (F : FunD K x qual (defArgs st) (defBody st) (defScope st) dvs kws f fd) (S : FnScope N ps (defScope st)) (len : ∀ ds μ P PX, C ds μ P PX → ds.length = ps.length) (hN : ps.length ≤ N.length)
    (body : ∀ (cdv : Value) (A : Around) (outer : List Env) (s : Shared) (H : Hp) (E : XK), Room k (A.deeper (envOfC qual (defScope st) s.heap.objs.size f cdv)) → PSs (cxOf (L2.CX P w) P w K mg base N qual (defScope st) f cdv A outer s H E) (defBody st) (t E))
    (sem : ∀ ds μ P PX, C ds μ P PX → MuCl μ μ.length → clL ds μ.length = true → ∀ B E, XAg K B (RetX μ.length PX) E → DS K B (t E) (startD N ds) μ (fnE μ.length P)) : FnOk P w K mg base (L2.CX P w) (k + 1) f fd ps (spD K C) := by
  refine F.ok S (fun vs H Q E h => ?_) (fun cdv A outer s H vs Q E hr h => ⟨t E, body cdv A outer s H E hr, sem_of (fun ds μ P PX c => by rw [len ds μ P PX c]; exact hN) sem h⟩)
  obtain ⟨G, al, ds, μ, P, PX, A, r, c, _⟩ := h
  rw [r.length]
  exact len ds μ P PX c
end
end Dl

set_option Elab.async false
set_option linter.all false
set_option maxRecDepth 100000
namespace Dl
open PySem L2 PyProof.Rows
mutual
theorem D.cl_mono : ∀ (d : D) {n m : Nat}, n ≤ m → d.cl n = true → d.cl m = true
  | .tup xs, n, m, l, h => by unfold D.cl at h ⊢; exact clL_mono xs l h
  | .lst xs, n, m, l, h => by unfold D.cl at h ⊢; exact clL_mono xs l h
  | .rdl xs, n, m, l, h => by unfold D.cl at h ⊢; exact clL_mono xs l h
  | .rdt xs, n, m, l, h => by unfold D.cl at h ⊢; exact clL_mono xs l h
  | .obj _ gs, n, m, l, h => by unfold D.cl at h ⊢; exact clF_mono gs l h
  | .dct gs, n, m, l, h => by unfold D.cl at h ⊢; exact clK_mono gs l h
  | .own k, n, m, l, h => by unfold D.cl at h ⊢; simp at h ⊢; omega
  | .non, n, m, l, h => by simp [D.cl]
  | .bl _, n, m, l, h => by simp [D.cl]
  | .int _, n, m, l, h => by simp [D.cl]
  | .str _, n, m, l, h => by simp [D.cl]
  | .ty _, n, m, l, h => by simp [D.cl]
  | .loc _, n, m, l, h => by simp [D.cl]
  | .exc _ gs, n, m, l, h => by unfold D.cl at h ⊢; exact clF_mono gs l h
theorem clL_mono : ∀ (d : List D) {n m : Nat}, n ≤ m → clL d n = true → clL d m = true
  | [], _, _, _, _ => by simp [clL]
  | x :: xs, n, m, l, h => by
    unfold clL at h ⊢; simp at h ⊢
    exact ⟨D.cl_mono x l h.1, clL_mono xs l h.2⟩
theorem clF_mono : ∀ (d : List (Str × D)) {n m : Nat}, n ≤ m → clF d n = true → clF d m = true
  | [], _, _, _, _ => by simp [clF]
  | (_, x) :: xs, n, m, l, h => by
    unfold clF at h ⊢; simp at h ⊢
    exact ⟨D.cl_mono x l h.1, clF_mono xs l h.2⟩
theorem clK_mono : ∀ (d : List (Key × D)) {n m : Nat}, n ≤ m → clK d n = true → clK d m = true
  | [], _, _, _, _ => by simp [clK]
  | (_, x) :: xs, n, m, l, h => by
    unfold clK at h ⊢; simp at h ⊢
    exact ⟨D.cl_mono x l h.1, clK_mono xs l h.2⟩
end
theorem MO.cl_mono (o : MO) {n m : Nat} (l : n ≤ m) (h : o.cl n = true) : o.cl m = true := by
  cases o with
  | dead => rfl
  | lst xs => exact clL_mono xs l h
  | ins _ gs => exact clF_mono gs l h
  | dK gs => exact clK_mono gs l h
  | dT gs => exact clL_mono _ l h
  | tab _ _ => rfl
theorem MuCl.mono {μ : Mu} {n m : Nat} (h : MuCl μ n) (l : n ≤ m) : MuCl μ m := fun o ho => MO.cl_mono o l (h o ho)
theorem MuCl.app {μ : Mu} {o : MO} (h : MuCl μ μ.length) (ho : o.cl μ.length = true) : MuCl (μ ++ [o]) (μ ++ [o]).length := fun x hx => by
  rw [List.length_append]
  rcases List.mem_append.mp hx with m | m
  · exact MO.cl_mono x (by simp) (h x m)
  · simp at m; subst m; exact MO.cl_mono _ (by simp) ho
theorem br {b : Bool} {A C : Prop} (h1 : b = true → A) (h2 : b = false → C) : (b = true → A) ∧ (b = false → C) := ⟨h1, h2⟩
theorem br' {b : Bool} {A C : Prop} (h1 : b = false → A) (h2 : b = true → C) : (b = false → A) ∧ (b = true → C) := ⟨h1, h2⟩
theorem Wk.now {μ : Mu} {x : D} {ds : List D} {S : Mu → Prop} (h : Wk μ x ds S) : S μ := by
  cases h with
  | own h => exact h
  | _ => trivial
theorem Ls.wk {μ : Mu} {x : D} {ds : List D} (h : Ls μ x ds) : ∃ S, Wk μ x ds S := by
  cases h with
  | lst => exact ⟨_, .lst _⟩
  | rdl => exact ⟨_, .rdl _⟩
  | own h => exact ⟨_, .own h⟩
section
variable {K : PySem.W.Frag} {B : Bs} {ρ : En} {μ : Mu} {te : TE} {tt : TT} {wi : TI} {g : TG} {vs : List Nat} {P : D → Mu → Prop}
/-- [f d for d in ds], nothing changes -/
theorem lc_map (f : D → D) (hg : GW g vs) (h : DI K B wi ρ μ fun ds S μ1 => S μ1 ∧ ds.length ≤ 100000 ∧ (∀ (i : Nat) (d : D), ds[i]? = some d → DG K B g d (wipeD ρ vs) μ1 fun ρ2 μ2 => μ2 = μ1 ∧ DE K B te ρ2 μ1 fun y μ3 => y = f d ∧ μ3 = μ1) ∧ ∀ out, ds.map f = out → P (.lst out) μ1) : DE K B (tLc wi g tYes te vs) ρ μ P := by
  refine de_lc hg fun σ G H al hB hσ hA R hR => h σ G H al hB hσ hA R fun J ds S μ1 G1 H1 al1 n1 A1 ok p => hR J ds S μ1 G1 H1 al1 n1 A1 ok ?_
  obtain ⟨hS, hl, hs, hp⟩ := p
  refine ⟨hl, fun i acc μ' => acc = (ds.take i).map f ∧ μ' = μ1, ⟨by simp, rfl⟩, fun i acc μ' _ h => by rw [h.2]; exact hS, fun i d acc μ' hd h => ?_, fun acc μ' h => ?_⟩
  · obtain ⟨rfl, rfl⟩ := h
    refine fun σ G H al v hB hσ hA rv Q hQ => hs i d hd σ G H al v hB hσ hA rv Q fun σ2 ρ2 μ2 G2 H2 al2 n2 hσ2 A2 p2 => hQ σ2 ρ2 μ2 G2 H2 al2 n2 hσ2 A2 ?_
    obtain ⟨rfl, p2⟩ := p2
    refine dt_yes ⟨fun _ => p2.imp fun y μ3 ⟨e1, e2⟩ => ⟨?_, e2⟩, fun z => by cases z⟩
    rw [e1, List.take_add_one, hd]
    simp
  · obtain ⟨rfl, rfl⟩ := h
    rw [List.take_length]
    exact hp _ rfl
/-- [f d for d in ds if p d] -/
theorem lc_filt (p : D → Bool) (f : D → D) (hg : GW g vs) (h : DI K B wi ρ μ fun ds S μ1 => S μ1 ∧ ds.length ≤ 100000 ∧ (∀ (i : Nat) (d : D), ds[i]? = some d → DG K B g d (wipeD ρ vs) μ1 fun ρ2 μ2 => μ2 = μ1 ∧ DT K B tt ρ2 μ1 fun b μ3 => b = p d ∧ μ3 = μ1 ∧ (b = true → DE K B te ρ2 μ1 fun y μ4 => y = f d ∧ μ4 = μ1)) ∧ ∀ out, (ds.filter p).map f = out → P (.lst out) μ1) : DE K B (tLc wi g tt te vs) ρ μ P := by
  refine de_lc hg fun σ G H al hB hσ hA R hR => h σ G H al hB hσ hA R fun J ds S μ1 G1 H1 al1 n1 A1 ok p' => hR J ds S μ1 G1 H1 al1 n1 A1 ok ?_
  obtain ⟨hS, hl, hs, hp⟩ := p'
  refine ⟨hl, fun i acc μ' => acc = ((ds.take i).filter p).map f ∧ μ' = μ1, ⟨by simp, rfl⟩, fun i acc μ' _ h => by rw [h.2]; exact hS, fun i d acc μ' hd h => ?_, fun acc μ' h => ?_⟩
  · obtain ⟨rfl, rfl⟩ := h
    refine fun σ G H al v hB hσ hA rv Q hQ => hs i d hd σ G H al v hB hσ hA rv Q fun σ2 ρ2 μ2 G2 H2 al2 n2 hσ2 A2 p2 => hQ σ2 ρ2 μ2 G2 H2 al2 n2 hσ2 A2 ?_
    obtain ⟨rfl, p2⟩ := p2
    refine fun σ G H al hB hσ hA Q hQ => p2 σ G H al hB hσ hA Q fun b μ3 G3 H3 al3 n3 A3 p3 => hQ b μ3 G3 H3 al3 n3 A3 ?_
    obtain ⟨hb, rfl, p3⟩ := p3
    have e : (List.take (i + 1) ds) = List.take i ds ++ [d] := by rw [List.take_add_one, hd]; rfl
    refine ⟨fun hbt => (p3 hbt).imp fun y μ4 ⟨e1, e2⟩ => ⟨?_, e2⟩, fun hbf => ⟨?_, rfl⟩⟩
    · rw [e, List.filter_append, List.map_append, e1]
      rw [hb] at hbt
      simp [hbt]
    · rw [e, List.filter_append, List.map_append]
      rw [hb] at hbf
      simp [hbf]
  · obtain ⟨rfl, rfl⟩ := h
    rw [List.take_length]
    exact hp _ rfl
end
end Dl

set_option Elab.async false
set_option linter.all false
set_option maxRecDepth 100000
namespace Dl
open PySem L2 PyProof.Rows
/-- a law's end: the written part, the function object, the contract over every base -/
theorem walk_ofW {l : PySem.W.OpenLaw} {n k : Nat} {q : Program} {loose : List Str} {XP : (Str → Option Value) → Heap → Prop} {YP : World → Heap → Prop} {d : DefRec} {x : Str}
    (hn : l.most = some n) (hn2 : n ≤ sizeLine) (hdf : d.params.defaults = []) (hr : Room k callerA)
    (F : ∀ (w : World) (mg : Str → Option Value) (fa : Addr) (h : Heap), YP w h → h.Ns mainGlobals mg → mg d.name = some (.ref fa) →
      ∃ (K : PySem.W.Frag) (fd : FuncData) (sp : Sp), K.In h ∧ (∀ (s : Shared) (u : Value), BindsTo s fd ⟨[u], []⟩ [(x, u)]) ∧
        (∀ (H : Hp) (a : Addr) (ns : List Int), ns.length ≤ n → Only H → SqL K H a (ns.map V.int) → sp [.ref a] H (fun v _ => v = .bl true) fun _ _ _ => False) ∧
        ∀ base : Heap, K.In base → base.Ns mainGlobals mg → FnOk l.prog w K mg base (L2.CX l.prog w) k fa fd [x] sp) :
    PySem.W.WalkO q loose XP YP l.row.toRowW d [] (fun f vs => PySem.call f vs) := by
  refine Att.attach_call hn hdf fun w s0 s1 mg mb fa o pm cd doc a vs ns G Y ho hd hcd hmg hobj hints hlen hg => ?_
  obtain ⟨K, fd, sp, KX, hb, hsp, hF⟩ := F w mg fa _ Y G.T.g hmg
  refine law_call KX G.T.g G.T.b G.T.builtins G.T.nolimit hg hobj hints (Nat.le_trans hlen hn2) hr hF hb (fun H hO hS => hsp H a ns hlen hO hS) fun H e s' c => ?_
  obtain ⟨_, _, _, _, _, _, _, _, _, _, _, _, z⟩ := c
  exact z
theorem law_sp {K : PySem.W.Frag} {H : Hp} {a : Addr} {ns : List Int} {C : CT} (hS : SqL K H a (ns.map V.int)) (h : C [.rdl (ns.map D.int)] [] (fun d _ => d = .bl true) (fun _ _ _ => False)) : spD K C [.ref a] H (fun v _ => v = .bl true) (fun _ _ _ => False) := by
  refine ⟨H, [], [.rdl (ns.map D.int)], [], _, _, ⟨Same.refl _, by simp, rfl, by simp, fun k a o e _ => by simp at e⟩, .cons (.rdl hS (Rps.of_ints ns)) .nil, h, ?_, ?_⟩
  · intro v d μ' G' H' al' _ _ r p
    subst p
    cases r
    rfl
  · intro C fs dd μ' G' H' al' _ _ _ p
    exact p
end Dl

set_option Elab.async false
set_option linter.all false
set_option maxRecDepth 100000
namespace Dl
open PySem L2 PyProof.Rows
section
variable {K : PySem.W.Frag} {B : Bs} {ρ : En} {μ : Mu} {P : D → Mu → Prop} {te : TE} {x y : D} {ds : List D} {i j : Int}
/-- xs[::-1] -/
theorem de_revL (h : DE K B te ρ μ fun x μ1 => ∃ ds, Ls μ1 x ds ∧ P (.lst ds.reverse) μ1) : DE K B (tRevL K te) ρ μ P := fun σ G H al hB hσ hA Q hQ =>
  h σ G H al hB hσ hA _ fun v d μ1 G1 H1 al1 n1 A1 r1 p1 => by
    obtain ⟨ds, ls, p⟩ := p1
    obtain ⟨a, vs, rfl, sq, rs⟩ := ls.get A1 r1
    refine ⟨a, vs, rfl, sq, fun p' hp => ?_⟩
    obtain ⟨A2, n2⟩ := A1.frz (o := .lst vs.reverse) hp
    exact hQ _ _ μ1 _ _ _ (n1.trans n2) A2 (.lst upd_same (rs.reverse.nx n2)) p
theorem inV_ints (i : Int) (ns : List Int) : inV (.int i) (ns.map V.int) = decide (i ∈ ns) := by
  unfold inV
  induction ns with
  | nil => simp
  | cons n ns ih =>
    rw [List.map_cons, List.any_cons, ih]
    by_cases h : n = i
    · subst h; simp [eqV]
    · have h2 : ¬ i = n := fun e => h e.symm
      simp [eqV, h, h2]
theorem inV_strs (i : Str) (ns : List Str) : inV (.str i) (ns.map V.str) = decide (i ∈ ns) := by
  unfold inV
  induction ns with
  | nil => simp
  | cons n ns ih =>
    rw [List.map_cons, List.any_cons, ih]
    by_cases h : n = i
    · subst h; simp [eqV]
    · have h2 : ¬ i = n := fun e => h e.symm
      simp [eqV, h, h2]
theorem flat_ints (ns : List Int) : (ns.map V.int).all flatV = true := by simp [flatV]
theorem flat_strs (ns : List Str) : (ns.map V.str).all flatV = true := by simp [flatV]
theorem ro_inI {ns : List Int} (hl : Ls μ y (ns.map D.int)) (h : P (.bl (decide (i ∈ ns))) μ) : RO K (rInA K) (.int i) y μ P := fun G H al v w A r1 r2 Q hQ => by
  obtain ⟨a, vs, rfl, sq, rs⟩ := hl.get A r2
  cases r1
  have e := rs.ints; subst e
  refine .inl ⟨a, _, rfl, .inl sq, rfl, flat_ints ns, hQ.now A (.bl _) ?_⟩
  rw [if_neg (by simp), inV_ints]; exact h
theorem ro_notInI {ns : List Int} (hl : Ls μ y (ns.map D.int)) (h : P (.bl (!decide (i ∈ ns))) μ) : RO K (rNotInA K) (.int i) y μ P := fun G H al v w A r1 r2 Q hQ => by
  obtain ⟨a, vs, rfl, sq, rs⟩ := hl.get A r2
  cases r1
  have e := rs.ints; subst e
  refine .inl ⟨a, _, rfl, .inl sq, rfl, flat_ints ns, hQ.now A (.bl _) ?_⟩
  rw [if_pos rfl, inV_ints]; exact h
theorem ro_inS {s : Str} {ns : List Str} (hl : Ls μ y (ns.map D.str)) (h : P (.bl (decide (s ∈ ns))) μ) : RO K (rInA K) (.str s) y μ P := fun G H al v w A r1 r2 Q hQ => by
  obtain ⟨a, vs, rfl, sq, rs⟩ := hl.get A r2
  cases r1
  have e := rs.strs; subst e
  refine .inl ⟨a, _, rfl, .inl sq, rfl, flat_strs ns, hQ.now A (.bl _) ?_⟩
  rw [if_neg (by simp), inV_strs]; exact h
theorem ro_notInS {s : Str} {ns : List Str} (hl : Ls μ y (ns.map D.str)) (h : P (.bl (!decide (s ∈ ns))) μ) : RO K (rNotInA K) (.str s) y μ P := fun G H al v w A r1 r2 Q hQ => by
  obtain ⟨a, vs, rfl, sq, rs⟩ := hl.get A r2
  cases r1
  have e := rs.strs; subst e
  refine .inl ⟨a, _, rfl, .inl sq, rfl, flat_strs ns, hQ.now A (.bl _) ?_⟩
  rw [if_pos rfl, inV_strs]; exact h
theorem eqv_nil (ds : List D) : eqvD (.lst ds) (.lst []) = decide (ds = []) := by
  cases ds with
  | nil => simp [eqvD_lst, eqvL, pyL, PyData.eqvAll]
  | cons d ds => simp [eqvD_lst, eqvL, pyL, PyData.eqvAll]
theorem ro_neNil {n : Nat} (hx : Fz μ x (.lst ds)) (hs : shpL ds n = true) (h : P (.bl (!decide (ds = []))) μ) (hn : n ≤ 63 := by decide) : RO K (rNeD K) x (.lst []) μ P :=
  ro_neD (n := n + 1) (m := 1) hx (.id _) (by simpa [D.shp] using hs) rfl (by rw [eqv_nil]; exact h) (by omega)
theorem ro_eqNil {n : Nat} (hx : Fz μ x (.lst ds)) (hs : shpL ds n = true) (h : P (.bl (decide (ds = []))) μ) (hn : n ≤ 63 := by decide) : RO K (rEqD K) x (.lst []) μ P :=
  ro_eqD (n := n + 1) (m := 1) hx (.id _) (by simpa [D.shp] using hs) rfl (by rw [eqv_nil]; exact h) (by omega)
/-- .. of at most a hundred thousand -/
def Sz (n : Nat) : Prop := n ≤ 100000
theorem de_tupZ {ts : TA} (h : DA K B ts ρ μ fun xs μ1 => Sz xs.length ∧ P (.tup xs) μ1) : DE K B (tTup ts) ρ μ P := de_tup h
theorem de_lstZ {ts : TA} (h : DA K B ts ρ μ fun xs μ1 => Sz xs.length ∧ P (.lst xs) μ1) : DE K B (tLst ts) ρ μ P := de_lst h
theorem de_lstOZ {ts : TA} (h : DA K B ts ρ μ fun xs μ1 => Sz xs.length ∧ P (.own μ1.length) (μ1 ++ [.lst xs])) : DE K B (tLst ts) ρ μ P := de_lstO h
/-- two things -/
def Two (ds : List D) (F : D → D → Prop) : Prop := ∃ x y, ds = [x, y] ∧ F x y
theorem two_i {F : D → D → Prop} (h : F x y) : Two [x, y] F := ⟨x, y, rfl, h⟩
theorem ds_parZ {ts : TA} {i j : Nat} {P : DEnds} (h : DA K B ts ρ μ fun ds μ1 => Two ds fun x y => P.nx ((ρ.set i (some x)).set j (some y)) μ1) : DS K B (tPar i j ts) ρ μ P := ds_par h
theorem q_parZ {ts : TA} {i j : Nat} {u : TS} {P : DEnds} (h : DA K B ts ρ μ fun ds μ1 => Two ds fun x y => DS K B u ((ρ.set i (some x)).set j (some y)) μ1 P) : DS K B (tSeq (tPar i j ts) u) ρ μ P := q_par h
theorem rs_anyL {lo hi : Option Int} (hl : Ls μ x ds) (h : P (.lst (cutD ds lo hi)) μ) : RS K (rSlA K) x lo hi μ P := fun G H al v A r Q hQ => .inl (rs_lst hl h G H al v A r Q hQ)
end
theorem cut_nat {xs : List D} {f e : Int} (h0 : 0 ≤ f) (h1 : f ≤ e) (h2 : e ≤ xs.length) : cutD xs (some f) (some e) = (xs.drop f.toNat).take (e - f).toNat := by
  unfold cutD
  have e1 : HT.sIx xs.length 0 (some f) = f.toNat := by
    have := HT.sIx_nat xs.length 0 f.toNat
    rw [show ((f.toNat : Nat) : Int) = f by omega] at this
    rw [this]; omega
  have e2 : HT.sIx xs.length xs.length (some e) = e.toNat := by
    have := HT.sIx_nat xs.length xs.length e.toNat
    rw [show ((e.toNat : Nat) : Int) = e by omega] at this
    rw [this]; omega
  rw [e1, e2]
  congr 1
  omega
end Dl

set_option Elab.async false
set_option linter.all false
set_option maxRecDepth 100000
namespace L2
open PySem PySem.Spec PyProof.Rows
section
variable {X : Cx}
/-- o[i] of a list, by values -/
theorem get_list : PGet X (rIxL X.K) := by
  intro pins s σ H x y v u Q I rx ry h
  obtain ⟨p, xs, i, z, rfl, rfl, hq, he, q⟩ := h
  cases rx
  obtain ⟨t, rfl⟩ := ry
  obtain ⟨its, r, pl, hz⟩ := I.list hq
  obtain ⟨j, h1, h2, h3, h4, h5⟩ := atI_get he
  obtain ⟨w, ew, rw'⟩ := r.get h2
  have hl := r.length
  have hn := line63
  have fin : EP X pins σ Q w s := ⟨z, H, I, rw', q⟩
  by_cases h0 : 0 ≤ i
  · have hj : i.toNat = j := by
      rw [seqIndex_of h0 h5] at h1
      exact Option.some.inj h1
    exact wpAny_getItem_list pl.isList h0 (by omega) (by rw [hj]; simpa using ew) fin
  · have hj : (i + (its.toArray.size : Int)).toNat = j := by
      rw [seqIndex_neg (by omega) h4] at h1
      rw [List.size_toArray, ← hl]
      exact Option.some.inj h1
    exact wpAny_getItem_list_neg pl.isList (by omega) (by rw [List.size_toArray] <;> omega) (by omega) (by rw [hj]; simpa using ew) fin
end
end L2
namespace Dl
open PySem L2 PyProof.Rows
section
variable {K : PySem.W.Frag} {B : Bs} {ρ : En} {μ : Mu} {te to ti : TE} {t u : TS} {x y d : D} {ds : List D} {i j : Int}
theorem ro_ixLL {P : D → Mu → Prop} (hl : Ls μ x ds) (e : atI ds i = some d) (h : P d μ) : RO K (rIxL K) x (.int i) μ P := fun G H al v w A r1 r2 Q hQ => by
  obtain ⟨a, vs, rfl, sq, rs⟩ := hl.get A r1
  cases r2
  obtain ⟨w, hw, rw'⟩ := atI_rps rs e
  exact ⟨a, vs, i, w, rfl, rfl, sq, hw, hQ.now A rw' h⟩
theorem ds_augS {P : DEnds} {tip : TIp} {tset : TSet} {tget : V → V → Hp → VK → Prop} (h : DE K B to ρ μ fun o μ1 => DE K B ti ρ μ1 fun i μ2 => RO K tget o i μ2 fun x μ3 => DE K B te ρ μ3 fun y μ4 => RO K tip x y μ4 fun z μ5 => RSet K tset o i z μ5 fun μ6 => P.nx ρ μ6) : DS K B (tAugS to ti te tget tip tset) ρ μ P := fun σ G H al hB hσ hA De hD =>
  h σ G H al hB hσ hA _ fun vo o μ1 G1 H1 al1 n1 A1 r1 p1 => p1 σ G1 H1 al1 (hB.trans n1) (hσ.nx n1) A1 _ fun vi i μ2 G2 H2 al2 n2 A2 r2 p2 =>
    p2 G2 H2 al2 vo vi A2 (r1.nx n2) r2 _ fun vx x μ3 G3 H3 al3 n3 A3 r3 p3 =>
      p3 σ G3 H3 al3 ((hB.trans n1).trans (n2.trans n3)) (((hσ.nx n1).nx n2).nx n3) A3 _ fun vy y μ4 G4 H4 al4 n4 A4 r4 p4 =>
        p4 G4 H4 al4 vx vy A4 (r3.nx n4) r4 _ fun vz z μ5 G5 H5 al5 n5 A5 r5 p5 =>
          p5 G5 H5 al5 vo vi vz A5 ((((r1.nx n2).nx n3).nx n4).nx n5) (((r2.nx n3).nx n4).nx n5) r5 _ fun μ6 G6 H6 al6 n6 A6 p6 =>
            hD.nx _ _ μ6 G6 H6 al6 (((((n1.trans n2).trans n3).trans n4).trans n5).trans n6) ((((((hσ.nx n1).nx n2).nx n3).nx n4).nx n5).nx n6) A6 p6
theorem q_augS {P : DEnds} {tip : TIp} {tset : TSet} {tget : V → V → Hp → VK → Prop} (h : DE K B to ρ μ fun o μ1 => DE K B ti ρ μ1 fun i μ2 => RO K tget o i μ2 fun x μ3 => DE K B te ρ μ3 fun y μ4 => RO K tip x y μ4 fun z μ5 => RSet K tset o i z μ5 fun μ6 => DS K B u ρ μ6 P) : DS K B (tSeq (tAugS to ti te tget tip tset) u) ρ μ P := ds_seq (ds_augS h)
/-! ### fields, methods -/
/-- a field's data -/
def FldP (K : PySem.W.Frag) (μ : Mu) (x : D) (f : Str) (P : D → Prop) : Prop := ∃ C gs d, (x = .obj C gs ∨ ∃ k, x = .own k ∧ μ[k]? = some (.ins C gs)) ∧ Cls K C ∧ NoAttr K C f ∧ gs.lookup f = some d ∧ P d
theorem de_fldZ {f : Str} {P : D → Mu → Prop} (h : DE K B te ρ μ fun x μ1 => FldP K μ1 x f fun d => P d μ1) : DE K B (tFld K te f) ρ μ P := de_fld h
theorem fp_obj {f : Str} {C : Addr} {gs : List (Str × D)} {P : D → Prop} (c : Cls K C) (n : NoAttr K C f) (l : gs.lookup f = some d) (h : P d) : FldP K μ (.obj C gs) f P := ⟨C, gs, d, .inl rfl, c, n, l, h⟩
theorem fp_own {f : Str} {k : Nat} {C : Addr} {gs : List (Str × D)} {P : D → Prop} (hk : μ[k]? = some (.ins C gs)) (c : Cls K C) (n : NoAttr K C f) (l : gs.lookup f = some d) (h : P d) : FldP K μ (.own k) f P := ⟨C, gs, d, .inr ⟨k, rfl, hk⟩, c, n, l, h⟩
def MethP (μ : Mu) (Cc : Addr) (m : Str) (x : D) (P : Prop) : Prop := ∃ gs, (x = .obj Cc gs ∨ ∃ k, x = .own k ∧ μ[k]? = some (.ins Cc gs)) ∧ gs.lookup m = none ∧ P
theorem de_methZ {Cc : Addr} {m : Str} {C : CT} {E : XK} {PX : PXT} {ts : TA} {P : D → Mu → Prop} (hE : XAg K B PX E) (h : DE K B te ρ μ fun x μ1 => MethP μ1 Cc m x (DA K B ts ρ μ1 fun ds μ2 => C (x :: ds) μ2 P PX)) : DE K B (tMeth Cc m (spD K C) [] E te ts) ρ μ P := de_meth hE h
theorem mp_obj {Cc : Addr} {m : Str} {gs : List (Str × D)} {P : Prop} (l : gs.lookup m = none) (h : P) : MethP μ Cc m (.obj Cc gs) P := ⟨gs, .inl rfl, l, h⟩
theorem mp_own {Cc : Addr} {m : Str} {k : Nat} {gs : List (Str × D)} {P : Prop} (hk : μ[k]? = some (.ins Cc gs)) (l : gs.lookup m = none) (h : P) : MethP μ Cc m (.own k) P := ⟨gs, .inr ⟨k, rfl, hk⟩, l, h⟩
/-- a store into a field -/
def PutP (K : PySem.W.Frag) (μ : Mu) (x y : D) (f : Str) (P : Mu → Prop) : Prop := ∃ k C gs, x = .own k ∧ μ[k]? = some (.ins C gs) ∧ Cls K C ∧ NoAttr K C f ∧ gs.length < 1000 ∧ P (μ.set k (.ins C (putD f y gs)))
theorem ds_fldZ {f : Str} {tb : TE} {P : DEnds} (h : DE K B tb ρ μ fun y μ1 => DE K B te ρ μ1 fun x μ2 => PutP K μ2 x y f fun μ3 => P.nx ρ μ3) : DS K B (sFld K te tb f) ρ μ P := ds_fld h
theorem q_fldZ {f : Str} {tb : TE} {P : DEnds} (h : DE K B tb ρ μ fun y μ1 => DE K B te ρ μ1 fun x μ2 => PutP K μ2 x y f fun μ3 => DS K B u ρ μ3 P) : DS K B (tSeq (sFld K te tb f) u) ρ μ P := q_fld h
theorem pp_own {f : Str} {k : Nat} {C : Addr} {gs : List (Str × D)} {P : Mu → Prop} (hk : μ[k]? = some (.ins C gs)) (c : Cls K C) (n : NoAttr K C f) (l : gs.length < 1000) (h : P (μ.set k (.ins C (putD f y gs)))) : PutP K μ (.own k) y f P := ⟨k, C, gs, rfl, hk, c, n, l, h⟩
theorem q_fldAug {f : Str} {tb : TE} {r : V → V → Hp → VK → Prop} {P : DEnds} (h : DE K B te ρ μ fun x μ1 => ∃ k C gs d, x = .own k ∧ μ1[k]? = some (.ins C gs) ∧ Cls K C ∧ NoAttr K C f ∧ gs.lookup f = some d ∧
      DE K B tb ρ μ1 fun y μ2 => RO K r d y μ2 fun z μ3 => ∃ gs', μ3[k]? = some (.ins C gs') ∧ gs'.length < 1000 ∧ DS K B u ρ (μ3.set k (.ins C (putD f z gs'))) P) : DS K B (tSeq (sFldAug K te tb r f) u) ρ μ P := ds_seq (ds_fldAug h)
/-! ### steps in thought alone: what is known of the store is put otherwise -/
def Gh (K : PySem.W.Frag) (μ μ2 : Mu) : Prop := ∀ G H al, As K G H al μ → ∃ G', As K G' H al μ2 ∧ Nx G H al G' H al
theorem Gh.refl : Gh K μ μ := fun G H al A => ⟨G, A, .refl⟩
theorem Gh.trans {μ1 μ2 : Mu} (h : Gh K μ μ1) (h' : Gh K μ1 μ2) : Gh K μ μ2 := fun G H al A => by
  obtain ⟨G1, A1, n1⟩ := h G H al A
  obtain ⟨G2, A2, n2⟩ := h' G1 H al A1
  exact ⟨G2, A2, n1.trans n2⟩
theorem ds_ghost {P : DEnds} {μ2 : Mu} (g : Gh K μ μ2) (h : DS K B t ρ μ2 P) : DS K B t ρ μ P := fun σ G H al hB hσ hA De hD => by
  obtain ⟨G1, A1, n1⟩ := g G H al hA
  exact h σ G1 H al (hB.trans n1) (hσ.nx n1) A1 De (hD.nx' n1)
/-- .. behind a statement -/
theorem ds_ghostN {P : DEnds} (h : DS K B t ρ μ { P with nx := fun ρ1 μ1 => ∃ μ2, Gh K μ1 μ2 ∧ P.nx ρ1 μ2 }) : DS K B t ρ μ P := fun σ G H al hB hσ hA De hD =>
  h σ G H al hB hσ hA De ⟨fun σ' ρ' μ' G' H' al' n' hσ' A' p => by
    obtain ⟨μ2, g, p⟩ := p
    obtain ⟨G1, A1, n1⟩ := g G' H' al' A'
    exact hD.nx σ' ρ' μ2 G1 H' al' (n'.trans n1) (hσ'.nx n1) A1 p, hD.rt, hD.bk, hD.ct⟩
theorem de_ghost {P : D → Mu → Prop} (h : DE K B te ρ μ fun d μ1 => ∃ μ2, Gh K μ1 μ2 ∧ P d μ2) : DE K B te ρ μ P := fun σ G H al hB hσ hA Q hQ =>
  h σ G H al hB hσ hA Q fun v d μ1 G1 H1 al1 n1 A1 r1 p => by
    obtain ⟨μ2, g, p⟩ := p
    obtain ⟨G2, A2, n2⟩ := g G1 H1 al1 A1
    exact hQ v d μ2 G2 H1 al1 (n1.trans n2) A2 (r1.nx n2) p
end
theorem rpf_own {K : PySem.W.Frag} {G : Hp} {al : List Addr} {a : Addr} {j : Nat} {d : D} {f : Str} (ha : al[j]? = some a) (r : Rp K G al (.ref a) d) : ∀ {gs : List (Str × D)} {fs : List (Str × V)}, Rpf K G al fs gs → gs.lookup f = some (.own j) → Rpf K G al fs (putD f d gs)
  | [], _, _, e => by simp at e
  | (g, x) :: gs, _, h, e => by
    cases h with
    | @cons _ v vs _ _ r0 t =>
      unfold putD
      rw [List.lookup_cons] at e
      split
      · rename_i hg
        subst hg
        simp at e
        subst e
        cases r0 with
        | own e2 => rw [ha] at e2; cases e2; exact .cons r t
      · rename_i hg
        have hg2 : (f == g) = false := by simp; exact fun e => hg e.symm
        rw [hg2] at e
        exact .cons r0 (rpf_own ha r t e)
/-- a list in a field is frozen -/
theorem gh_fld {K : PySem.W.Frag} {μ : Mu} {k j : Nat} {C : Addr} {gs : List (Str × D)} {f : Str} {ds : List D} (hk : μ[k]? = some (.ins C gs)) (hl : gs.lookup f = some (.own j)) (hj : μ[j]? = some (.lst ds)) : Gh K μ ((μ.set j .dead).set k (.ins C (putD f (.lst ds) gs))) := fun G H al A => by
  obtain ⟨a, ha, ga, vs, hv, rs⟩ := A.get hj
  obtain ⟨A1, n1⟩ := A.freeze ha hv ga
  have hjk : j ≠ k := fun e => by rw [e, hk] at hj; cases hj
  have hk1 : (μ.set j .dead)[k]? = some (.ins C gs) := by rw [List.getElem?_set_ne hjk]; exact hk
  obtain ⟨b, hb, gb, dx, fs, hfs, rf⟩ := A1.get hk1
  have r2 : Rp K (upd G a (.lst vs)) al (.ref a) (.lst ds) := .lst upd_same (rs.nx n1)
  have hup : upd H b (.ins C dx fs) = H := by
    funext z
    by_cases hz : z = b
    · subst hz; rw [upd_same, hfs]
    · rw [upd_ne hz]
  obtain ⟨A2, n2⟩ := A1.put (o := .ins C dx fs) (m' := .ins C (putD f (.lst ds) gs)) hb hk1 (by simp) ⟨gb, dx, fs, upd_same, rpf_own ha r2 rf hl⟩
  rw [hup] at A2 n2
  exact ⟨_, A2, n1.trans n2⟩
/-- a list that may change is frozen; slots keep naming it -/
theorem gh_dead {K : PySem.W.Frag} {μ : Mu} {j : Nat} {ds : List D} (hj : μ[j]? = some (.lst ds)) : Gh K μ (μ.set j .dead) := fun G H al A => by
  obtain ⟨a, ha, ga, vs, hv, rs⟩ := A.get hj
  obtain ⟨A1, n1⟩ := A.freeze ha hv ga
  exact ⟨_, A1, n1⟩
theorem atNN {α : Type} {xs : List α} {i : Int} (h0 : 0 ≤ i) (h1 : i < xs.length) : ∃ x, atI xs i = some x ∧ xs[i.toNat]? = some x := by
  have h : i.toNat < xs.length := by omega
  refine ⟨xs[i.toNat], ?_, List.getElem?_eq_getElem h⟩
  have e : ((i.toNat : Nat) : Int) = i := by omega
  have := atI_nat (List.getElem?_eq_getElem h)
  rw [e] at this
  exact this
theorem log2S {m : Int} (h0 : 0 < m) (h : m < 2 ^ 200) : m.natAbs.log2 < 9000 := by
  have h1 : m.natAbs < 2 ^ 200 := by omega
  have : m.natAbs.log2 < 200 := (Nat.log2_lt (by omega)).mpr h1
  omega
end Dl

set_option Elab.async false
set_option linter.all false
set_option maxRecDepth 100000
/-! sets of any number of texts: how many there are -/
namespace DlSet
open PySem PySem.Spec PyProof.Rows
abbrev setO (led : Bool) : Obj := { cls := .type "set", dict := none, data := .set #[] 0 (.fresh 0 0 led) }
def ded (xs : List Str) (i : Nat) : List Str := (xs.take i).foldl (fun σ v => if σ.any (· == v) then σ else σ ++ [v]) []
theorem ded_succ {xs : List Str} {i : Nat} {x : Str} (h : xs[i]? = some x) : ded xs (i + 1) = if (ded xs i).any (· == x) then ded xs i else ded xs i ++ [x] := by
  unfold ded
  rw [List.take_add_one, h, List.foldl_append]
  rfl
theorem ded_len (xs : List Str) (i : Nat) : (ded xs i).length ≤ i := by
  induction i with
  | zero => simp [ded]
  | succ i ih =>
    cases q : xs[i]? with
    | none =>
      have : xs.take (i + 1) = xs.take i := by rw [List.take_add_one, q]; simp
      unfold ded at ih ⊢
      rw [this]; omega
    | some x =>
      rw [ded_succ q]
      split
      · omega
      · simp; omega
section
variable {prog : Program} {w : World} {A : Around} {R : Result → Shared → Prop} {I : Addr} {fp wr : List Addr} {G : Array GenState → Array GenState → Prop} {n : Nat} {P : Nat → Value → Prop} {St : Nat → Shared → Prop}
theorem loopS (W : WalksS prog w A.in1 I fp wr G n P St) (S : Addr) (hSf : S ∉ fp) (xs : List Str) (hsz : xs.length = n) (hb : n + 1 < scanBound)
    (hval : ∀ i v, P i v → ∃ t, v = .str (xs.getD i Str.empty) t) :
    ∀ (k i : Nat) (s : Shared), n - i = k → i ≤ n → St i s →
      s.heap.SetOf (PySem.strKind prog w) S (fun k' => (ded xs i).any (· == k')) (ded xs i).length →
      (∀ s', Moved (S :: wr) G s s' → s'.heap.SetOf (PySem.strKind prog w) S (fun k' => (ded xs n).any (· == k')) (ded xs n).length → R (.ok (.ret .none)) s') →
      codeAny (model prog w) A (.builtin "set.update.loop" ⟨[.ref S, .ref I], []⟩) R s := by
  have hSw : S ∉ wr := fun h => hSf (W.sub _ h)
  have hsub : ∀ b ∈ wr, b ∈ S :: wr := fun b hb => List.mem_cons_of_mem _ hb
  intro k
  induction k with
  | zero =>
    intro i s hk hi hst hS hR
    have hin : i = n := by omega
    subst hin
    refine codeAny_builtin PyProof.Rows.F.entry_set_update_loop ?_
    rw [Around.under_plainId PyProof.Rows.F.plain_set_update_loop _]
    show wpAny _ A.in1 (pyNext (.ref I) >>= _) _ _ s
    refine wpAny_bind (W.done s _ _ hst fun s' hm => ?_)
    show wpAny _ A.in1 (ret Value.none) _ _ s'
    refine wpAny_pure (hR s' (hm.mono hsub) ?_)
    obtain ⟨o, es, ep, t, ho, rest⟩ := hS
    exact ⟨o, es, ep, t, hm.heap S _ hSw ho, rest⟩
  | succ k ih =>
    intro i s hk hi hst hS hR
    have hlt : i < n := by omega
    have hx : xs[i]? = some (xs.getD i Str.empty) := by
      rw [List.getD_eq_getElem?_getD, List.getElem?_eq_getElem (by omega)]
      rfl
    refine codeAny_builtin PyProof.Rows.F.entry_set_update_loop ?_
    rw [Around.under_plainId PyProof.Rows.F.plain_set_update_loop _]
    show wpAny _ A.in1 (pyNext (.ref I) >>= _) _ _ s
    refine wpAny_bind (W.item i s _ _ hlt hst fun v s' hP hst' hm => ?_)
    obtain ⟨t, rfl⟩ := hval i v hP
    have hS' : s'.heap.SetOf (PySem.strKind prog w) S (fun k' => (ded xs i).any (· == k')) (ded xs i).length := by
      obtain ⟨o, es, ep, tb, ho, rest⟩ := hS
      exact ⟨o, es, ep, tb, hm.heap S _ hSw ho, rest⟩
    show wpAny _ A.in1 (holding [Value.str (xs.getD i Str.empty) t] (setAdd S (.str (xs.getD i Str.empty) t)) >>= _) _ _ s'
    refine wpAny_bind (wpAny_holding ?_)
    unfold setAdd
    refine wpAny_holding ?_
    refine wpAny_bind ((PySem.strKind prog w).pyHash (k := xs.getD i Str.empty) (strKind_is _ _ _ _) ?_)
    have hroom : (ded xs i).length + 1 < scanBound := by have := ded_len xs i; omega
    refine wpAny_setAddHashed_of (knd := PySem.strKind prog w) (s := { s' with toks := s'.toks + 1 }) (strKind_is _ _ _ _) rfl hS' hroom fun h' hsb hS2 => ?_
    have hSi : h'.SetOf (PySem.strKind prog w) S (fun k' => (ded xs (i + 1)).any (· == k')) (ded xs (i + 1)).length := by
      refine SetOf_congr hS2 (fun k' => ?_) ?_
      · rw [ded_succ hx]
        by_cases hc : (ded xs i).any (· == xs.getD i Str.empty) = true
        · rw [if_pos hc]
          by_cases e : k' = xs.getD i Str.empty
          · subst e; rw [hc]; simp
          · rw [decide_eq_false e, Bool.or_false]
        · rw [if_neg hc, List.any_append]
          congr 1
          by_cases e : k' = xs.getD i Str.empty
          · subst e; simp
          · have : (xs.getD i Str.empty == k') = false := by simpa [beq_iff_eq] using (fun h' => e h'.symm)
            simp only [List.any_cons, List.any_nil, Bool.or_false, this]
            simpa using e
      · rw [ded_succ hx]
        split <;> simp
    refine wpAny_pure ⟨plainId_quiet PyProof.Rows.F.plain_set_update_loop _, ih (i + 1) _ (by omega) hlt (W.frame _ s' _ _ hst' (Nat.le_succ _) fun b hb o e => ?_) hSi fun s'' hm'' hS'' => ?_⟩
    · rw [hsb.2 b (fun h : b = S => hSf (by rw [← h]; exact hb))]; exact e
    · refine hR s'' (Moved.trans W.gtrans ((hm.mono hsub).then_heap (Nat.le_succ _) fun b o hb e => ?_) hm'') hS''
      rw [hsb.2 b (fun h : b = S => hb (by rw [h]; exact List.mem_cons_self))]; exact e
end
section
variable {prog : Program} {w : World} {A : Around} {E : Value → Shared → Prop} {s : Shared}
set_option maxHeartbeats 3200000 in
theorem call_set_texts {l : Addr} {items : Array Value} {xs : List Str} {Q : Value → Shared → Prop}
    (hh : A.handled = none) (hl : s.heap.IsList l items) (hi : PyProof.Rows.StrsAre items.toList xs) (hb : items.size + 1 < scanBound)
    (h : ∀ (h' : Heap) (tk : Nat), h'.SetOf (PySem.strKind prog w) s.heap.objs.size (fun k' => (ded xs items.size).any (· == k')) (ded xs items.size).length →
      (∀ b o, b < s.heap.objs.size → s.heap.get? b = some o → h'.get? b = some o) → Q (.ref s.heap.objs.size) { s with heap := h', toks := tk }) :
    wpAny (model prog w) A (call (.type "set") [.ref l]) Q E s := by
  obtain ⟨c, tl, hmro⟩ := PySem.F.called_set.mro
  have hmade := PySem.F.called_set.made
  have hsub := PySem.F.called_set.sub
  refine wpAny_call (codeAny_of_tree ?_)
  show wpAny _ _ (callAny (.type "set") _) _ _ _
  refine wpAny_pure ⟨Code.quiet_builtin _ (by decide +kernel), codeAny_builtin PySem.F.entry_type_call ?_⟩
  rw [Around.under_plain (weight_type_call_type "set" [.ref l] []) rfl]
  have h1 := PySem.F.called_set.notType
  have h2 := PySem.F.called_set.canCreate
  have hct := PySem.F.typeCall_set_1 (.ref l)
  repeat (any_goals (first | assumption | wp_step))
  refine codeAny_mono (code_set_new_1 (.ref l) (E := E) (Q₁ := fun obj s₁ => ∃ led : Bool, obj = .ref s.heap.objs.size ∧ s₁ = { s with heap := s.heap.push (setO led) }) fun led => ⟨led, rfl, rfl⟩) fun r s₁ hr => ?_
  match r, hr with
  | .error e, hr => exact hr
  | .ok .next, hr => exact hr.elim
  | .ok .brk, hr => exact hr.elim
  | .ok .cont, hr => exact hr.elim
  | .ok (.ret obj), hr =>
    obtain ⟨led, rfl, rfl⟩ := hr
    have hS : (s.heap.push (setO led)).get? s.heap.objs.size = some (setO led) := Heap.get?_push_size _ rfl
    have hT : Shared.TypeIs { s with heap := s.heap.push (setO led) } (.ref s.heap.objs.size) "set" := ⟨_, hS, rfl⟩
    have hli := PySem.F.called_set.init.lookup
    have hbi := PySem.F.called_set.init.bind (.ref s.heap.objs.size)
    repeat (any_goals (first | assumption | wp_step))
    refine codeAny_mono (codeAny_call_builtin (R := wants (fun r s₂ => r = .none ∧ ∃ h' tk, s₂ = { s with heap := h', toks := tk } ∧
        h'.SetOf (PySem.strKind prog w) s.heap.objs.size (fun k' => (ded xs items.size).any (· == k')) (ded xs items.size).length ∧
        (∀ b o, b < s.heap.objs.size → s.heap.get? b = some o → h'.get? b = some o)) E) PySem.F.called_set.init.plain PySem.F.entry_set_init (check_set_init_1 hT ?_)) fun r₂ s₂ hr₂ => ?_
    · obtain ⟨⟨ocls, odict, odata, oslots⟩, hol, hcl, nl, hdl⟩ := hl
      simp only at hcl hdl
      subst hcl; subst hdl
      have hol' : (s.heap.push (setO led)).get? l = some { cls := .type "list", dict := odict, data := .seq items nl, slots := oslots } := Heap.get?_push_of_some _ hol
      have hsls := PySem.F.sub_list_set
      have hslf := PySem.F.sub_list_frozenset
      have hne : (Value.type "list" == Value.type "dict") = false := by decide
      have hl1 : (s.heap.push (setO led)).IsList l items := ⟨_, hol', rfl, nl, rfl⟩
      unfold Builtin.«set.__init__» noKeywords Builtin.Frozenset.updateFrom
      generalize hPI : pyIter = PI
      wp_walk
      subst hPI
      refine wpAny_pyIter_list hl1 ?_
      refine wpAny_bind (wpAny_runValue ?_)
      have hlS : l < s.heap.objs.size := Heap.lt_size hol
      have hh3 : A.in1.in1.in1.handled = none := by simp [hh]
      have hneI : l ≠ (s.heap.push (setO led)).objs.size := by
        rw [Heap.size_push]; exact Nat.ne_of_lt (Nat.lt_succ_of_lt hlS)
      have hSf : s.heap.objs.size ∉ [(s.heap.push (setO led)).objs.size, l] := by
        rw [Heap.size_push]
        intro hx
        rcases List.mem_cons.mp hx with e | e
        · exact Nat.ne_of_lt (Nat.lt_succ_self _) e
        · exact Nat.ne_of_gt hlS (List.mem_singleton.mp e)
      have hsz : xs.length = items.size := by rw [← StrsAre.len_eq hi, Array.length_toList]
      refine loopS ((Walks.list hh3 _ l hneI items).toS) s.heap.objs.size hSf xs hsz hb (fun i v hv => SS.strs_at hi i v (by rw [Array.getElem?_toList]; exact hv)) items.size 0 _ rfl (Nat.zero_le _)
        ⟨⟨_, Heap.get?_push_size _ rfl, rfl, rfl⟩, (hl1.push _)⟩ ?_ fun s' hm hS' => ?_
      · have hget : ((s.heap.push (setO led)).push { cls := .type "list_iterator", data := .fields #[.ref l, .int 0 0] }).get? s.heap.objs.size = some (setO led) := Heap.get?_push_of_some _ hS
        exact PyProof.Rows.SetOf_congr ((PyProof.Rows.setObjOf_fresh (knd := PySem.strKind prog w) led).setOf hget (by unfold scanBound; omega)) (fun _ => by simp [ded]) (by simp [ded])
      · obtain ⟨h', g', d', tk', os'⟩ := s'
        have eg : g' = s.gens := hm.gens
        have ed : d' = s.drawn := hm.drawn
        have eo : os' = s.os := hm.os
        subst eg; subst ed; subst eo
        show wpAny _ _ _ _ _ _
        refine wpAny_pure ?_
        show wpAny _ _ (ret Value.none) _ _ _
        refine wpAny_pure ⟨rfl, h', tk', rfl, hS', fun b o hb' e => ?_⟩
        refine hm.heap b o ?_ (Heap.get?_push_of_some _ (Heap.get?_push_of_some _ e))
        intro hx
        rw [Heap.size_push] at hx
        rcases List.mem_cons.mp hx with e' | e'
        · exact Nat.ne_of_lt hb' e'
        · exact Nat.ne_of_lt (Nat.lt_succ_of_lt hb') (List.mem_singleton.mp e')
    · match r₂, hr₂ with
      | .error e, hr₂ => exact hr₂
      | .ok .next, hr₂ => exact hr₂.elim
      | .ok .brk, hr₂ => exact hr₂.elim
      | .ok .cont, hr₂ => exact hr₂.elim
      | .ok (.ret r), hr₂ =>
        obtain ⟨rfl, h', tk, rfl, hS', hk'⟩ := hr₂
        repeat (any_goals (first | assumption | wp_step))
        exact h _ _ hS' hk'
end
end DlSet
namespace L2
open PySem PySem.Spec PyProof.Rows
/-- len(set(xs)) of a list of texts -/
def tLenSetS (K : PySem.W.Frag) (ta : TE) : TE := fun σ H Q => ta σ H fun x H1 => ∃ (l : Addr) (xs : List Str), x = .ref l ∧ SqL K H1 l (xs.map V.str) ∧ xs.length ≤ 4000 ∧ Q (.int ((DlSet.ded xs xs.length).length : Nat)) H1
theorem pe_lenSetS {X : Cx} {a : Expr} {ta : TE} {p p2 q pos : Pos} (hg : Gl X "len") (hm : X.mg "len" = none) (hg2 : Gl X "set") (hm2 : X.mg "set" = none) (ha : PE X a ta) (hc : X.calm = true := by rfl)
    (na : starEach [a] X.env = (false, eval a X.env) :: starEach [] X.env := by rfl) : PE X (.Call (.Name "len" p) [.Call (.Name "set" p2) [a] [] q] [] pos) (tLenSetS X.K ta) := by
  refine ⟨fun pins s σ H Q I h => ?_⟩
  refine Call_ (ld_blt I hg hm boot_len ?_)
  refine PyProof.Rows.callWith_builtin1 (PyProof.Rows.args_cons ?_ rfl) rfl rfl
  refine Call_ (ld_blt I hg2 hm2 boot_set ?_)
  refine PyProof.Rows.callWith_type1 (PyProof.Rows.args_cons (thn (ha.run pins s σ H _ I h) fun v s1 ⟨x, H1, I1, r1, q1⟩ => PyProof.Rows.args_nil ?_) na) na rfl
  obtain ⟨l, xs, rfl, hq, hl, q1⟩ := q1
  cases r1
  obtain ⟨its, r, pl, hz⟩ := I1.list hq
  have hlen : its.toArray.size = xs.length := by rw [List.size_toArray, ← r.length, List.length_map]
  refine DlSet.call_set_texts (I1.ok.hd hc) pl.isList (by simpa using strsAre_of r) (by rw [hlen]; unfold scanBound; omega) fun h' tk hS hk => ?_
  refine PyProof.Rows.args_nil ?_
  rw [hlen] at hS
  obtain ⟨o, es, ep, t, ho, hex, hd, _, _, _, hf, hn⟩ := hS
  have I2 : Inv X pins σ H1 { s1 with heap := h', toks := tk } := I1.kept fun b o e => hk b o (Heap.lt_size e) e
  have hdl := DlSet.ded_len xs xs.length
  exact call_len_set ho hex hd hf (by rw [hn] <;> omega) ⟨.int _, H1, I2.tok _, ⟨_, by rw [hn]⟩, q1⟩
end L2

set_option Elab.async false
set_option linter.all false
set_option maxRecDepth 100000
namespace L2
open PySem
def rJoin (K : PySem.W.Frag) : V → List V → Hp → VK → Prop := fun x xs H Q => ∃ a p, ∃ ys : List Str, x = .str a ∧ xs = [.ref p] ∧ (SqL K H p (ys.map V.str) ∨ SqT K H p (ys.map V.str)) ∧ (ys.map (·.length)).sum + ys.length * a.length ≤ 16777216 ∧ Q (.str (Txt.join a ys)) H
end L2
namespace Dl
open PySem L2 PyProof.Rows
section
variable {K : PySem.W.Frag} {B : Bs} {ρ : En} {μ : Mu} {P : D → Mu → Prop} {te : TE} {x y : D} {ds : List D} {i j : Int}
theorem ty_str {s : Str} : ∀ G H al v, As K G H al μ → Rp K G al v (.str s) → tyV K "str" v H := fun G H al v A r => by
  cases r
  rfl
theorem rm_join {a : Str} {ys : List Str} (hl : Ls μ x (ys.map D.str)) (hz : (ys.map (·.length)).sum + ys.length * a.length ≤ 100000) (h : P (.str (Txt.join a ys)) μ) : RM K (rJoin K) (.str a) [x] μ P := fun G H al v vs A r rs Q hQ => by
  obtain ⟨w, rfl, r1⟩ := rps1 rs
  obtain ⟨p, ws, rfl, sq, rs2⟩ := hl.get A r1
  cases r
  have e := rs2.strs
  subst e
  exact ⟨a, p, ys, rfl, rfl, .inl sq, by omega, hQ.now A (.str _) h⟩
theorem de_lenSetS (h : DE K B te ρ μ fun x μ1 => ∃ xs : List Str, Ls μ1 x (xs.map D.str) ∧ xs.length ≤ 4000 ∧ P (.int ((DlSet.ded xs xs.length).length : Nat)) μ1) : DE K B (tLenSetS K te) ρ μ P := fun σ G H al hB hσ hA Q hQ =>
  h σ G H al hB hσ hA _ fun v d μ1 G1 H1 al1 n1 A1 r1 p1 => by
    obtain ⟨xs, ls, hl, p⟩ := p1
    obtain ⟨a, vs, rfl, sq, rs⟩ := ls.get A1 r1
    have e := rs.strs
    subst e
    exact ⟨a, xs, rfl, sq, hl, (hQ.nx n1).now A1 (.int _) p⟩
theorem de_lstRg1 (h : DE K B te ρ μ fun x μ1 => ∃ n : Int, x = .int n ∧ 0 ≤ n ∧ n ≤ 100000 ∧ P (.lst (rangeD 0 n.toNat)) μ1) : DE K B (tLstRg (tRg1 te)) ρ μ P := fun σ G H al hB hσ hA Q hQ =>
  h σ G H al hB hσ hA _ fun v d μ1 G1 H1 al1 n1 A1 r1 p1 => by
    obtain ⟨n, rfl, h0, h1, p⟩ := p1
    cases r1
    refine ⟨n, rfl, ⟨by omega, by omega, by omega, by omega, by omega⟩, fun q hq => ?_⟩
    obtain ⟨A2, n2⟩ := A1.frz (o := .lst (rgV 0 n)) hq
    refine hQ _ _ μ1 _ _ _ (n1.trans n2) A2 (.lst upd_same ?_) p
    unfold rgV rangeD
    rw [show (n - 0).toNat = n.toNat by omega]
    have : ∀ l : List Nat, Rps K (upd G1 q (.lst ((List.range n.toNat).map fun i => V.int (0 + (i : Nat))))) al1 (l.map fun i => V.int (0 + (i : Nat))) (l.map fun (i : Nat) => D.int (0 + (i : Int))) := by
      intro l
      induction l with
      | nil => exact .nil
      | cons a l ih => exact .cons (.int _) ih
    exact this _
theorem dt_imp {tt : TT} {P' Q' : Bool → Mu → Prop} (h : DT K B tt ρ μ P') (i : ∀ b μ', P' b μ' → Q' b μ') : DT K B tt ρ μ Q' := fun σ G H al hB hσ hA Q hQ => h σ G H al hB hσ hA Q fun b μ' G' H' al' n A p => hQ b μ' G' H' al' n A (i b μ' p)
theorem da_imp {ta : TA} {P' Q' : List D → Mu → Prop} (h : DA K B ta ρ μ P') (i : ∀ b μ', P' b μ' → Q' b μ') : DA K B ta ρ μ Q' := fun σ G H al hB hσ hA Q hQ => h σ G H al hB hσ hA Q fun vs b μ' G' H' al' n A r p => hQ vs b μ' G' H' al' n A r (i b μ' p)
/-- a written list, frozen or not, as it is wanted -/
theorem de_lstF {ts : TA} (h : DA K B ts ρ μ fun xs μ1 => Sz xs.length ∧ (P (.lst xs) μ1 ∨ P (.own μ1.length) (μ1 ++ [.lst xs]))) : DE K B (tLst ts) ρ μ P := fun σ G H al hB hσ hA Q hQ =>
  h σ G H al hB hσ hA _ fun vs ds μ1 G1 H1 al1 n1 A1 r1 p1 => by
    refine ⟨by rw [r1.length]; exact Nat.le_trans p1.1 (by decide), fun p hp => ?_⟩
    rcases p1.2 with q | q
    · obtain ⟨A2, n2⟩ := A1.frz (o := .lst vs) hp
      exact hQ _ _ _ _ _ _ (n1.trans n2) A2 (.lst upd_same (r1.nx n2)) q
    · obtain ⟨A2, n2⟩ := A1.own (o := .lst vs) (m := .lst ds) hp ⟨A1.sub.free hp, vs, upd_same, r1.mono (Same.refl _) ⟨[p], rfl⟩⟩
      exact hQ _ _ _ _ _ _ (n1.trans n2) A2 (.own (by rw [← A1.len]; simp)) q
/-- is None -/
def IsNP (x : D) (Q : Bool → Prop) : Prop := ∃ b, (b = true ↔ x = .non) ∧ Q b
theorem de_isNZ (h : DE K B te ρ μ fun x μ1 => IsNP x fun b => P (.bl b) μ1) : DE K B (tIsN te) ρ μ P := de_isN h
theorem de_notNZ (h : DE K B te ρ μ fun x μ1 => IsNP x fun b => P (.bl (!b)) μ1) : DE K B (tNotN te) ρ μ P := de_notN h
theorem np_t {Q : Bool → Prop} (h : Q true) : IsNP .non Q := ⟨true, by simp, h⟩
theorem np_f {Q : Bool → Prop} (hx : x ≠ .non) (h : Q false) : IsNP x Q := ⟨false, by simp [hx], h⟩
theorem np_int {Q : Bool → Prop} {i : Int} (h : Q false) : IsNP (.int i) Q := np_f (by simp) h
theorem np_bl {Q : Bool → Prop} {i : Bool} (h : Q false) : IsNP (.bl i) Q := np_f (by simp) h
theorem np_str {Q : Bool → Prop} {i : Str} (h : Q false) : IsNP (.str i) Q := np_f (by simp) h
theorem np_lst {Q : Bool → Prop} {i : List D} (h : Q false) : IsNP (.lst i) Q := np_f (by simp) h
theorem np_tup {Q : Bool → Prop} {i : List D} (h : Q false) : IsNP (.tup i) Q := np_f (by simp) h
theorem np_own {Q : Bool → Prop} {i : Nat} (h : Q false) : IsNP (.own i) Q := np_f (by simp) h
theorem np_obj {Q : Bool → Prop} {C : Addr} {gs : List (Str × D)} (h : Q false) : IsNP (.obj C gs) Q := np_f (by simp) h
/-- a sign in a text -/
theorem ro_inSg {c : Nat} {z : Str} (h : P (.bl (decide (c ∈ z.cps.toList))) μ) : RO K (rInA K) (.str ⟨#[c]⟩) (.str z) μ P := fun G H al v w A r1 r2 Q hQ => by
  cases r1; cases r2
  exact .inr (.inl ⟨c, z, rfl, rfl, hQ.now A (.bl _) h⟩)
/-- a text in a tuple of texts -/
theorem ro_inTS {s : Str} {ns : List Str} (hl : Ts y (ns.map D.str)) (h : P (.bl (decide (s ∈ ns))) μ) : RO K (rInA K) (.str s) y μ P := fun G H al v w A r1 r2 Q hQ => by
  obtain ⟨a, vs, rfl, sq, rs⟩ := hl.get A r2
  cases r1
  have e := rs.strs; subst e
  refine .inl ⟨a, _, rfl, .inr sq, rfl, flat_strs ns, hQ.now A (.bl _) ?_⟩
  rw [if_neg (by simp), inV_strs]; exact h
end
/-! ### names -/
def letters : List Nat := (List.range 26).map (· + 97)
def nameOk (s : Str) : Prop := 1 ≤ s.length ∧ s.length ≤ 8 ∧ ∀ c ∈ s.cps.toList, c ∈ letters
instance (s : Str) : Decidable (nameOk s) := by unfold nameOk; infer_instance
theorem letters_str : ("abcdefghijklmnopqrstuvwxyz" : Str).cps.toList = letters := by decide +kernel
theorem nameOk.strOk {s : Str} (h : nameOk s) : PyData.strOk s = true := by
  unfold PyData.strOk
  rw [← Array.all_toList, List.all_eq_true]
  intro c hc
  have := h.2.2 c hc
  unfold letters at this
  obtain ⟨i, hi, rfl⟩ := List.mem_map.mp this
  have := List.mem_range.mp hi
  simp; omega
theorem join_signs (cs : List Nat) : Txt.join ("" : Str) (cs.map fun c => (⟨#[c]⟩ : Str)) = ⟨cs.toArray⟩ := by
  have h1 : TL.joinL [] (cs.map fun c => [c]) = cs := by
    induction cs with
    | nil => rfl
    | cons c cs ih =>
      cases cs with
      | nil => rfl
      | cons d ds =>
        simp only [List.map_cons, TL.joinL] at ih ⊢
        rw [ih]
        rfl
  have h2 := SX.join_S [] (cs.map fun c => [c])
  rw [h1, List.map_map] at h2
  exact h2
end Dl

set_option Elab.async false
set_option linter.all false
set_option maxRecDepth 100000
/-! range of numbers of any size -/
namespace Dl
open PySem L2 PyProof.Rows
theorem turn_long {P : Program} {w : World} {K : PySem.W.Frag} {tg : Expr} (it : Addr) (lo c : Int) (n : Nat) {J : It} (hJg : ∀ i H, J.go i H → i < n) (hJs : ∀ i H, J.stop i H → n ≤ i) (hJy : ∀ i H, J.yld i H (.int (lo + (i : Nat) * c)) H) : Turn P w K tg J [it] it (fun i h => IsLongIter h it (lo + (i : Nat) * c) ((n : Int) - (i : Nat)) c) where
  mem := by simp
  obj := fun i h st b hb => by
    have e : b = it := by simpa using hb
    subst e
    exact ⟨_, st, fun v z => by
      have z' : Data.fields _ = Data.cell v := z
      cases z'⟩
  keep := fun i h h' st k => k it (by simp) _ st
  item := by
    intro X hP hw hK hc i pins s σ H E I hf st hg
    subst hP hw hK
    obtain ⟨f0, f1, f2, f3, f4, f5⟩ := hf it (by simp)
    have W := Walks.longrange (prog := X.prog) (w := X.w) (I.ok.hd hc) it lo c n
    refine W.item i s _ _ (hJg i H hg) st fun v h' tk hv st' kk => ?_
    obtain ⟨t, rfl⟩ := hv
    have I1 : Inv X pins σ H { s with heap := h', toks := tk } := I.turned (fun b o hb e => kk b o (by simpa using hb) e) f0 f1 f3 f4 f5
    exact ⟨_, rfl, go_of (s := { s with heap := h', toks := tk }) (n := "longrange_iterator") st' rfl rfl (by decide) ⟨.int (lo + (i : Nat) * c), H, I1, ⟨t, rfl⟩, hJy i H, st', fun b hb => (hf b hb).1⟩⟩
  done := by
    intro X hP hw hK hc i pins s σ H E I hf st hg
    subst hP hw hK
    obtain ⟨f0, f1, f2, f3, f4, f5⟩ := hf it (by simp)
    exact wpAny_pyNext_long_end (I.ok.hd hc) st (by have := hJs i H hg; omega) fun h' eb => ⟨rfl, I.turned (t' := s.toks) (fun b o hb e => eb b o hb e) f0 f1 f3 f4 f5⟩
  self := fun _ _ _ _ _ st h => wpAny_pyIter_longiter st h
section
variable {X : Cx} {tg : Expr}
theorem range_itW {pins : List (Addr × Obj)} {σ : L2.St} {H : Hp} {s : Shared} {R : It → Hp → Prop} {E : Value → Shared → Prop} {lo hi : Int} {t u v : Tok} {tk : Nat} (I : Inv X pins σ H s)
    (q : R (Itr lo (hi - lo).toNat) H) : wpAny (model X.prog X.w) X.A (pyIter (.ref s.heap.objs.size)) (PIE X pins σ tg R) E { s with heap := s.heap.push { cls := .type "range", data := .fields #[.int lo t, .int hi u, .int 1 v] }, toks := tk } := by
  have I1 : Inv X pins σ H { s with heap := s.heap.push { cls := .type "range", data := .fields #[.int lo t, .int hi u, .int 1 v] }, toks := tk } := I.kept fun b o e => Heap.get?_push_of_some _ e
  have e1 : lo + ((0 : Nat) : Int) * 1 = lo := by simp
  have e2 : (((hi - lo).toNat : Nat) : Int) - ((0 : Nat) : Int) = Builtin.Range.rangeSize lo hi 1 := by rw [rangeSize_one]; split <;> omega
  have fp : ∀ b ∈ [(s.heap.push { cls := .type "range", data := .fields #[.int lo t, .int hi u, .int 1 v] }).objs.size], _ := fun b hb => by
    have e : b = (s.heap.push { cls := .type "range", data := .fields #[.int lo t, .int hi u, .int 1 v] }).objs.size := by simpa using hb
    subst e
    exact I1.fpOk (Nat.le_refl _) (I1.hok.fresh (Nat.le_refl _))
  cases hsm : Builtin.Range.small lo hi 1 with
  | true =>
    refine wpAny_pyIter_range (IsRange.new ..) hsm ?_
    refine ⟨(s.heap.push { cls := .type "range", data := .fields #[.int lo t, .int hi u, .int 1 v] }).objs.size, [(s.heap.push { cls := .type "range", data := .fields #[.int lo t, .int hi u, .int 1 v] }).objs.size], _, _, H, rfl,
      I1.kept (t' := tk) fun b o e => Heap.get?_push_of_some _ e, turn_range _ lo (hi - lo).toNat, ?_, fp, q⟩
    show IsRangeIter _ _ (lo + ((0 : Nat) : Int) * 1) ((((hi - lo).toNat : Nat) : Int) - ((0 : Nat) : Int)) 1
    rw [e1, e2]
    exact Heap.get?_push_size _ rfl
  | false =>
    refine wpAny_pyIter_longrange (IsRange.new ..) hsm ?_
    refine ⟨(s.heap.push { cls := .type "range", data := .fields #[.int lo t, .int hi u, .int 1 v] }).objs.size, [(s.heap.push { cls := .type "range", data := .fields #[.int lo t, .int hi u, .int 1 v] }).objs.size], _, _, H, rfl,
      I1.kept (t' := tk) fun b o e => Heap.get?_push_of_some _ e, turn_long (J := Itr lo (hi - lo).toNat) _ lo 1 (hi - lo).toNat (fun i H h => h) (fun i H h => h) (fun i H => ⟨rfl, by rw [Int.mul_one]⟩), ?_, fp, q⟩
    show IsLongIter _ _ (lo + ((0 : Nat) : Int) * 1) ((((hi - lo).toNat : Nat) : Int) - ((0 : Nat) : Int)) 1
    rw [e1, e2]
    exact Heap.get?_push_size _ rfl
def iRng2W (ta : TA) : TI := fun σ H R => ta σ H fun vs H1 => ∃ i j : Int, vs = [.int i, .int j] ∧ R (Itr i (j - i).toNat) H1
theorem pi_range2W {a b : Expr} {ta : TA} {p pos : Pos} (hg : Gl X "range") (hm : X.mg "range" = none) (ha : PA X [a, b] ta) (hs : starEach [a, b] X.env = [(false, eval a X.env), (false, eval b X.env)] := by rfl) (hs2 : starEach [b] X.env = [(false, eval b X.env)] := by rfl) :
    PI X tg (.Call (.Name "range" p) [a, b] [] pos) (iRng2W ta) := by
  refine ⟨fun pins s σ H R I h => ?_⟩
  refine Call_ (ld_blt I hg hm boot_range (PyProof.Rows.callWith_type1 (thn (ha.run pos pins s σ H _ I h) fun us s1 ⟨vs, H1, I1, r1, q1⟩ => ?_) (by rw [hs, hs2]) (by rw [hs2]; rfl)))
  obtain ⟨i, j, e, q⟩ := q1
  subst e
  cases r1 with
  | cons r rr =>
    cases rr with
    | cons r' rr =>
      cases rr
      obtain ⟨t, rfl⟩ := r
      obtain ⟨t', rfl⟩ := r'
      exact call_range_2 (range_itW I1 q)
end
section
variable {K : PySem.W.Frag} {B : Bs} {ρ : En} {μ : Mu} {ts : TA} {PI' : List D → (Mu → Prop) → Mu → Prop}
theorem di_range2W (h : DA K B ts ρ μ fun xs μ1 => ∃ lo n : Int, xs = [.int lo, .int n] ∧ PI' (rangeD lo (n - lo).toNat) (fun _ => True) μ1) : DI K B (iRng2W ts) ρ μ PI' := fun σ G H al hB hσ hA R hR =>
  h σ G H al hB hσ hA _ fun vs ds μ1 G1 H1 al1 n1 A1 r1 p1 => by
    obtain ⟨lo, n, rfl, p⟩ := p1
    obtain ⟨v, w, rfl, q1, q2⟩ := rps2 r1
    cases q1; cases q2
    exact ⟨lo, n, rfl, hR _ _ _ μ1 G1 H1 al1 n1 A1 itr_ok p⟩
end
section
variable {K : PySem.W.Frag} {B : Bs} {ρ : En} {μ : Mu} {P : DEnds} {c : TT} {t u : TS}
/-- a test that never comes out true -/
theorem q_assert (h : DT K B c ρ μ fun b μ1 => b = false ∧ μ1 = μ) (k : DS K B u ρ μ P) : DS K B (tSeq (tIfS c t tNext) u) ρ μ P :=
  q_when (dt_imp h fun b μ1 p => ⟨fun hb => absurd (p.1.symm.trans hb) (by simp), fun _ => by rw [p.2]; exact k⟩)
theorem s_assert (h : DT K B c ρ μ fun b μ1 => b = false ∧ μ1 = μ) (k : P.nx ρ μ) : DS K B (tIfS c t tNext) ρ μ P :=
  s_when (dt_imp h fun b μ1 p => ⟨fun hb => absurd (p.1.symm.trans hb) (by simp), fun _ => by rw [p.2]; exact k⟩)
end
end Dl

set_option Elab.async false
set_option linter.all false
set_option maxRecDepth 100000
namespace Dl
open PySem L2 PyProof.Rows
section
variable {K : PySem.W.Frag} {B : Bs} {ρ : En} {μ : Mu} {ts : TA} {u : TS} {x y z : D}
def Three (ds : List D) (F : D → D → D → Prop) : Prop := ∃ x y z, ds = [x, y, z] ∧ F x y z
theorem three_i {F : D → D → D → Prop} (h : F x y z) : Three [x, y, z] F := ⟨x, y, z, rfl, h⟩
theorem ds_par3 {i j l : Nat} {P : DEnds} (h : DA K B ts ρ μ fun ds μ1 => Three ds fun x y z => P.nx (((ρ.set i (some x)).set j (some y)).set l (some z)) μ1) : DS K B (tPar3 i j l ts) ρ μ P := fun σ G H al hB hσ hA De hD =>
  h σ G H al hB hσ hA _ fun vs ds μ1 G1 H1 al1 n1 A1 r1 p1 => by
    obtain ⟨x, y, z, rfl, p⟩ := p1
    obtain ⟨v, ws, rfl, rx, r2⟩ := rps_cons r1
    obtain ⟨w, u, rfl, ry, rz⟩ := rps2 r2
    exact ⟨_, _, _, rfl, hD.nx _ _ μ1 G1 H1 al1 n1 ((((hσ.nx n1).set i rx).set j ry).set l rz) A1 p⟩
theorem q_par3 {i j l : Nat} {P : DEnds} (h : DA K B ts ρ μ fun ds μ1 => Three ds fun x y z => DS K B u (((ρ.set i (some x)).set j (some y)).set l (some z)) μ1 P) : DS K B (tSeq (tPar3 i j l ts) u) ρ μ P := ds_seq (ds_par3 h)
theorem ro_eqNI {i : Int} {P : D → Mu → Prop} (h : P (.bl false) μ) : RO K (rEqD K) .non (.int i) μ P := ro_eqD (n := 0) (m := 0) (.id _) (.id _) rfl rfl (by rw [show eqvD .non (.int i) = false by simp only [eqvD, D.py, PyData.eqv]]; exact h)
end
end Dl

set_option Elab.async false
set_option linter.all false
set_option maxRecDepth 100000
/-! dicts with keys ints and texts -/
namespace Dl
open PySem L2
def keyD : Key → D
  | .inl i => .int i
  | .inr s => .str s
def valD (kvs : List (Key × D)) (k : Key) : Option D := (kvs.find? fun kv => decide (kv.1 = k)).map (·.2)
def putKD (kvs : List (Key × D)) (k : Key) (v : D) : List (Key × D) :=
  if (kvs.any fun kv => decide (kv.1 = k)) = true then kvs.map (fun kv => if kv.1 = k then (kv.1, v) else kv) else kvs ++ [(k, v)]
def mergeKD (kvs more : List (Key × D)) : List (Key × D) := more.foldl (fun acc kv => putKD acc kv.1 kv.2) kvs
theorem rp_key {K : PySem.W.Frag} {G : Hp} {al : List Addr} {v : V} {k : Key} (h : Rp K G al v (keyD k)) : v = kV k := by
  cases k with
  | inl i => cases h; rfl
  | inr s => cases h; rfl
section
variable {K : PySem.W.Frag} {G H : Hp} {al : List Addr}
theorem Rpk.val : ∀ {gs : List (Key × D)} {kvs : List (Key × V)}, Rpk K G al kvs gs → ∀ k, (∀ d, valD gs k = some d → ∃ v, valV kvs k = some v ∧ Rp K G al v d) ∧ (valD gs k = none → valV kvs k = none)
  | [], _, h, k => by cases h; exact ⟨fun d e => (by cases e), fun _ => rfl⟩
  | (f, x) :: gs, _, h, k => by
    cases h with
    | @cons f v vs d ds r t =>
      have ih := t.val k
      by_cases e : f = k
      · refine ⟨fun d' e' => ?_, fun e' => ?_⟩
        · simp [valD, List.find?_cons, e] at e'
          subst e'
          exact ⟨v, valV_pos e, r⟩
        · simp [valD, List.find?_cons, e] at e'
      · have e1 : valD ((f, x) :: gs) k = valD gs k := by simp [valD, List.find?_cons, e]
        rw [e1, valV_neg (p := (f, v)) e]
        exact ih
theorem Rpk.any : ∀ {gs : List (Key × D)} {kvs : List (Key × V)}, Rpk K G al kvs gs → ∀ k, (kvs.any fun kv => decide (kv.1 = k)) = (gs.any fun kv => decide (kv.1 = k))
  | [], _, h, k => by cases h; rfl
  | (f, x) :: gs, _, h, k => by
    cases h with
    | cons r t => simp only [List.any_cons, t.any k]
theorem Rpk.append : ∀ {gs fs : List (Key × D)} {kvs ls : List (Key × V)}, Rpk K G al kvs gs → Rpk K G al ls fs → Rpk K G al (kvs ++ ls) (gs ++ fs)
  | [], _, _, _, h, h' => by cases h; exact h'
  | _ :: _, _, _, _, h, h' => by cases h with | cons r t => exact .cons r (t.append h')
theorem Rpk.repl {k : Key} {v : V} {d : D} (r : Rp K G al v d) : ∀ {gs : List (Key × D)} {kvs : List (Key × V)}, Rpk K G al kvs gs → Rpk K G al (kvs.map fun kv => if kv.1 = k then (kv.1, v) else kv) (gs.map fun kv => if kv.1 = k then (kv.1, d) else kv)
  | [], _, h => by cases h; exact .nil
  | (f, x) :: gs, _, h => by
    cases h with
    | cons r' t =>
      simp only [List.map_cons]
      by_cases e : f = k
      · rw [if_pos e, if_pos e]; exact .cons r (t.repl r)
      · rw [if_neg e, if_neg e]; exact .cons r' (t.repl r)
theorem Rpk.put {gs : List (Key × D)} {kvs : List (Key × V)} (h : Rpk K G al kvs gs) (k : Key) {v : V} {d : D} (r : Rp K G al v d) : Rpk K G al (putK kvs k v) (putKD gs k d) := by
  unfold putK putKD
  rw [h.any k]
  split
  · exact h.repl r
  · exact h.append (.cons r .nil)
theorem Rpk.length : ∀ {gs : List (Key × D)} {kvs : List (Key × V)}, Rpk K G al kvs gs → kvs.length = gs.length
  | [], _, h => by cases h; rfl
  | _ :: _, _, h => by cases h with | cons _ t => simp [t.length]
theorem Rpk.merge : ∀ {ms : List (Key × D)} {ns : List (Key × V)} {gs : List (Key × D)} {kvs : List (Key × V)}, Rpk K G al ns ms → Rpk K G al kvs gs → Rpk K G al (mergeK kvs ns) (mergeKD gs ms)
  | [], _, _, _, h, h' => by cases h; exact h'
  | (f, x) :: ms, _, gs, kvs, h, h' => by
    cases h with
    | @cons f v vs d ds r t =>
      show Rpk K G al (mergeK (putK kvs f v) vs) (mergeKD (putKD gs f x) ms)
      exact t.merge (h'.put f r)
end
/-- a dict as it stands -/
inductive Dt (μ : Mu) : D → List (Key × D) → Prop
  | dct (gs : List (Key × D)) : Dt μ (.dct gs) gs
  | own {k : Nat} {gs : List (Key × D)} (h : μ[k]? = some (.dK gs)) : Dt μ (.own k) gs
theorem Dt.get {K : PySem.W.Frag} {G H : Hp} {al : List Addr} {μ : Mu} {v : V} {d : D} {gs : List (Key × D)} (h : Dt μ d gs) (A : As K G H al μ) (r : Rp K G al v d) : ∃ a kvs, v = .ref a ∧ H a = some (.dK kvs) ∧ Rpk K G al kvs gs := by
  cases h with
  | dct => cases r with | dct e rs => exact ⟨_, _, rfl, A.sub _ _ e, rs⟩
  | own hk =>
    obtain ⟨a, ha, ga, vs, hv, rs⟩ := A.get hk
    cases r with
    | own e => rw [ha] at e; cases e; exact ⟨_, vs, rfl, hv, rs⟩
section
variable {K : PySem.W.Frag} {B : Bs} {ρ : En} {μ : Mu} {td ty tv tx : TE} {P : D → Mu → Prop} {u : TS}
def DGetP (μ : Mu) (x y : D) (F : D → Prop) : Prop := ∃ gs k d, Dt μ x gs ∧ y = keyD k ∧ valD gs k = some d ∧ F d
def DInP (μ : Mu) (x y : D) (F : Bool → Prop) : Prop := ∃ gs k, Dt μ x gs ∧ y = keyD k ∧ F (valD gs k).isSome
theorem dgp_s {x d : D} {gs : List (Key × D)} {s : Str} {F : D → Prop} (h : Dt μ x gs) (e : valD gs (.inr s) = some d) (f : F d) : DGetP μ x (.str s) F := ⟨gs, .inr s, d, h, rfl, e, f⟩
theorem dgp_i {x d : D} {gs : List (Key × D)} {s : Int} {F : D → Prop} (h : Dt μ x gs) (e : valD gs (.inl s) = some d) (f : F d) : DGetP μ x (.int s) F := ⟨gs, .inl s, d, h, rfl, e, f⟩
theorem dip_s {x : D} {gs : List (Key × D)} {s : Str} {F : Bool → Prop} (h : Dt μ x gs) (f : F (valD gs (.inr s)).isSome) : DInP μ x (.str s) F := ⟨gs, .inr s, h, rfl, f⟩
theorem dip_i {x : D} {gs : List (Key × D)} {s : Int} {F : Bool → Prop} (h : Dt μ x gs) (f : F (valD gs (.inl s)).isSome) : DInP μ x (.int s) F := ⟨gs, .inl s, h, rfl, f⟩
theorem Rpk.isSome {G : Hp} {al : List Addr} {gs : List (Key × D)} {kvs : List (Key × V)} (h : Rpk K G al kvs gs) (k : Key) : (valV kvs k).isSome = (valD gs k).isSome := by
  cases q : valD gs k with
  | none => rw [(h.val k).2 q]; rfl
  | some d =>
    obtain ⟨v, e, _⟩ := (h.val k).1 d q
    rw [e]; rfl
theorem de_dget (h : DE K B td ρ μ fun x μ1 => DE K B ty ρ μ1 fun y μ2 => DGetP μ2 x y fun d => P d μ2) : DE K B (tDGet td ty) ρ μ P := fun σ G H al hB hσ hA Q hQ =>
  h σ G H al hB hσ hA _ fun vx x μ1 G1 H1 al1 n1 A1 r1 p1 => p1 σ G1 H1 al1 (hB.trans n1) (hσ.nx n1) A1 _ fun vy y μ2 G2 H2 al2 n2 A2 r2 p2 => by
    obtain ⟨gs, k, d, dt, rfl, e, p⟩ := p2
    obtain ⟨a, kvs, rfl, ha, rk⟩ := dt.get A2 (r1.nx n2)
    obtain rfl := rp_key r2
    obtain ⟨v, ev, rv⟩ := (rk.val k).1 d e
    exact ⟨a, v, rfl, by rw [← ev]; exact DGet.k ha, hQ v d μ2 G2 H2 al2 (n1.trans n2) A2 rv p⟩
theorem de_din (h : DE K B ty ρ μ fun y μ1 => DE K B td ρ μ1 fun x μ2 => DInP μ2 x y fun b => P (.bl b) μ2) : DE K B (tDIn ty td) ρ μ P := fun σ G H al hB hσ hA Q hQ =>
  h σ G H al hB hσ hA _ fun vy y μ1 G1 H1 al1 n1 A1 r1 p1 => p1 σ G1 H1 al1 (hB.trans n1) (hσ.nx n1) A1 _ fun vx x μ2 G2 H2 al2 n2 A2 r2 p2 => by
    obtain ⟨gs, k, dt, rfl, p⟩ := p2
    obtain ⟨a, kvs, rfl, ha, rk⟩ := dt.get A2 r2
    obtain rfl := rp_key r1
    refine ⟨a, _, rfl, DGet.k ha, ?_⟩
    rw [rk.isSome k]
    exact hQ _ _ μ2 G2 H2 al2 (n1.trans n2) A2 (.bl _) p
theorem de_dnin (h : DE K B ty ρ μ fun y μ1 => DE K B td ρ μ1 fun x μ2 => DInP μ2 x y fun b => P (.bl (!b)) μ2) : DE K B (tDNotIn ty td) ρ μ P := fun σ G H al hB hσ hA Q hQ =>
  h σ G H al hB hσ hA _ fun vy y μ1 G1 H1 al1 n1 A1 r1 p1 => p1 σ G1 H1 al1 (hB.trans n1) (hσ.nx n1) A1 _ fun vx x μ2 G2 H2 al2 n2 A2 r2 p2 => by
    obtain ⟨gs, k, dt, rfl, p⟩ := p2
    obtain ⟨a, kvs, rfl, ha, rk⟩ := dt.get A2 r2
    obtain rfl := rp_key r1
    refine ⟨a, _, rfl, DGet.k ha, ?_⟩
    rw [rk.isSome k]
    exact hQ _ _ μ2 G2 H2 al2 (n1.trans n2) A2 (.bl _) p
/-- {}: to be changed; frozen at once -/
theorem de_dnew (h : P (.own μ.length) (μ ++ [.dK []])) : DE K B tDNewK ρ μ P := fun σ G H al hB hσ hA Q hQ p hp => by
  obtain ⟨A2, n2⟩ := hA.own (o := .dK []) (m := .dK []) hp ⟨hA.sub.free hp, [], upd_same, .nil⟩
  exact hQ _ _ _ _ _ _ n2 A2 (.own (by rw [← hA.len]; simp)) h
theorem de_dnewF (h : P (.dct []) μ) : DE K B tDNewK ρ μ P := fun σ G H al hB hσ hA Q hQ p hp => by
  obtain ⟨A2, n2⟩ := hA.frz (o := .dK []) hp
  exact hQ _ _ μ _ _ _ n2 A2 (.dct upd_same .nil) h
def DPutP (μ : Mu) (x y z : D) (F : Mu → Prop) : Prop := ∃ j gs k, x = .own j ∧ μ[j]? = some (.dK gs) ∧ y = keyD k ∧ gs.length < 100000 ∧ F (μ.set j (.dK (putKD gs k z)))
theorem dpp_s {j : Nat} {z : D} {gs : List (Key × D)} {s : Str} {F : Mu → Prop} (h : μ[j]? = some (.dK gs)) (hl : gs.length < 100000) (f : F (μ.set j (.dK (putKD gs (.inr s) z)))) : DPutP μ (.own j) (.str s) z F := ⟨j, gs, .inr s, rfl, h, rfl, hl, f⟩
theorem dpp_i {j : Nat} {z : D} {gs : List (Key × D)} {s : Int} {F : Mu → Prop} (h : μ[j]? = some (.dK gs)) (hl : gs.length < 100000) (f : F (μ.set j (.dK (putKD gs (.inl s) z)))) : DPutP μ (.own j) (.int s) z F := ⟨j, gs, .inl s, rfl, h, rfl, hl, f⟩
theorem ds_dput {P : DEnds} (h : DE K B tv ρ μ fun z μ1 => DE K B td ρ μ1 fun x μ2 => DE K B ty ρ μ2 fun y μ3 => DPutP μ3 x y z fun μ4 => P.nx ρ μ4) : DS K B (sDPut td ty tv) ρ μ P := fun σ G H al hB hσ hA De hD =>
  h σ G H al hB hσ hA _ fun vz z μ1 G1 H1 al1 n1 A1 r1 p1 => p1 σ G1 H1 al1 (hB.trans n1) (hσ.nx n1) A1 _ fun vx x μ2 G2 H2 al2 n2 A2 r2 p2 =>
    p2 σ G2 H2 al2 ((hB.trans n1).trans n2) ((hσ.nx n1).nx n2) A2 _ fun vy y μ3 G3 H3 al3 n3 A3 r3 p3 => by
    obtain ⟨j, gs, k, rfl, hk, rfl, hl, p⟩ := p3
    obtain ⟨a, ha, ga, kvs, hv, rk⟩ := A3.get hk
    obtain rfl := rp_key r3
    have r2' := r2.nx n3
    cases r2' with
    | own e =>
      rw [ha] at e
      cases e
      obtain ⟨A4, n4⟩ := A3.put (o := .dK (putK kvs k vz)) (m' := .dK (putKD gs k z)) ha hk (by simp) ⟨ga, _, upd_same, rk.put k ((r1.nx n2).nx n3)⟩
      exact ⟨_, _, rfl, DPut.k hv (by rw [rk.length]; exact Nat.lt_of_lt_of_le hl (by decide)), hD.nx _ _ _ _ _ _ (((n1.trans n2).trans n3).trans n4) ((((hσ.nx n1).nx n2).nx n3).nx n4) A4 p⟩
theorem q_dput {P : DEnds} (h : DE K B tv ρ μ fun z μ1 => DE K B td ρ μ1 fun x μ2 => DE K B ty ρ μ2 fun y μ3 => DPutP μ3 x y z fun μ4 => DS K B u ρ μ4 P) : DS K B (tSeq (sDPut td ty tv) u) ρ μ P := ds_seq (ds_dput h)
/-! ### displays -/
def DPs (K : PySem.W.Frag) (B : Bs) : List (TE × TE) → En → Mu → (List (D × D) → Mu → Prop) → Prop
  | [], _, μ, P => P [] μ
  | (tk, tv) :: r, ρ, μ, P => DE K B tk ρ μ fun x μ1 => DE K B tv ρ μ1 fun y μ2 => DPs K B r ρ μ2 fun ps μ3 => P ((x, y) :: ps) μ3
inductive Rpp (K : PySem.W.Frag) (G : Hp) (al : List Addr) : List (V × V) → List (D × D) → Prop
  | nil : Rpp K G al [] []
  | cons {v w : V} {vs : List (V × V)} {d e : D} {ds : List (D × D)} : Rp K G al v d → Rp K G al w e → Rpp K G al vs ds → Rpp K G al ((v, w) :: vs) ((d, e) :: ds)
theorem dps_run : ∀ {trs : List (TE × TE)} {μ : Mu} {P : List (D × D) → Mu → Prop}, DPs K B trs ρ μ P → ∀ σ G H al, B.le G H al → RpS K G al σ ρ → As K G H al μ → ∀ Q : List (V × V) → Hp → Prop, (∀ ps qs μ' G' H' al', Nx G H al G' H' al' → As K G' H' al' μ' → Rpp K G' al' ps qs → P qs μ' → Q ps H') → tPairs trs σ H Q
  | [], μ, P, h, σ, G, H, al, hB, hσ, hA, Q, hQ => hQ [] [] μ G H al .refl hA .nil h
  | (tk, tv) :: r, μ, P, h, σ, G, H, al, hB, hσ, hA, Q, hQ =>
    h σ G H al hB hσ hA _ fun vx x μ1 G1 H1 al1 n1 A1 r1 p1 => p1 σ G1 H1 al1 (hB.trans n1) (hσ.nx n1) A1 _ fun vy y μ2 G2 H2 al2 n2 A2 r2 p2 =>
      dps_run p2 σ G2 H2 al2 ((hB.trans n1).trans n2) ((hσ.nx n1).nx n2) A2 _ fun ps qs μ3 G3 H3 al3 n3 A3 r3 p3 => hQ _ _ μ3 G3 H3 al3 ((n1.trans n2).trans n3) A3 (.cons ((r1.nx n2).nx n3) (r2.nx n3) r3) p3
theorem rpp_keys {G : Hp} {al : List Addr} : ∀ {gs : List (Key × D)} {ps : List (V × V)}, Rpp K G al ps (gs.map fun kv => (keyD kv.1, kv.2)) → ∃ kvs : List (Key × V), ps = kvs.map (fun kv => (kV kv.1, kv.2)) ∧ Rpk K G al kvs gs
  | [], _, h => by cases h; exact ⟨[], rfl, .nil⟩
  | (k, d) :: gs, _, h => by
    cases h with
    | cons r1 r2 t =>
      obtain ⟨kvs, rfl, rk⟩ := rpp_keys (gs := gs) t
      obtain rfl := rp_key r1
      exact ⟨_ :: _, rfl, .cons r2 rk⟩
theorem de_disp {trs : List (TE × TE)} (h : DPs K B trs ρ (μ ++ [.dK []]) fun ps μ1 => ∃ gs : List (Key × D), ps = gs.map (fun kv => (keyD kv.1, kv.2)) ∧ gs.length ≤ 15 ∧ μ1[μ.length]? = some (.dK []) ∧ P (.own μ.length) (μ1.set μ.length (.dK (mergeKD [] gs)))) : DE K B (tDisp trs) ρ μ P := fun σ G H al hB hσ hA Q hQ ad hp => by
  obtain ⟨A1, n1⟩ := hA.own (o := .dK []) (m := .dK []) hp ⟨hA.sub.free hp, [], upd_same, .nil⟩
  refine dps_run h σ _ _ _ (hB.trans n1) (hσ.nx n1) A1 _ fun ps qs μ2 G2 H2 al2 n2 A2 r2 p2 => ?_
  obtain ⟨gs, rfl, hl, hk, p⟩ := p2
  obtain ⟨kvs, rfl, rk⟩ := rpp_keys r2
  obtain ⟨a, ha, ga, kv0, hv, r0⟩ := A2.get hk
  have ea : a = _ := Option.some.inj (ha.symm.trans (n2.p.get (show (al ++ [ad])[μ.length]? = some ad by rw [← hA.len]; simp)))
  subst ea
  cases r0
  obtain ⟨A3, n3⟩ := A2.put (o := .dK (mergeK [] kvs)) (m' := .dK (mergeKD [] gs)) ha hk (by simp) ⟨ga, _, upd_same, rk.merge .nil⟩
  exact ⟨hv, kvs, rfl, by rw [rk.length]; exact hl, hQ _ _ _ _ _ _ ((n1.trans n2).trans n3) A3 (.own (n3.p.get ha)) p⟩
/-! ### freezing -/
theorem ds_freezeD {P : DEnds} {t : TS} {i k : Nat} {gs : List (Key × D)} (hi : ρ[i]? = some (some (.own k))) (hk : μ[k]? = some (.dK gs)) (h : DS K B t (ρ.set i (some (.dct gs))) (μ.set k .dead) P) : DS K B t ρ μ P := fun σ G H al hB hσ hA De hD => by
  obtain ⟨v, e1, r1⟩ := hσ.2 i _ hi
  obtain ⟨a, ha, ok⟩ := hA.get hk
  cases r1 with
  | own e =>
    rw [ha] at e
    cases e
    obtain ⟨ga, vs, hv, rv⟩ := ok
    obtain ⟨A2, n2⟩ := hA.freeze ha hv ga
    refine h σ _ _ _ (hB.trans n2) ?_ A2 De (hD.nx' n2)
    rw [← set_id e1]
    exact (hσ.nx n2).set i (.dct upd_same (rv.mono n2.g n2.p))
end
end Dl

set_option Elab.async false
set_option linter.all false
set_option maxRecDepth 100000
/-! min(xs, default=d) -/
namespace Dl
open PySem L2 PyProof.Rows
section
variable {prog : Program} {w : World} {A : Around} {E : Value → Shared → Prop} {s : Shared} {l : Addr} {its : List Value} {ns : List Int} {Q : Value → Shared → Prop} {d : Value}
theorem min_dflt (hh : A.handled = none) (hl : s.heap.IsList l its.toArray) (hi : IntsAre its ns)
    (h0 : ns = [] → ∀ h' tk, (∀ b o, s.heap.get? b = some o → h'.get? b = some o) → Q d { s with heap := h', toks := tk })
    (h : ∀ h' tk M t', (∀ b o, s.heap.get? b = some o → h'.get? b = some o) → M ∈ ns → (∀ a, a ∈ ns → M ≤ a) → Q (.int M t') { s with heap := h', toks := tk }) : wpAny (model prog w) A (call (.builtin "min") [.ref l] [(Str.ofString "default", d)]) Q E s := by
  obtain ⟨xs, e⟩ := hi.allInts.items
  have hn : numsOf (intItems xs).toList = ns := by rw [← e]; exact hi.numsOf
  rw [nums_intItems] at hn
  subst hn
  rw [e] at hl
  have hin : (intItems xs).size = xs.size := by simp [intItems]
  refine call_min_walkD (iter_intList hl fun s₂ e st hfp hlI => ?_)
  subst e
  refine ⟨_, _, _, _, _, _, _, s.heap, (fun i j => decide (numAt xs i < numAt xs j)), rfl, (Walks.list (A := A.in1) hh _ l hlI (intItems xs)).toS, st, hfp, fun b o e hm => ?_, fun b o e => Heap.get?_push_of_some _ e, fun hz s' hm => ?_, fun hz => ⟨fun i j vi vj s Q E hk hi hj hQ => CmpOf.ints_lt (numAt xs) (fun _ _ => intItems_at) i j vi vj s Q E hi hj hQ, fun v s' hP hm => ?_⟩⟩
  · have e1 := List.mem_singleton.mp hm
    exact absurd (e1 ▸ Heap.lt_size e) (Nat.lt_irrefl _)
  · obtain ⟨h', g', d', tk', os'⟩ := s'
    have eg : g' = s.gens := hm.gens
    have ed : d' = s.drawn := hm.drawn
    have eo : os' = s.os := hm.os
    subst eg; subst ed; subst eo
    refine h0 ?_ h' tk' (old_kept hm.heap)
    have : xs.size = 0 := by rw [← hin]; exact hz
    have : xs = #[] := Array.eq_empty_of_size_eq_zero this
    subst this
    rfl
  · obtain ⟨h', g', d', tk', os'⟩ := s'
    have eg : g' = s.gens := hm.gens
    have ed : d' = s.drawn := hm.drawn
    have eo : os' = s.os := hm.os
    subst eg; subst ed; subst eo
    have hsz : 0 < xs.size := by rw [← hin]; exact hz
    rw [hin] at hP
    obtain ⟨t, rfl⟩ := intItems_at hP
    obtain ⟨h1, h2⟩ := argBest_lt (numAt xs) (xs.size - 1)
    refine h h' tk' _ t (old_kept hm.heap) ?_ fun a ha => ?_
    · rw [numAt_eq]; exact PySem.getD_mem (by rw [List.length_map, Array.length_toList]; omega)
    · obtain ⟨j, hj, rfl⟩ := mem_getD ha
      rw [List.length_map, Array.length_toList] at hj
      rw [← numAt_eq]; exact h2 j (by omega)
end
section
variable {X : Cx}
def rMinD (K : PySem.W.Frag) : List V → List V → Hp → VK → Prop := fun vs zs H Q => ∃ (a : Addr) (ns : List Int) (z : V), vs = [V.ref a] ∧ zs = [z] ∧ SqL K H a (ns.map V.int) ∧ (ns = [] → Q z H) ∧ ∀ m, m ∈ ns → (∀ y, y ∈ ns → m ≤ y) → Q (.int m) H
theorem cr_minD (hc : X.calm = true) : CallRK X (.builtin "min") [Str.ofString "default"] (rMinD X.K) := by
  intro pins s σ H vs zs us ws Q I r rz h
  obtain ⟨a, ns, z, rfl, rfl, hs, q0, q⟩ := h
  obtain ⟨its, rv, hl, _⟩ := I.list hs
  obtain rfl := Vals.ref1 r
  obtain ⟨w1, rfl, e1⟩ := vals1 rz
  exact min_dflt (I.ok.hd hc) hl.isList rv.ints (fun e h' tk hk => ⟨z, H, I.kept hk, e1, q0 e⟩) fun h' tk m t' hk h1 h2 => ⟨.int _, H, I.kept hk, ⟨_, rfl⟩, q m h1 h2⟩
end
section
variable {K : PySem.W.Frag} {B : Bs} {ρ : En} {μ : Mu} {ts tk : TA} {P : D → Mu → Prop}
/-- min(xs, default=z) -/
theorem de_minD (h : DA K B ts ρ μ fun xs μ1 => DA K B tk ρ μ1 fun zs μ2 => ∃ x z, ∃ ns : List Int, xs = [x] ∧ zs = [z] ∧ Ls μ2 x (ns.map D.int) ∧ (ns = [] → P z μ2) ∧ ∀ m, m ∈ ns → (∀ y, y ∈ ns → m ≤ y) → P (.int m) μ2) : DE K B (tCKw (rMinD K) ts tk) ρ μ P := fun σ G H al hB hσ hA Q hQ =>
  h σ G H al hB hσ hA _ fun vs xs μ1 G1 H1 al1 n1 A1 r1 p1 => p1 σ G1 H1 al1 (hB.trans n1) (hσ.nx n1) A1 _ fun ws zs μ2 G2 H2 al2 n2 A2 r2 p2 => by
    obtain ⟨x, z, ns, rfl, rfl, ls, p0, p⟩ := p2
    obtain ⟨v, rfl, rv⟩ := rps1 r1
    obtain ⟨y, rfl, ry⟩ := rps1 r2
    obtain ⟨a, us, rfl, sq, rs⟩ := ls.get A2 (rv.nx n2)
    have e := rs.ints
    subst e
    exact ⟨a, ns, y, rfl, rfl, sq, fun e => hQ _ _ μ2 G2 H2 al2 (n1.trans n2) A2 ry (p0 e), fun m h1 h2 => hQ _ _ μ2 G2 H2 al2 (n1.trans n2) A2 (.int m) (p m h1 h2)⟩
end
end Dl

set_option Elab.async false
set_option linter.all false
set_option maxRecDepth 100000
namespace Dl
open PySem L2
theorem valD_snoc (k j : Key) (y : D) : ∀ kvs : List (Key × D), valD kvs k = none → valD (kvs ++ [(k, y)]) j = if j = k then some y else valD kvs j
  | [], _ => by
    by_cases e : j = k
    · subst e; simp [valD]
    · simp [valD, e, Ne.symm e]
  | (f, x) :: r, h => by
    by_cases ef : f = k
    · simp [valD, List.find?_cons, ef] at h
    · have h' : valD r k = none := by simpa [valD, List.find?_cons, ef] using h
      have ih := valD_snoc k j y r h'
      by_cases e : f = j
      · subst e
        simp [valD, List.find?_cons, ef]
      · have e1 : valD ((f, x) :: r ++ [(k, y)]) j = valD (r ++ [(k, y)]) j := by simp [valD, List.find?_cons, e]
        have e2 : valD ((f, x) :: r) j = valD r j := by simp [valD, List.find?_cons, e]
        rw [e1, e2, ih]
theorem valD_map (k j : Key) (y : D) : ∀ kvs : List (Key × D), valD (kvs.map fun kv => if kv.1 = k then (kv.1, y) else kv) j = (valD kvs j).map fun x => if j = k then y else x
  | [] => rfl
  | (f, x) :: r => by
    have ih := valD_map k j y r
    simp only [List.map_cons]
    by_cases ef : f = k
    · rw [if_pos ef]
      by_cases e : f = j
      · subst e; simp [valD, List.find?_cons, ef]
      · have e1 : ∀ z (l : List (Key × D)), valD ((f, z) :: l) j = valD l j := fun z l => by simp [valD, List.find?_cons, e]
        rw [e1, e1, ih]
    · rw [if_neg ef]
      by_cases e : f = j
      · subst e; simp [valD, List.find?_cons, ef]
      · have e1 : ∀ z (l : List (Key × D)), valD ((f, z) :: l) j = valD l j := fun z l => by simp [valD, List.find?_cons, e]
        rw [e1, e1, ih]
theorem valD_any (k : Key) : ∀ kvs : List (Key × D), (kvs.any fun kv => decide (kv.1 = k)) = (valD kvs k).isSome
  | [] => rfl
  | (f, x) :: r => by
    by_cases e : f = k
    · simp [valD, List.find?_cons, e]
    · have ih := valD_any k r
      simp only [List.any_cons, ih]
      simp [valD, List.find?_cons, e]
theorem valD_put (kvs : List (Key × D)) (k j : Key) (y : D) : valD (putKD kvs k y) j = if j = k then some y else valD kvs j := by
  unfold putKD
  rw [valD_any]
  cases q : valD kvs k with
  | none => simp only [Option.isSome_none, Bool.false_eq_true, if_false]; exact valD_snoc k j y kvs q
  | some z =>
    simp only [Option.isSome_some, if_true]
    rw [valD_map]
    by_cases e : j = k
    · subst e; rw [q]; simp
    · simp [e]
theorem putKD_len (kvs : List (Key × D)) (k : Key) (y : D) : (putKD kvs k y).length ≤ kvs.length + 1 := by
  unfold putKD
  split <;> simp
section
variable {K : PySem.W.Frag} {B : Bs} {ρ : En} {μ : Mu} {PG' : En → Mu → Prop}
/-- a list unpacked -/
theorem dg_unl {n : Nat} {gs : TGs} {ds : List D} {x : D} (hl : Ls μ x ds) (hn : ds.length = n) (h : DGs K B gs ds ρ μ PG') : DG K B (gUnl K n gs) x ρ μ PG' := fun σ G H al v hB hσ hA r Q hQ => by
  obtain ⟨a, ws, rfl, s, rs⟩ := hl.get hA r
  exact ⟨a, ws, rfl, s, rs.length.trans hn, h σ G H al ws hB hσ hA rs Q hQ⟩
end
end Dl
namespace Dl
open PySem L2 PyProof.Rows
/-- a comprehension within a comprehension -/
def rlS (scope sc : Scope) : Scope := { scope with names := scope.names.map fun (n, k) => if (k == NameKind.free && sc.kind == .function && sc.names.lookup n == some .cell) then (n, NameKind.cell) else (n, k) }
theorem relabel_eq {scope : Scope} {env : Env} : relabel scope env = rlS scope env.scope := rfl
theorem blkOk_rl {N : List Str} {sc0 scope scope' : Scope} {own : List (Str × Nat)} {env : Env} (he : env.scope = sc0) (h : blkC N (rlS scope sc0) scope' own = true) : BlkOk N (relabel scope env) scope' own := by
  rw [relabel_eq, he]
  exact blkOk_by h
end Dl

set_option Elab.async false
set_option linter.all false
set_option maxRecDepth 100000
namespace Dl
open PySem L2
section
variable {K : PySem.W.Frag} {B : Bs} {ρ : En} {μ : Mu} {te : TE} {tt : TT} {wi : TI} {g : TG} {vs : List Nat} {P : D → Mu → Prop}
/-- .. or not frozen: it may still change -/
theorem de_lcF (hg : GW g vs) (h : DI K B wi ρ μ fun ds S μ1 => ds.length ≤ 100000 ∧ ∃ Iv : Nat → List D → Mu → Prop, Iv 0 [] μ1 ∧ (∀ i acc μ', i ≤ ds.length → Iv i acc μ' → S μ') ∧
      (∀ i d acc μ', ds[i]? = some d → Iv i acc μ' → DG K B g d (wipeD ρ vs) μ' fun ρ2 μ2 => DT K B tt ρ2 μ2 fun b μ3 => (b = true → DE K B te ρ2 μ3 fun y μ4 => Iv (i + 1) (acc ++ [y]) μ4) ∧ (b = false → Iv (i + 1) acc μ3)) ∧
      (∀ acc μ', Iv ds.length acc μ' → P (.lst acc) μ' ∨ P (.own μ'.length) (μ' ++ [.lst acc]))) : DE K B (tLc wi g tt te vs) ρ μ P := fun σ G H al hB hσ hA Q hQ =>
  h σ G H al hB hσ hA _ fun J ds S μ1 G1 H1 al1 n1 A1 ok p1 => by
    obtain ⟨hlen, Iv, h0, hS, hs, hd⟩ := p1
    intro Dl hDl
    have nDl : Dl ∉ al1 := fun m => A1.here Dl m hDl
    have gDl : G1 Dl = none := A1.sub.free hDl
    -- a store to the list that is made
    have store : ∀ {G' H' al' μ' ac}, Nx G1 H1 al1 G' H' al' → As K G' H' al' μ' → G' Dl = none → Dl ∉ al' → As K G' (upd H' Dl (.lst ac)) al' μ' ∧ Nx G1 H1 al1 G' (upd H' Dl (.lst ac)) al' := by
      intro G' H' al' μ' ac n A g' nal
      refine ⟨⟨fun b u e => by rw [upd_ne (ne_of_none e g')]; exact A.sub _ _ e, A.nd, A.len, fun a m => ?_, fun k a o e1 e2 => ?_⟩, ⟨n.g, n.p, fun a u h m => ?_, n.out, n.new⟩⟩
      · have z : a ≠ Dl := fun z => nal (z ▸ m)
        rw [upd_ne z]; exact A.here a m
      · have z : a ≠ Dl := fun z => nal (z ▸ List.mem_of_getElem? e1)
        exact OkO.mono (Same.refl _) (Pre.refl _) (fun _ g => g) (by rw [upd_ne z]) (A.ok k a o e1 e2)
      · rw [upd_ne (ne_of_none h hDl)]; exact n.keep a u h m
    -- Dl stays where it is through a step
    have stay : ∀ {G' H' al' G'' H'' al'' u}, Nx G' H' al' G'' H'' al'' → H' Dl = some u → G' Dl = none → Dl ∉ al' → H'' Dl = some u ∧ G'' Dl = none ∧ Dl ∉ al'' := by
      intro G' H' al' G'' H'' al'' u n h g' nal
      refine ⟨n.keep Dl u h nal, n.out Dl (by rw [h]; simp) nal g', fun m => ?_⟩
      rcases n.new Dl m with z | z
      · exact nal z
      · rw [h] at z; cases z
    obtain ⟨A0, N0⟩ := store (ac := []) .refl A1 gDl nDl
    refine ⟨fun i m H' => m = ds.length - i ∧ i ≤ ds.length ∧ ∃ G' al' μ' acc vacc, Nx G1 H1 al1 G' H' al' ∧ As K G' H' al' μ' ∧ H' Dl = some (.lst vacc) ∧ Rps K G' al' vacc acc ∧ G' Dl = none ∧ Dl ∉ al' ∧ acc.length ≤ i ∧ Iv i acc μ',
      ⟨ds.length, by simp, Nat.zero_le _, G1, al1, μ1, [], [], N0, A0, upd_same, .nil, gDl, nDl, Nat.le_refl _, h0⟩, ?_⟩
    rintro i m H' ⟨rfl, hi, G', al', μ', acc, vacc, n', A', hv, rv, g', nal, hacc, iv⟩
    obtain ⟨go, stop, yld⟩ := ok G' H' al' μ' n' A' (hS i acc μ' hi iv)
    by_cases hlt : i < ds.length
    · refine .inr ⟨go i hlt, fun H2 => ∃ G2 al2 μ2 acc vacc, Nx G1 H1 al1 G2 H2 al2 ∧ As K G2 H2 al2 μ2 ∧ H2 Dl = some (.lst vacc) ∧ Rps K G2 al2 vacc acc ∧ G2 Dl = none ∧ Dl ∉ al2 ∧ acc.length ≤ i + 1 ∧ Iv (i + 1) acc μ2, fun H2 q => ⟨ds.length - (i + 1), by omega, rfl, hlt, q⟩, fun x H3 y => ?_⟩
      obtain ⟨G3, n3, A3, r3⟩ := yld i x H3 y _ (List.getElem?_eq_getElem hlt)
      obtain ⟨hv3, g3, nal3⟩ := stay n3 hv g' nal
      have nn3 := n'.trans n3
      have hw : RpS K G3 al' (wipe σ vs) (wipeD ρ vs) := wipe_rps ((hσ.nx n1).nx nn3) vs
      have q := hs i _ acc μ' (List.getElem?_eq_getElem hlt) iv (wipe σ vs) G3 H3 al' x (((hB.trans n1).trans n').trans n3) hw A3 r3
      have q2 := hg x (wipe σ vs) H3 _ (q (fun σ2 H2 => tt σ2 H2 fun b H3 => if b = true then te σ2 H3 fun y H4 => ∃ acc, H4 Dl = some (.lst acc) ∧ acc.length < sizeLine ∧ (∃ G2 al2 μ2 acc' vacc, Nx G1 H1 al1 G2 (upd H4 Dl (.lst (acc ++ [y]))) al2 ∧ As K G2 (upd H4 Dl (.lst (acc ++ [y]))) al2 μ2 ∧ (upd H4 Dl (.lst (acc ++ [y]))) Dl = some (.lst vacc) ∧ Rps K G2 al2 vacc acc' ∧ G2 Dl = none ∧ Dl ∉ al2 ∧ acc'.length ≤ i + 1 ∧ Iv (i + 1) acc' μ2)
          else (∃ G2 al2 μ2 acc' vacc, Nx G1 H1 al1 G2 H3 al2 ∧ As K G2 H3 al2 μ2 ∧ H3 Dl = some (.lst vacc) ∧ Rps K G2 al2 vacc acc' ∧ G2 Dl = none ∧ Dl ∉ al2 ∧ acc'.length ≤ i + 1 ∧ Iv (i + 1) acc' μ2)) fun σ4 ρ4 μ4 G4 H4 al4 n4 hσ4 A4 p4 => ?_)
      · rw [wipe_wipe σ vs vs fun _ h => h] at q2
        exact q2
      · obtain ⟨hv4, g4, nal4⟩ := stay n4 hv3 g3 nal3
        have nn4 := nn3.trans n4
        refine p4 σ4 G4 H4 al4 ((hB.trans n1).trans nn4) hσ4 A4 _ fun b μ5 G5 H5 al5 n5 A5 p5 => ?_
        obtain ⟨hv5, g5, nal5⟩ := stay n5 hv4 g4 nal4
        have nn5 := nn4.trans n5
        cases b with
        | false =>
          rw [if_neg (by simp)]
          exact ⟨G5, al5, μ5, acc, vacc, nn5, A5, hv5, (((rv.nx n3).nx n4).nx n5), g5, nal5, Nat.le_succ_of_le hacc, p5.2 rfl⟩
        | true =>
          rw [if_pos rfl]
          refine p5.1 rfl σ4 G5 H5 al5 ((hB.trans n1).trans nn5) (hσ4.nx n5) A5 _ fun yv y μ6 G6 H6 al6 n6 A6 r6 p6 => ?_
          obtain ⟨hv6, g6, nal6⟩ := stay n6 hv5 g5 nal5
          have rv6 := (((rv.nx n3).nx n4).nx n5).nx n6
          obtain ⟨A7, n7⟩ := store (ac := vacc ++ [yv]) (nn5.trans n6) A6 g6 nal6
          refine ⟨vacc, hv6, ?_, G6, al6, μ6, acc ++ [y], vacc ++ [yv], n7, A7, upd_same, rv6.append (.cons r6 .nil), g6, nal6, by simp; omega, p6⟩
          rw [rv6.length]
          exact Nat.lt_of_lt_of_le (Nat.lt_of_le_of_lt hacc (Nat.lt_of_lt_of_le hlt hlen)) (by decide)
    · have e : i = ds.length := by omega
      subst e
      refine .inl ⟨stop _ (Nat.le_refl _), ?_⟩
      rcases hd acc μ' iv with pf | po
      rotate_left
      · have A7 : As K G' H' (al' ++ [Dl]) (μ' ++ [.lst acc]) := by
          refine ⟨A'.sub, ?_, by simp [A'.len], fun a m => ?_, fun k a o e1 e2 => ?_⟩
          · rw [List.nodup_append]
            exact ⟨A'.nd, by simp, fun a ha b hb => by
              obtain rfl := List.mem_singleton.mp hb
              exact fun e => nal (e ▸ ha)⟩
          · rcases List.mem_append.mp m with c | c
            · exact A'.here a c
            · obtain rfl := List.mem_singleton.mp c
              rw [hv]; simp
          · rcases Nat.lt_or_ge k al'.length with c | c
            · rw [List.getElem?_append_left c] at e1
              rw [List.getElem?_append_left (by rw [← A'.len]; exact c)] at e2
              exact OkO.mono (Same.refl _) ⟨[Dl], rfl⟩ (fun _ g => g) rfl (A'.ok k a o e1 e2)
            · rw [List.getElem?_append_right c] at e1
              rw [List.getElem?_append_right (by rw [← A'.len]; exact c)] at e2
              have hk : k - al'.length = 0 := by
                have := (List.getElem?_eq_some_iff.mp e1).1
                simp at this; omega
              rw [hk] at e1
              rw [← A'.len, hk] at e2
              simp at e1 e2
              subst e1; subst e2
              exact ⟨g', vacc, hv, rv.mono (Same.refl _) ⟨[Dl], rfl⟩⟩
        have n7 : Nx G1 H1 al1 G' H' (al' ++ [Dl]) := ⟨n'.g, n'.p.trans ⟨[Dl], rfl⟩, n'.keep, n'.out, fun a m => by
          rcases List.mem_append.mp m with c | c
          · exact n'.new a c
          · obtain rfl := List.mem_singleton.mp c
            exact .inr hDl⟩
        exact hQ _ _ _ _ _ _ (n1.trans n7) A7 (.own (by rw [← A'.len]; simp)) po
      have s1 : Same G' (upd G' Dl (.lst vacc)) := fun b u e => by rw [upd_ne (ne_of_none e g')]; exact e
      have A7 : As K (upd G' Dl (.lst vacc)) H' al' μ' := by
        refine ⟨fun b u e => ?_, A'.nd, A'.len, A'.here, fun k a o e1 e2 => ?_⟩
        · by_cases hb : b = Dl
          · subst hb; rw [upd_same] at e; rw [← e]; exact hv
          · rw [upd_ne hb] at e; exact A'.sub _ _ e
        · have z : a ≠ Dl := fun z => nal (z ▸ List.mem_of_getElem? e1)
          exact OkO.mono s1 (Pre.refl _) (fun _ g => by rw [upd_ne z]; exact g) rfl (A'.ok k a o e1 e2)
      have n7 : Nx G1 H1 al1 (upd G' Dl (.lst vacc)) H' al' := ⟨n'.g.trans s1, n'.p, n'.keep, fun a h m g => by
        have z : a ≠ Dl := fun z => h (by rw [z]; exact hDl)
        rw [upd_ne z]; exact n'.out a h m g, n'.new⟩
      exact hQ _ _ _ _ _ _ (n1.trans n7) A7 (.lst upd_same (rv.mono s1 (Pre.refl _))) pf
/-- [f d for d in ds], nothing changes; frozen or not -/
theorem lc_mapF (f : D → D) (hg : GW g vs) (h : DI K B wi ρ μ fun ds S μ1 => S μ1 ∧ ds.length ≤ 100000 ∧ (∀ (i : Nat) (d : D), ds[i]? = some d → DG K B g d (wipeD ρ vs) μ1 fun ρ2 μ2 => μ2 = μ1 ∧ DE K B te ρ2 μ1 fun y μ3 => y = f d ∧ μ3 = μ1) ∧ ∀ out, ds.map f = out → Fresh out μ1 P) : DE K B (tLc wi g tYes te vs) ρ μ P := by
  refine de_lcF hg fun σ G H al hB hσ hA R hR => h σ G H al hB hσ hA R fun J ds S μ1 G1 H1 al1 n1 A1 ok p => hR J ds S μ1 G1 H1 al1 n1 A1 ok ?_
  obtain ⟨hS, hl, hs, hp⟩ := p
  refine ⟨hl, fun i acc μ' => acc = (ds.take i).map f ∧ μ' = μ1, ⟨by simp, rfl⟩, fun i acc μ' _ h => by rw [h.2]; exact hS, fun i d acc μ' hd h => ?_, fun acc μ' h => ?_⟩
  · obtain ⟨rfl, rfl⟩ := h
    refine fun σ G H al v hB hσ hA rv Q hQ => hs i d hd σ G H al v hB hσ hA rv Q fun σ2 ρ2 μ2 G2 H2 al2 n2 hσ2 A2 p2 => hQ σ2 ρ2 μ2 G2 H2 al2 n2 hσ2 A2 ?_
    obtain ⟨rfl, p2⟩ := p2
    refine dt_yes ⟨fun _ => p2.imp fun y μ3 ⟨e1, e2⟩ => ⟨?_, e2⟩, fun z => by cases z⟩
    rw [e1, List.take_add_one, hd]
    simp
  · obtain ⟨rfl, rfl⟩ := h
    rw [List.take_length]
    exact hp _ rfl
/-- [f d for d in ds if p d]; frozen or not -/
theorem lc_filtF (p : D → Bool) (f : D → D) (hg : GW g vs) (h : DI K B wi ρ μ fun ds S μ1 => S μ1 ∧ ds.length ≤ 100000 ∧ (∀ (i : Nat) (d : D), ds[i]? = some d → DG K B g d (wipeD ρ vs) μ1 fun ρ2 μ2 => μ2 = μ1 ∧ DT K B tt ρ2 μ1 fun b μ3 => b = p d ∧ μ3 = μ1 ∧ (b = true → DE K B te ρ2 μ1 fun y μ4 => y = f d ∧ μ4 = μ1)) ∧ ∀ out, (ds.filter p).map f = out → Fresh out μ1 P) : DE K B (tLc wi g tt te vs) ρ μ P := by
  refine de_lcF hg fun σ G H al hB hσ hA R hR => h σ G H al hB hσ hA R fun J ds S μ1 G1 H1 al1 n1 A1 ok p' => hR J ds S μ1 G1 H1 al1 n1 A1 ok ?_
  obtain ⟨hS, hl, hs, hp⟩ := p'
  refine ⟨hl, fun i acc μ' => acc = ((ds.take i).filter p).map f ∧ μ' = μ1, ⟨by simp, rfl⟩, fun i acc μ' _ h => by rw [h.2]; exact hS, fun i d acc μ' hd h => ?_, fun acc μ' h => ?_⟩
  · obtain ⟨rfl, rfl⟩ := h
    refine fun σ G H al v hB hσ hA rv Q hQ => hs i d hd σ G H al v hB hσ hA rv Q fun σ2 ρ2 μ2 G2 H2 al2 n2 hσ2 A2 p2 => hQ σ2 ρ2 μ2 G2 H2 al2 n2 hσ2 A2 ?_
    obtain ⟨rfl, p2⟩ := p2
    refine fun σ G H al hB hσ hA Q hQ => p2 σ G H al hB hσ hA Q fun b μ3 G3 H3 al3 n3 A3 p3 => hQ b μ3 G3 H3 al3 n3 A3 ?_
    obtain ⟨hb, rfl, p3⟩ := p3
    have e : (List.take (i + 1) ds) = List.take i ds ++ [d] := by rw [List.take_add_one, hd]; rfl
    refine ⟨fun hbt => (p3 hbt).imp fun y μ4 ⟨e1, e2⟩ => ⟨?_, e2⟩, fun hbf => ⟨?_, rfl⟩⟩
    · rw [e, List.filter_append, List.map_append, e1]
      rw [hb] at hbt
      simp [hbt]
    · rw [e, List.filter_append, List.map_append]
      rw [hb] at hbf
      simp [hbf]
  · obtain ⟨rfl, rfl⟩ := h
    rw [List.take_length]
    exact hp _ rfl
end
def rAbs : List V → Hp → VK → Prop := fun xs H Q => ∃ i, xs = [.int i] ∧ Q (.int (if i < 0 then -i else i)) H
section
variable {K : PySem.W.Frag} {μ : Mu} {P : D → Mu → Prop} {i : Int} {d : D} {ds : List D}
theorem rc_abs (h : P (.int (i.natAbs : Int)) μ) : RC K rAbs [.int i] μ P := fun G H al vs A r Q hQ => by
  obtain ⟨v, rfl, r1⟩ := rps1 r
  cases r1
  refine ⟨i, rfl, ?_⟩
  rw [show (if i < 0 then -i else i) = (i.natAbs : Int) by split <;> omega]
  exact hQ.now A (.int _) h
/-- xs.pop(0) -/
theorem rm_pop0 {k : Nat} (hk : μ[k]? = some (.lst (d :: ds))) (h : P d (μ.set k (.lst ds))) : RM K rPopAt (.own k) [.int 0] μ P := fun G H al v vs A r rs Q hQ => by
  obtain ⟨a, ha, ga, ws, hv, rw'⟩ := A.get hk
  obtain ⟨z, rfl, rz⟩ := rps1 rs
  cases rz
  obtain ⟨u, us, rfl, ru, rus⟩ := rps_cons rw'
  cases r with
  | own e =>
    rw [ha] at e; cases e
    obtain ⟨A2, n2⟩ := A.put (o := .lst us) (m' := .lst ds) ha hk (by simp) ⟨ga, _, upd_same, rus⟩
    refine ⟨a, u :: us, 0, 0, u, rfl, rfl, hv, by decide, by decide, ?_, rfl, ?_⟩
    · unfold seqIndex?
      simp
    · exact hQ _ _ _ _ _ _ n2 A2 (ru.nx n2) h
end
theorem shpInts (ns : List Int) : shpL (ns.map D.int) 1 = true := shpL_map fun x _ => by simp [D.shp]
theorem intsG {ls : List Int} {i : Nat} {d : D} (h : (ls.map D.int)[i]? = some d) : ∃ n, ls[i]? = some n ∧ d = .int n := by
  rw [List.getElem?_map] at h
  cases q : ls[i]? with
  | none => rw [q] at h; cases h
  | some n => rw [q] at h; exact ⟨n, rfl, (Option.some.inj h).symm⟩
end Dl

set_option Elab.async false
set_option linter.all false
set_option maxRecDepth 100000
/-! a def called through its class, C.m(..); a head with more facts -/
namespace Dl
open PySem L2 PyProof.Rows
structure ClsFn (K : PySem.W.Frag) (C : Addr) (m : Str) (f : Addr) : Prop where
  rd : PySem.W.readsIn K C (.type "type") = true
  ga : PySem.W.specialIn K (.ref C) "__getattribute__" = some (some (.builtin "type.__getattribute__"))
  at_ : PySem.W.findCls K (.ref C) (.type "type") m = some (.val (.ref f))
  kp : PySem.W.keepIn K (.ref f) = true
def clsFnB (x m : Str) (K : PySem.W.Frag) : Bool := PySem.W.readsIn K (He.ga K x) (.type "type") && (He.eqO (PySem.W.specialIn K (.ref (He.ga K x)) "__getattribute__") (some (some (.builtin "type.__getattribute__"))) &&
  ((match PySem.W.findCls K (.ref (He.ga K x)) (.type "type") m with
    | some (.val (.ref f)) => decide (f = He.ma K (He.ga K x) m)
    | _ => false) && PySem.W.keepIn K (.ref (He.ma K (He.ga K x) m))))
theorem clsFnB_ok {K : PySem.W.Frag} {x m : Str} (h : clsFnB x m K = true) : ClsFn K (He.ga K x) m (He.ma K (He.ga K x) m) := by
  unfold clsFnB at h
  obtain ⟨h1, h2⟩ := He.ba h
  obtain ⟨h3, h4⟩ := He.ba h2
  obtain ⟨h5, h6⟩ := He.ba h4
  refine ⟨h1, He.eqO_ok h3, ?_, h6⟩
  split at h5
  · rename_i f e
    rw [e, of_decide_eq_true h5]
  · cases h5
section
variable {X : Cx} {CX : CXT} {k : Nat} {C f : Addr} {fd : FuncData} {ps : List Str} {ds : List Value} {dvs : List V} {sp : Sp} {E : XK} {o e : Expr} {es : List Expr} {m : Str} {pos apos : Pos} {t : TA} {pl : Sem Bool}
theorem pe_clsCall (he : PE X o (tC (.ref C))) (c : ClsFn X.K C m f) (F : FnOk X.prog X.w X.K X.mg X.base CX k f fd ps sp) (hr : Room k X.A) (hb : Binds X.K fd ps ds) (hd : Vals dvs ds) (hx : Passes CX X E) (ha : PA X (e :: es) t)
    (hst : starEach (e :: es) X.env = (false, eval e X.env) :: starEach es X.env := by rfl) (hpl : (backTo pos (starEach es X.env)).any (·.1) = false := by rfl)
    (ht : eval (.Call (.Attribute o m apos) (e :: es) [] pos) X.env = (do
      let ov ← eval o X.env
      standAt apos.atName
      let (f, first) ← holding [ov] (getMethod ov m pl)
      callWith pos f first (backTo pos (starEach (e :: es) X.env)) (backToKw pos (keywordEach [] X.env))) := by rfl) :
    PE X (.Call (.Attribute o m apos) (e :: es) [] pos) (tCall sp dvs E t) := by
  refine ⟨fun pins s σ H Q I h => ?_⟩
  refine PySem.W.methodCall_KW (pl := pl) (thn (he.run pins s σ H (fun x H1 => x = .ref C ∧ t σ H1 fun vs H2 => sp (vs ++ dvs) H2 Q E) I ⟨rfl, h⟩) fun u s1 ⟨x, H1, I1, rx, ex, q⟩ => ?_) ht
  subst ex
  obtain rfl : u = Value.ref C := rx
  refine PySem.W.method_cls I1.kIn c.ga (PySem.W.cls_value I1.kIn c.rd c.at_ rfl ?_)
  have I2 : Inv X pins σ H1 { s1 with toks := s1.toks + 1 } := I1.tok _
  refine PySem.W.callWith_K (h₀ := X.base) I.ok.mod.kin c.kp (thn (ha.run pos pins _ σ H1 _ I2 q) fun us s3 ⟨vs, H2, I3, r, q3⟩ => ⟨I3.kIn, ?_⟩) hst hpl
  exact run_fn F hr hb hd hx I3 r q3
end
/-! ### the head, with more facts -/
abbrev AlX : Type := He.AlD × Bool
def exAll (ex : List (PySem.W.Frag → Bool)) (K : PySem.W.Frag) : Bool := ex.all fun e => e K
def obsXG (n : Nat) (fa : List He.Fa) (fn : List He.DefD) (ex : List (PySem.W.Frag → Bool)) (g : Addr → Option Obj) : AlX := (He.obsD fa fn (He.frG g (He.asD g n ++ [cStatics])), exAll ex (He.frG g (He.asD g n ++ [cStatics])))
def hookX (n : Nat) (fa : List He.Fa) (fn : List He.DefD) (ex : List (PySem.W.Frag → Bool)) : PySem.W.Hook where
  α := AlX
  obs := fun s => obsXG n fa fn ex s.heap.get?
  val := fun _ => (He.valD fn, true)
  says := fun _ h => ∃ K : PySem.W.Frag, K.In h ∧ He.SaysD fa fn K ∧ exAll ex K = true
  of := fun _ _ e => ⟨_, He.frG_in, congrArg Prod.fst e, congrArg Prod.snd e⟩
  keeps := fun _ _ _ ⟨K, hK, c⟩ k => ⟨K, PySem.W.Frag.In.keeps hK k, c⟩
theorem obsXG_eq {n : Nat} {fa : List He.Fa} {fn : List He.DefD} {ex : List (PySem.W.Frag → Bool)} {g : Addr → Option Obj} {s : Shared} (h : ∀ a, g a = s.heap.get? a) : obsXG n fa fn ex g = (hookX n fa fn ex).obs s := by
  have e : g = s.heap.get? := funext h
  rw [e] <;> rfl
theorem exAll_at {ex : List (PySem.W.Frag → Bool)} {K : PySem.W.Frag} (h : exAll ex K = true) (i : Nat) {e : PySem.W.Frag → Bool} (he : ex[i]? = some e := by rfl) : e K = true := List.all_eq_true.mp h e (List.mem_of_getElem? he)
end Dl

set_option Elab.async false
set_option linter.all false
set_option maxRecDepth 100000
/-! list(range(a, b)) of numbers of any size -/
namespace DlLong
open PySem PyProof.Rows
section
variable {prog : Program} {w : World} {A : Around} {s : Shared}
abbrev lgObj (a n c : Int) : Obj := { cls := .type "longrange_iterator", data := .fields #[rawInt a, rawInt n, rawInt c] }
theorem grow {R : Result → Shared → Prop} {q : Addr} {a b c : Int} {t u v : Tok} {n : Nat} (hh : A.in1.handled = none) (rg : IsRange s.heap q a b c t u v) (big : Builtin.Range.small a b c = false)
    (size : Builtin.Range.rangeSize a b c = n) (few : n ≤ 2 ^ 24) (L : Addr) (res : Value) (c0 : Nat) (at_ : s.heap.get? L = some { cls := .type "list", data := .seq #[] c0 })
    (k : ∀ h' tk acc c', (∀ x o, x ≠ L → s.heap.get? x = some o → h'.get? x = some o) → h'.get? L = some { cls := .type "list", dict := none, data := .seq acc c', slots := #[] } →
      ItemsOf (fun i z => ∃ t, z = .int (a + i * c) t) acc n → R (.ok (.ret res)) { s with heap := h', toks := tk }) :
    wpAny (model prog w) A.in1 (Builtin.List.listExtendWith (.ref L) (.ref q) res)
      (fun fin s' => match fin with | .done f => R (.ok f) s' | .again c' => c'.quiet = true ∧ codeAny (model prog w) A c' R s') (fun e s' => R (.error e) s') s := by
  have nLq : L ≠ q := by
    intro e
    rw [e, rg] at at_
    simp at at_
  have lL : L < s.heap.objs.size := Heap.lt_size at_
  have nLI : L ≠ s.heap.objs.size := Nat.ne_of_lt lL
  have W := (Walks.longrange (prog := prog) (w := w) (A := A.in1) hh s.heap.objs.size a c n).toS
  have loop : ∀ (h : Heap) (c1 tk : Nat), IsLongIter h s.heap.objs.size (a + ((0 : Nat) : Int) * c) ((n : Int) - ((0 : Nat) : Int)) c → (∀ x o, x ≠ L → s.heap.get? x = some o → h.get? x = some o) →
      h.get? L = some { cls := .type "list", data := .seq #[] c1 } → codeAny (model prog w) A (.builtin "list.extend.loop" ⟨[.ref L, .ref s.heap.objs.size, res], []⟩) R { s with heap := h, toks := tk } := by
    intro h c1 tk it keep now
    refine codeAny_extend_loopS W (by rw [sizeLine_eq]; omega) L (fun z => nLI (List.mem_singleton.mp z)) res n 0 _ #[] c1 rfl (Nat.zero_le _) it now (ItemsOf.nil _) fun s' acc c' mv now' items => ?_
    rw [Moved.eq_with mv]
    refine k s'.heap s'.toks acc c' (fun x o hx e => mv.heap x o (fun z => ?_) (keep x o hx e)) now' items
    rcases List.mem_cons.mp z with z | z
    · exact hx z
    · exact absurd (Heap.lt_size e) (by rw [List.mem_singleton.mp z]; exact Nat.lt_irrefl _)
  unfold Builtin.List.listExtendWith
  refine wpAny_bind (wpAny_typeOf (T := "range") ⟨_, rg, rfl⟩ ?_)
  have z1 : Builtin.List.listSameRef (.ref L) (.ref q) = false := by simp [Builtin.List.listSameRef, nLq]
  have z2 : (Value.type "range" == Value.type "list") = false := by decide
  have z3 : (Value.type "range" == Value.type "tuple") = false := by decide
  simp only [z1, z2, z3, Bool.or_false, Bool.false_eq_true, if_false]
  refine wpAny_bind (wpAny_pyIter_longrange rg big ?_)
  refine wpAny_bind (wpAny_holding (wpAny_hint_range (n := n) (Heap.get?_push_of_some _ rg) size few ?_))
  have it1 : IsLongIter (s.heap.push (lgObj a (Builtin.Range.rangeSize a b c) c)) s.heap.objs.size (a + ((0 : Nat) : Int) * c) ((n : Int) - ((0 : Nat) : Int)) c := by
    show IsLongIter _ _ _ _ _
    rw [size]
    simpa using Heap.get?_push_size _ rfl
  have at1 := Heap.get?_push_of_some (lgObj a (Builtin.Range.rangeSize a b c) c) at_
  refine wpAny_ite_split (fun _ => ?_) (fun _ => wpAny_pure ⟨plainId_quiet F.plain_extend_loop _, loop _ c0 _ it1 (fun x o _ e => Heap.get?_push_of_some _ e) at1⟩)
  refine wpAny_bind (wpAny_rule (wpAny_bind ?_))
  show wpAny _ _ (updateSeq L (·.push .none) >>= fun _ => updateSeq L (·.pop)) _ _ _
  refine wpAny_bind (wpAny_updateSeq at1 rfl ?_)
  have at2 := Heap.get?_update_self (Obj.mapSeq (·.push Value.none)) at1 rfl
  refine wpAny_updateSeq (hz := by seq_fits) at2 rfl ?_
  refine wpAny_pure ⟨plainId_quiet F.plain_extend_loop _, loop _ _ _ ?_ (fun x o hx e => ?_) (Heap.get?_update_self (Obj.mapSeq (·.pop)) at2 rfl)⟩
  · rw [show IsLongIter _ _ _ _ _ ↔ IsLongIter _ _ _ _ _ from Iff.rfl]
    exact (Heap.get?_update_other _ _ nLI).trans ((Heap.get?_update_other _ _ nLI).trans it1)
  · exact (Heap.get?_update_other _ _ (Ne.symm hx)).trans ((Heap.get?_update_other _ _ (Ne.symm hx)).trans (Heap.get?_push_of_some _ e))
theorem inits {R : Result → Shared → Prop} {q : Addr} {a b c : Int} {t u v : Tok} {n : Nat} (hh : A.in1.handled = none) (rg : IsRange s.heap q a b c t u v) (big : Builtin.Range.small a b c = false)
    (size : Builtin.Range.rangeSize a b c = n) (few : n ≤ 2 ^ 24) (L : Addr) (at_ : s.heap.get? L = some { cls := .type "list", data := .seq #[] })
    (k : ∀ h' tk acc c', (∀ x o, x ≠ L → s.heap.get? x = some o → h'.get? x = some o) → h'.get? L = some { cls := .type "list", dict := none, data := .seq acc c', slots := #[] } →
      ItemsOf (fun i z => ∃ t, z = .int (a + i * c) t) acc n → R (.ok (.ret .none)) { s with heap := h', toks := tk }) :
    wpAny (model prog w) A.in1 (Builtin.«list.__init__» ⟨[.ref L, .ref q], []⟩)
      (fun fin s' => match fin with | .done f => R (.ok f) s' | .again c' => c'.quiet = true ∧ codeAny (model prog w) A c' R s') (fun e s' => R (.error e) s') s := by
  have nLq : L ≠ q := by
    intro e
    rw [e, rg] at at_
    simp at at_
  show wpAny _ _ (Builtin.List.listItems (.ref L) >>= fun old => Builtin.List.listUpdate (.ref L) (fun _ => #[]) >>= fun _ => letGo old.toList.reverse >>= fun _ => Builtin.List.listExtendWith (.ref L) (.ref q) .none) _ _ s
  refine wpAny_bind ?_
  unfold Builtin.List.listItems
  refine wpAny_bind (wpAny_seqItems at_ rfl (wpAny_pure ?_))
  show wpAny _ _ (updateSeq L (fun _ => #[]) >>= fun _ => letGo (#[] : Array Value).toList.reverse >>= fun _ => Builtin.List.listExtendWith (.ref L) (.ref q) .none) _ _ s
  refine wpAny_bind (wpAny_updateSeq at_ rfl ?_)
  have at2 := Heap.get?_update_self (Obj.mapSeq (fun _ => (#[] : Array Value))) at_ rfl
  have other : ∀ x o, x ≠ L → s.heap.get? x = some o → (s.heap.update L (Obj.mapSeq (fun _ => (#[] : Array Value)))).get? x = some o := fun x o hx e => (Heap.get?_update_other _ _ (Ne.symm hx)).trans e
  refine wpAny_bind (wpAny_letGo ?_)
  exact grow hh (other q _ (Ne.symm nLq) rg) big size few L .none _ at2 fun h' tk acc c' keep now items => k h' tk acc c' (fun x o hx e => keep x o hx (other x o hx e)) now items
theorem called {E : Value → Shared → Prop} {Q : Value → Shared → Prop} {q : Addr} {a b c : Int} {t u v : Tok} {n : Nat} (hh : A.handled = none) (rg : IsRange s.heap q a b c t u v) (big : Builtin.Range.small a b c = false)
    (size : Builtin.Range.rangeSize a b c = n) (few : n ≤ 2 ^ 24)
    (k : ∀ h' tk acc c', (∀ x o, s.heap.get? x = some o → h'.get? x = some o) → h'.get? s.heap.objs.size = some { cls := .type "list", dict := none, data := .seq acc c', slots := #[] } → ItemsOf (fun i z => ∃ t, z = .int (a + i * c) t) acc n → Q (.ref s.heap.objs.size) { s with heap := h', toks := tk }) :
    wpAny (model prog w) A (call (.type "list") [.ref q]) Q E s := by
  refine callType_codes (Q₁ := fun obj s1 => obj = .ref s.heap.objs.size ∧ s1 = { s with heap := s.heap.push { cls := .type "list", data := .seq #[] } }) F.called_list (F.typeCall_list_1 _) F.entry_list_init (code_list_new _ ⟨rfl, rfl⟩) fun obj s1 h1 => ?_
  obtain ⟨rfl, rfl⟩ := h1
  have now : (s.heap.push { cls := .type "list", data := .seq #[] }).get? s.heap.objs.size = some { cls := .type "list", data := .seq #[] } := Heap.get?_push_size _ rfl
  refine ⟨⟨_, now, rfl⟩, F.args_list_init_2 _ _, inits (A := A.in1) hh (Heap.get?_push_of_some _ rg) big size few _ now fun h' tk acc c' keep now' items => ?_⟩
  exact ⟨rfl, k h' tk acc c' (fun x o e => keep x o (Nat.ne_of_lt (Heap.lt_size e)) (Heap.get?_push_of_some _ e)) now' items⟩
end
end DlLong
namespace Dl
open PySem L2 PyProof.Rows
def tLstRgW (te : L2.St → Hp → (Int → Int → Hp → Prop) → Prop) : TE := fun σ H Q => te σ H fun a b H1 => (b - a).toNat ≤ 2 ^ 24 ∧ ∀ q, H1 q = none → Q (.ref q) (upd H1 q (.lst (rgV a b)))
theorem pe_listRgW {X : Cx} {e : Expr} {te : L2.St → Hp → (Int → Int → Hp → Prop) → Prop} {p pos : Pos} (hc : X.calm = true) (hg : Gl X "list") (hm : X.mg "list" = none) (he : PRg X e te) (na : starEach [e] X.env = (false, eval e X.env) :: starEach [] X.env := by rfl) : PE X (.Call (.Name "list" p) [e] [] pos) (tLstRgW te) := by
  refine ⟨fun pins s σ H Q I h => ?_⟩
  refine Call_ (ld_blt I hg hm boot_list (PyProof.Rows.callWith_type1 (args_cons (thn (he pins s σ H _ I h) fun x s1 ⟨r, a, b, t, u, v, H1, ex, hr, I1, b5, q⟩ => args_nil ?_) na) na))
  subst ex
  have fin : ∀ h' tk acc c', (∀ x o, s1.heap.get? x = some o → h'.get? x = some o) → h'.get? s1.heap.objs.size = some { cls := .type "list", dict := none, data := .seq acc c', slots := #[] } → ItemsOf (fun i z => ∃ t, z = .int (a + i * 1) t) acc (b - a).toNat → EP X pins σ Q (.ref s1.heap.objs.size) { s1 with heap := h', toks := tk } := by
    intro h' tk acc c' hk e' hi
    refine ⟨.ref s1.heap.objs.size, upd H1 s1.heap.objs.size (.lst (rgV a b)), I1.laid hk (Nat.le_refl _) (show ObjOk X.prog X.w _ _ _ (.lst (rgV a b)) from ⟨?_, acc.toList, c', vals_rg hi, ?_⟩), rfl, q _ (I1.hok.fresh (Nat.le_refl _))⟩
    · rw [rgV_length, sizeLine_eq]; omega
    · rw [Array.toArray_toList]; exact e'
  cases hsm : Builtin.Range.small a b 1 with
  | true => exact call_list_range (n := (b - a).toNat) (I1.ok.hd hc) hr hsm (rangeSize_nat a b) b5 fin
  | false => exact DlLong.called (n := (b - a).toNat) (I1.ok.hd hc) hr hsm (rangeSize_nat a b) b5 fin
section
variable {K : PySem.W.Frag} {B : Bs} {ρ : En} {μ : Mu} {ta tb : TE} {P : D → Mu → Prop}
theorem rps_rg {G : Hp} {al : List Addr} (a b : Int) : Rps K G al (rgV a b) (rangeD a (b - a).toNat) := by
  unfold rgV rangeD
  generalize (b - a).toNat = n
  induction n with
  | zero => exact .nil
  | succ n ih =>
    rw [List.range_succ, List.map_append, List.map_append]
    exact ih.append (.cons (.int _) .nil)
/-- list(range(a, b)): frozen or not -/
theorem de_lstRgW (h : DE K B ta ρ μ fun x μ1 => DE K B tb ρ μ1 fun y μ2 => ∃ a b : Int, x = .int a ∧ y = .int b ∧ b - a ≤ 100000 ∧ Fresh (rangeD a (b - a).toNat) μ2 P) : DE K B (tLstRgW (tRg2 ta tb)) ρ μ P := fun σ G H al hB hσ hA Q hQ =>
  h σ G H al hB hσ hA _ fun vx x μ1 G1 H1 al1 n1 A1 r1 p1 => p1 σ G1 H1 al1 (hB.trans n1) (hσ.nx n1) A1 _ fun vy y μ2 G2 H2 al2 n2 A2 r2 p2 => by
    obtain ⟨a, b, rfl, rfl, hl, p⟩ := p2
    have r1' := r1.nx n2
    cases r1'; cases r2
    refine ⟨a, b, rfl, rfl, by omega, fun q hq => ?_⟩
    rcases p with p | p
    · obtain ⟨A3, n3⟩ := A2.frz (o := .lst (rgV a b)) hq
      exact hQ _ _ μ2 _ _ _ ((n1.trans n2).trans n3) A3 (.lst upd_same (rps_rg a b)) p
    · obtain ⟨A3, n3⟩ := A2.own (o := .lst (rgV a b)) (m := .lst (rangeD a (b - a).toNat)) hq ⟨A2.sub.free hq, _, upd_same, rps_rg a b⟩
      exact hQ _ _ _ _ _ _ ((n1.trans n2).trans n3) A3 (.own (by rw [← A2.len]; simp)) p
end
end Dl

set_option Elab.async false
set_option linter.all false
set_option maxRecDepth 100000
/-! int of a truth value; isinstance of own classes: what of the head it wants -/
namespace Dl
open PySem L2 PyProof.Rows
def rInt1 : List V → Hp → VK → Prop := fun xs H Q => (∃ i, xs = [.int i] ∧ Q (.int i) H) ∨ ∃ k, xs = [.bl k] ∧ Q (.int (if k then 1 else 0)) H
section
variable {K : PySem.W.Frag} {μ : Mu} {P : D → Mu → Prop}
theorem rc_intB {b : Bool} (h : P (.int (if b then 1 else 0)) μ) : RC K rInt1 [.bl b] μ P := fun G H al vs A r Q hQ => by
  obtain ⟨v, rfl, r1⟩ := rps1 r
  cases r1
  exact .inr ⟨b, rfl, hQ.now A (.int _) h⟩
end
def obtB (x : Str) (K : PySem.W.Frag) : Bool := He.eqO (PySem.W.findIn K (.ref (He.ga K x)) "__class__") (some (some (.builtin "object.__class__"))) && (He.eqO (PySem.W.specialIn K (.builtin "object.__class__") "__get__") (some (some (.builtin "getset_descriptor.__get__"))) &&
  (decide (PySem.W.takesIn K (.builtin "object.__class__") = some true) && decide (PySem.W.mroIn K (He.ga K x) (.type "object") = some true)))
theorem obtB_ok {K : PySem.W.Frag} {x : Str} (c : Cls K (He.ga K x)) (h : obtB x K = true) : ObT K (He.ga K x) := by
  unfold obtB at h
  obtain ⟨h1, h2⟩ := He.ba h
  obtain ⟨h3, h4⟩ := He.ba h2
  obtain ⟨h5, h6⟩ := He.ba h4
  exact ⟨c, He.eqO_ok h1, He.eqO_ok h3, of_decide_eq_true h5, of_decide_eq_true h6⟩
def isB (x y : Str) (b : Bool) (K : PySem.W.Frag) : Bool := decide (PySem.W.kitOne K (.ref (He.ga K x)) (.ref (He.ga K y)) = some b)
theorem isB_ok {K : PySem.W.Frag} {x y : Str} {b : Bool} (h : isB x y b K = true) : PySem.W.kitOne K (.ref (He.ga K x)) (.ref (He.ga K y)) = some b := of_decide_eq_true h
/-- a method that a class has from the one over it -/
def sameM (x y m : Str) (K : PySem.W.Frag) : Bool := decide (He.ma K (He.ga K x) m = He.ma K (He.ga K y) m)
theorem sameM_ok {K : PySem.W.Frag} {x y m : Str} (h : sameM x y m K = true) : He.ma K (He.ga K x) m = He.ma K (He.ga K y) m := of_decide_eq_true h
end Dl

set_option Elab.async false
set_option linter.all false
set_option maxRecDepth 100000
/-! sorted(set(xs)) of a list of ints -/
namespace DlSet
open PySem PySem.Spec PyProof.Rows L2
abbrev setW (w : World) : Obj := { cls := .type "set", dict := none, data := .set #[] 0 (.fresh 0 0 (!w.params.followText "set-order")) }
section
variable {prog : Program} {w : World} {A : Around} {E : Value → Shared → Prop} {s : Shared}
set_option maxHeartbeats 3200000 in
theorem call_set_ints {l : Addr} {items : Array Value} {ns : List Int} {Q : Value → Shared → Prop}
    (hh : A.handled = none) (hl : s.heap.IsList l items) (hi : IntsAre items.toList ns) (hb : ns.length + 1 < scanBound)
    (h : ∀ (h' : Heap) (tk c : Nat), SetR w h' s.heap.objs.size (fun j => decide (j ∈ ns)) c → c ≤ ns.length → (∀ b o, b < s.heap.objs.size → s.heap.get? b = some o → h'.get? b = some o) → Q (.ref s.heap.objs.size) { s with heap := h', toks := tk }) :
    wpAny (model prog w) A (call (.type "set") [.ref l]) Q E s := by
  have hisz : items.size = ns.length := by
    have q := IntsAre.length hi
    rwa [Array.length_toList] at q
  obtain ⟨c, tl, hmro⟩ := PySem.F.called_set.mro
  have hmade := PySem.F.called_set.made
  have hsub := PySem.F.called_set.sub
  refine wpAny_call (codeAny_of_tree ?_)
  show wpAny _ _ (callAny (.type "set") _) _ _ _
  refine wpAny_pure ⟨Code.quiet_builtin _ (by decide +kernel), codeAny_builtin PySem.F.entry_type_call ?_⟩
  rw [Around.under_plain (weight_type_call_type "set" [.ref l] []) rfl]
  have h1 := PySem.F.called_set.notType
  have h2 := PySem.F.called_set.canCreate
  have hct := PySem.F.typeCall_set_1 (.ref l)
  repeat (any_goals (first | assumption | wp_step))
  refine codeAny_mono (code_set_led1 (.ref l) (E := E) (Q₁ := fun obj s₁ => obj = .ref s.heap.objs.size ∧ s₁ = { s with heap := s.heap.push (setW w) }) ⟨rfl, rfl⟩) fun r s₁ hr => ?_
  match r, hr with
  | .error e, hr => exact hr
  | .ok .next, hr => exact hr.elim
  | .ok .brk, hr => exact hr.elim
  | .ok .cont, hr => exact hr.elim
  | .ok (.ret obj), hr =>
    obtain ⟨rfl, rfl⟩ := hr
    have hS : (s.heap.push (setW w)).get? s.heap.objs.size = some (setW w) := Heap.get?_push_size _ rfl
    have hT : Shared.TypeIs { s with heap := s.heap.push (setW w) } (.ref s.heap.objs.size) "set" := ⟨_, hS, rfl⟩
    have hli := PySem.F.called_set.init.lookup
    have hbi := PySem.F.called_set.init.bind (.ref s.heap.objs.size)
    repeat (any_goals (first | assumption | wp_step))
    refine codeAny_mono (codeAny_call_builtin (R := wants (fun r s₂ => r = .none ∧ ∃ h' tk c, s₂ = { s with heap := h', toks := tk } ∧ SetR w h' s.heap.objs.size (fun j => decide (j ∈ ns)) c ∧ c ≤ ns.length ∧
        (∀ b o, b < s.heap.objs.size → s.heap.get? b = some o → h'.get? b = some o)) E) PySem.F.called_set.init.plain PySem.F.entry_set_init (check_set_init_1 hT ?_)) fun r₂ s₂ hr₂ => ?_
    · obtain ⟨⟨ocls, odict, odata, oslots⟩, hol, hcl, nl, hdl⟩ := hl
      simp only at hcl hdl
      subst hcl; subst hdl
      have hol' : (s.heap.push (setW w)).get? l = some { cls := .type "list", dict := odict, data := .seq items nl, slots := oslots } := Heap.get?_push_of_some _ hol
      have hsls := PySem.F.sub_list_set
      have hslf := PySem.F.sub_list_frozenset
      have hne : (Value.type "list" == Value.type "dict") = false := by decide
      have hl1 : (s.heap.push (setW w)).IsList l items := ⟨_, hol', rfl, nl, rfl⟩
      unfold Builtin.«set.__init__» noKeywords Builtin.Frozenset.updateFrom
      generalize hPI : pyIter = PI
      wp_walk
      subst hPI
      refine wpAny_pyIter_list hl1 ?_
      refine wpAny_bind (wpAny_runValue ?_)
      have hlS : l < s.heap.objs.size := Heap.lt_size hol
      have hh3 : A.in1.in1.in1.handled = none := by simp [hh]
      have hneI : l ≠ (s.heap.push (setW w)).objs.size := by
        rw [Heap.size_push]; exact Nat.ne_of_lt (Nat.lt_succ_of_lt hlS)
      have hSf : s.heap.objs.size ∉ [(s.heap.push (setW w)).objs.size, l] := by
        rw [Heap.size_push]
        intro hx
        rcases List.mem_cons.mp hx with e | e
        · exact Nat.ne_of_lt (Nat.lt_succ_self _) e
        · exact Nat.ne_of_gt hlS (List.mem_singleton.mp e)
      have hval : ∀ (i : Nat) (v : Value), items[i]? = some v → ∃ k t, ns[i]? = some k ∧ v = .int k t := by
        intro i v hv
        have hi' : i < ns.length := by rw [← hisz]; exact (Array.getElem?_eq_some_iff.mp hv).1
        obtain ⟨t, e⟩ := PyProof.Rows.IntsAre.int_at hi i v (by rw [Array.getElem?_toList]; exact hv)
        exact ⟨ns[i], t, List.getElem?_eq_getElem hi', by rw [e, List.getD_eq_getElem?_getD, List.getElem?_eq_getElem hi']; rfl⟩
      refine set_update_ints ((Walks.list hh3 _ l hneI items).toS) s.heap.objs.size hSf ns hisz hb hval (items.size - 0) 0 _ rfl (Nat.zero_le _) ⟨⟨_, Heap.get?_push_size _ rfl, rfl, rfl⟩, (hl1.push _)⟩ ⟨0, Nat.le_refl 0, setR_new_at (Heap.get?_push_of_some _ hS)⟩ fun s' c' hm hc' hS' => ?_
      obtain ⟨h', g', d', tk', os'⟩ := s'
      have eg : g' = s.gens := hm.gens
      have ed : d' = s.drawn := hm.drawn
      have eo : os' = s.os := hm.os
      subst eg; subst ed; subst eo
      show wpAny _ _ _ _ _ _
      refine wpAny_pure ?_
      show wpAny _ _ (ret Value.none) _ _ _
      rw [hisz] at hc'
      refine wpAny_pure ⟨rfl, h', tk', c', rfl, hS', hc', fun b o hb' e => ?_⟩
      refine hm.heap b o ?_ (Heap.get?_push_of_some _ (Heap.get?_push_of_some _ e))
      intro hx
      rw [Heap.size_push] at hx
      rcases List.mem_cons.mp hx with e' | e'
      · exact Nat.ne_of_lt hb' e'
      · exact Nat.ne_of_lt (Nat.lt_succ_of_lt hb') (List.mem_singleton.mp e')
    · match r₂, hr₂ with
      | .error e, hr₂ => exact hr₂
      | .ok .next, hr₂ => exact hr₂.elim
      | .ok .brk, hr₂ => exact hr₂.elim
      | .ok .cont, hr₂ => exact hr₂.elim
      | .ok (.ret r), hr₂ =>
        obtain ⟨rfl, h', tk, c, rfl, hS', hc', hk'⟩ := hr₂
        repeat (any_goals (first | assumption | wp_step))
        exact h _ _ c hS' hc' hk'
end
end DlSet
namespace Dl
open PySem L2 PyProof.Rows
section
variable {X : Cx}
def rSetI (K : PySem.W.Frag) (w : World) : List V → Hp → VK → Prop := fun xs H Q => ∃ (l : Addr) (ns : List Int), xs = [.ref l] ∧ SqL K H l (ns.map V.int) ∧ ns.length ≤ 4000 ∧ ∀ p c, H p = none → c ≤ ns.length → Q (.ref p) (upd H p (SetO w p (fun j => decide (j ∈ ns)) c))
theorem cr_setI (hc : X.calm = true) : CallR X (.type "set") (rSetI X.K X.w) := by
  intro pins s σ H vs us Q I r h
  obtain ⟨l, ns, rfl, hs, hl, q⟩ := h
  obtain ⟨its, rv, pl, hz⟩ := I.list hs
  rw [Vals.ref1 r]
  refine DlSet.call_set_ints (I.ok.hd hc) pl.isList (by simpa using rv.ints) (by unfold scanBound; omega) fun h' tk c hS hcl hk => ?_
  have hn := I.hok.fresh (Nat.le_refl s.heap.objs.size)
  exact ⟨.ref s.heap.objs.size, upd H s.heap.objs.size (SetO X.w s.heap.objs.size (fun j => decide (j ∈ ns)) c), I.laid (t' := tk) (fun b o e => hk b o (Heap.lt_size e) e) (Nat.le_refl _) (setO_new hS), rfl, q _ c hn hcl⟩
def tSortSet (K : PySem.W.Frag) (ta : TE) : TE := fun σ H Q => ta σ H fun x H1 => ∃ (l : Addr) (ns : List Int), x = .ref l ∧ SqL K H1 l (ns.map V.int) ∧ ns.length < 64 ∧ ∀ (a p : Addr) (c : Nat) (ms : List Int) (w : World), H1 a = none → p ≠ a → H1 p = none → ms.Pairwise (· < ·) → (∀ k : Int, k ∈ ms ↔ k ∈ ns) → Q (.ref p) (upd (upd H1 a (SetO w a (fun j => decide (j ∈ ns)) c)) p (.lst (ms.map V.int)))
/-- sorted(set(xs)) -/
theorem pe_sortSet {a : Expr} {ta : TE} {p p2 q pos : Pos} (hg : Gl X "sorted") (hm : X.mg "sorted" = none) (hg2 : Gl X "set") (hm2 : X.mg "set" = none) (ha : PE X a ta) (hc : X.calm = true := by rfl)
    (na : starEach [a] X.env = (false, eval a X.env) :: starEach [] X.env := by rfl) : PE X (.Call (.Name "sorted" p) [.Call (.Name "set" p2) [a] [] q] [] pos) (tSortSet X.K ta) := by
  refine ⟨fun pins s σ H Q I h => ?_⟩
  refine Call_ (ld_blt I hg hm boot_sorted ?_)
  refine PyProof.Rows.callWith_builtin1 (PyProof.Rows.args_cons ?_ rfl) rfl rfl
  refine Call_ (ld_blt I hg2 hm2 boot_set ?_)
  refine PyProof.Rows.callWith_type1 (PyProof.Rows.args_cons (thn (ha.run pins s σ H _ I h) fun v s1 ⟨x, H1, I1, r1, q1⟩ => PyProof.Rows.args_nil ?_) na) na rfl
  obtain ⟨l, ns, rfl, hq, hl, q1⟩ := q1
  cases r1
  refine thn (cr_setI hc pins s1 σ H1 [.ref l] [.ref l] (fun x H2 => ∃ a c, x = .ref a ∧ H1 a = none ∧ c ≤ ns.length ∧ H2 = upd H1 a (SetO X.w a (fun j => decide (j ∈ ns)) c)) I1 (.cons rfl .nil) ⟨l, ns, rfl, hq, by omega, fun a c hp hcl => ⟨a, c, rfl, hp, hcl, rfl⟩⟩) fun v s2 ⟨x, H2, I2, r2, a, c, e1, hn, hcl, e2⟩ => ?_
  subst e1; subst e2
  cases r2
  refine PyProof.Rows.args_nil ?_
  refine cr_sortedSet hc pins s2 σ _ [.ref a] [.ref a] Q I2 (.cons rfl .nil) ⟨a, _, c, rfl, upd_same, by omega, fun ms pp hpw hms hlen hpn => ?_⟩
  have hne : pp ≠ a := fun e => by rw [e, upd_same] at hpn; cases hpn
  exact q1 a pp c ms X.w hn hne (by rwa [upd_ne hne] at hpn) hpw (fun k => by rw [hms]; simp)
end
section
variable {K : PySem.W.Frag} {B : Bs} {ρ : En} {μ : Mu} {ta : TE} {P : D → Mu → Prop}
/-- sorted(set(xs)): frozen -/
theorem de_sortSet (h : DE K B ta ρ μ fun x μ1 => ∃ ns : List Int, Ls μ1 x (ns.map D.int) ∧ ns.length < 64 ∧ ∀ ms : List Int, ms.Pairwise (· < ·) → (∀ k, k ∈ ms ↔ k ∈ ns) → P (.lst (ms.map D.int)) μ1) : DE K B (tSortSet K ta) ρ μ P := fun σ G H al hB hσ hA Q hQ =>
  h σ G H al hB hσ hA _ fun v x μ1 G1 H1 al1 n1 A1 r1 p1 => by
    obtain ⟨ns, ls, hl, p⟩ := p1
    obtain ⟨l, us, rfl, sq, rs⟩ := ls.get A1 r1
    have e := rs.ints
    subst e
    refine ⟨l, ns, rfl, sq, hl, fun a pp c ms w ha hne hp hpw hms => ?_⟩
    obtain ⟨A2, n2⟩ := A1.frz (o := SetO w a (fun j => decide (j ∈ ns)) c) ha
    obtain ⟨A3, n3⟩ := A2.frz (p := pp) (o := .lst (ms.map V.int)) (by rw [upd_ne hne]; exact hp)
    exact hQ _ _ μ1 _ _ _ ((n1.trans n2).trans n3) A3 (.lst upd_same (Rps.of_ints ms)) (p ms hpw hms)
end
end Dl

set_option Elab.async false
set_option linter.all false
set_option maxRecDepth 100000
/-! list.count of texts; slices stored; dict(pairs), d.get(k, x) -/
namespace Dl
open PySem L2 PyProof.Rows
/-! ### xs.count(text) -/
def eqs (k : Str) (v : Value) : Bool := match v with
  | .str x _ => x.cps.toList == k.cps.toList
  | _ => false
theorem eqs_gives {k : Str} {t : Tok} : ∀ {us : List Value} {xs : List Str}, StrsAre us xs → ∀ y ∈ us, MeetsSeq.EqGives y (.str k t) (eqs k y)
  | _, _, .nil => fun y hy => by cases hy
  | _, _, .cons x u h => fun y hy => by
    rcases List.mem_cons.mp hy with e | e
    · rw [e]; exact SeqRoads2.EqGives.str x k u t
    · exact eqs_gives h y e
theorem eqs_count {k : Str} : ∀ {us : List Value} {xs : List Str}, StrsAre us xs → us.countP (eqs k) = xs.countP fun x => decide (x = k)
  | _, _, .nil => rfl
  | _, _, .cons x u h => by
    have ih := eqs_count (k := k) h
    rw [List.countP_cons, List.countP_cons, ih]
    have e : eqs k (.str x u) = decide (x = k) := by
      show (x.cps.toList == k.cps.toList) = _
      rw [Bool.eq_iff_iff, beq_iff_eq, decide_eq_true_eq]
      constructor
      · intro z
        obtain ⟨⟨a⟩⟩ := x
        obtain ⟨⟨b⟩⟩ := k
        simp at z
        rw [z]
      · intro z; rw [z]
    rw [e]
section
variable {X : Cx}
def rCntS (K : PySem.W.Frag) : V → List V → Hp → VK → Prop := fun x xs H Q => ∃ (p : Addr) (zs : List Str) (k : Str), x = .ref p ∧ xs = [.str k] ∧ SqL K H p (zs.map V.str) ∧ Q (.int (zs.countP (fun z => decide (z = k)) : Nat)) H
theorem mt_countS : MtR X "list.count" (rCntS X.K) := by
  intro pins s σ H x xs v us Q I rx rxs h
  obtain ⟨p, zs, k, rfl, rfl, hs, q⟩ := h
  cases rx
  obtain ⟨u, rfl, ru⟩ := rxs.one
  obtain ⟨t, rfl⟩ := ru
  obtain ⟨its, rv, ⟨⟨cls, dd, data, sl⟩, n, ho, hc, hdn, hd⟩, hlen⟩ := I.list hs
  simp only at hc hd
  subst hc hd
  have hi := rv.strs
  refine call_meets PySem.F.slot_list_count ⟨_, ho, rfl⟩ PySem.F.entry_list_count (PySem.F.args_list_count_2 _ _) (SeqAt.list_countAt p its.toArray n dd sl (.str k t) (eqs k)) ⟨ho, fun y hy => (eqs_gives hi y (by simpa using hy)).at _ _, ?_⟩
  refine ⟨.int (zs.countP (fun z => decide (z = k)) : Nat), H, I.tok _, ⟨s.toks, ?_⟩, q⟩
  show Value.int ((its.toArray.toList.countP (eqs k) : Nat) : Int) s.toks = _
  rw [show its.toArray.toList.countP (eqs k) = _ from eqs_count hi]
/-! ### o[a:c] = v -/
def gSlc (to : TE) (tl th : TO) : TG := fun v σ H Q => to σ H fun x H1 => tl σ H1 fun l H2 => th σ H2 fun u H3 => ∃ (p b : Addr) (xs ys : List V) (a c : Int), x = .ref p ∧ v = .ref b ∧ l = some a ∧ u = some c ∧ H3 p = some (.lst xs) ∧ H3 b = some (.lst ys) ∧ p ≠ b ∧ 0 ≤ a ∧ a ≤ c ∧ c ≤ xs.length ∧ xs.length + ys.length ≤ sizeLine ∧ Q σ (upd H3 p (.lst (xs.take a.toNat ++ ys ++ xs.drop c.toNat)))
theorem part_int {u : Value} {a : Int} (h : IsPart u (some a)) : RelV (.int a) u := by
  cases h with
  | int _ t => exact ⟨t, rfl⟩
theorem pg_slc {o : Expr} {lo hi : Option Expr} {p2 pos : Pos} {to : TE} {tl th : TO} (ho : PE X o to) (hl : PO X lo tl) (hu : PO X hi th)
    (ha : ∀ v, assign (.Subscript o (.Slice lo hi none p2) pos) X.env v = (do
      let ov ← holding [v] (eval o X.env)
      let iv ← holding [v, ov] (eval (.Slice lo hi none p2) X.env)
      standAt pos
      holding [v, ov, iv] (setItem ov iv v)
      release [v, ov, iv] []) := by intro _; rfl) : PG X (.Subscript o (.Slice lo hi none p2) pos) (gSlc to tl th) := by
  refine ⟨fun pins s σ H v u Q I r h => ?_⟩
  rw [ha]
  refine wpAny_bind (wpAny_holding (thn (ho.run pins s σ H _ I h) fun ov s1 ⟨x, H1, I1, r1, q1⟩ => ?_))
  refine wpAny_bind (wpAny_holding (wpAny_Slice (thn (hl.run pins s1 σ H1 _ I1 q1) fun vl s2 ⟨l, H2, I2, pl, q2⟩ => thn (hu.run pins s2 σ H2 _ I2 q2) fun vu s3 ⟨e, H3, I3, pu, q3⟩ => ?_)))
  rw [evalPart_none]
  refine wpAny_pure ?_
  have I4 : Inv X pins σ H3 { s3 with heap := s3.heap.push { cls := .type "slice", data := .fields #[vl, vu, .none] } } := I3.kept (t' := s3.toks) fun b ob z => Heap.get?_push_of_some _ z
  obtain ⟨p, b, xs, ys, a, c, e1, e2, e3, e4, hp, hb, hne, h0, hac, hc, hz, q⟩ := q3
  subst e1; subst e2; subst e3; subst e4
  cases r1; cases r
  refine wpAny_bind (wpAny_standAt (wpAny_bind (wpAny_holding ?_)))
  refine set_slice I4 hp hb hne (Heap.IsSliceOf.new ..) (part_int pl) (part_int pu) h0 hac hc hz fun s5 I5 => ?_
  exact wpAny_release ⟨σ, _, I5, q⟩
end
section
variable {K : PySem.W.Frag} {B : Bs} {ρ : En} {μ : Mu} {to td ty tx : TE} {tl th : TO} {P : D → Mu → Prop}
theorem rm_countS {x : D} {zs : List Str} {k : Str} (hl : Ls μ x (zs.map D.str)) (h : P (.int (zs.countP (fun z => decide (z = k)) : Nat)) μ) : RM K (rCntS K) x [.str k] μ P := fun G H al v vs A r rs Q hQ => by
  obtain ⟨z, rfl, rz⟩ := rps1 rs
  cases rz
  obtain ⟨a, us, rfl, sq, ru⟩ := hl.get A r
  have e := ru.strs
  subst e
  exact ⟨a, zs, k, rfl, rfl, sq, hQ.now A (.int _) h⟩
/-- own[a:c] = a frozen list -/
theorem dg_slc {PG' : En → Mu → Prop} {es : List D} (h : DE K B to ρ μ fun x μ1 => DO K B tl ρ μ1 fun l μ2 => DO K B th ρ μ2 fun u μ3 => ∃ (k : Nat) (ds : List D) (a c : Int), x = .own k ∧ μ3[k]? = some (.lst ds) ∧ l = some a ∧ u = some c ∧ 0 ≤ a ∧ a ≤ c ∧ c ≤ ds.length ∧ ds.length + es.length ≤ 100000 ∧ PG' ρ (μ3.set k (.lst (ds.take a.toNat ++ es ++ ds.drop c.toNat)))) : DG K B (gSlc to tl th) (.lst es) ρ μ PG' := fun σ G H al v hB hσ hA rv Q hQ =>
  h σ G H al hB hσ hA _ fun vx x μ1 G1 H1 al1 n1 A1 r1 p1 => p1 σ G1 H1 al1 (hB.trans n1) (hσ.nx n1) A1 _ fun l μ2 G2 H2 al2 n2 A2 p2 => p2 σ G2 H2 al2 ((hB.trans n1).trans n2) ((hσ.nx n1).nx n2) A2 _ fun u μ3 G3 H3 al3 n3 A3 p3 => by
    obtain ⟨k, ds, a, c, rfl, hk, rfl, rfl, h0, hac, hc, hz, q⟩ := p3
    obtain ⟨ad, ha, ga, ws, hv, rw'⟩ := A3.get hk
    have r1' := (r1.nx n2).nx n3
    have rv' := ((rv.nx n1).nx n2).nx n3
    cases r1' with
    | own e =>
      rw [ha] at e; cases e
      cases rv' with
      | @lst b us _ eb rb =>
        have hne : ad ≠ b := fun z => by rw [z, eb] at ga; cases ga
        obtain ⟨A4, n4⟩ := A3.put (o := .lst (ws.take a.toNat ++ us ++ ws.drop c.toNat)) (m' := .lst (ds.take a.toNat ++ es ++ ds.drop c.toNat)) ha hk (by simp) ⟨ga, _, upd_same, ((rw'.take _).append rb).append (rw'.drop _)⟩
        exact ⟨_, _, _, _, a, c, rfl, rfl, rfl, rfl, hv, A3.sub _ _ eb, hne, h0, hac, by rw [rw'.length]; exact hc, by rw [rw'.length, rb.length]; exact Nat.le_trans hz (by decide), hQ _ _ _ _ _ _ (((n1.trans n2).trans n3).trans n4) ((((hσ.nx n1).nx n2).nx n3).nx n4) A4 q⟩
/-! ### d.get(k, x), dict(pairs) -/
theorem Dt.isD {G H : Hp} {al : List Addr} {v : V} {d : D} {gs : List (Key × D)} (h : Dt μ d gs) (A : As K G H al μ) (r : Rp K G al v d) : ∃ a, v = .ref a ∧ IsD H a := by
  obtain ⟨a, kvs, rfl, ha, _⟩ := h.get A r
  exact ⟨a, rfl, .inl ⟨kvs, .inl ha⟩⟩
theorem de_dget2 (h : DE K B td ρ μ fun x μ1 => (∃ gs, Dt μ1 x gs) ∧ DE K B ty ρ μ1 fun y μ2 => DE K B tx ρ μ2 fun z μ3 => ∃ gs k, Dt μ3 x gs ∧ y = keyD k ∧ P ((valD gs k).getD z) μ3) : DE K B (tDGet2 td ty tx) ρ μ P := fun σ G H al hB hσ hA Q hQ =>
  h σ G H al hB hσ hA _ fun vx x μ1 G1 H1 al1 n1 A1 r1 p1 => by
    obtain ⟨⟨gs0, d0⟩, p1⟩ := p1
    obtain ⟨a, rfl, isd⟩ := d0.isD A1 r1
    refine ⟨a, rfl, isd, p1 σ G1 H1 al1 (hB.trans n1) (hσ.nx n1) A1 _ fun vy y μ2 G2 H2 al2 n2 A2 r2 p2 => p2 σ G2 H2 al2 ((hB.trans n1).trans n2) ((hσ.nx n1).nx n2) A2 _ fun vz z μ3 G3 H3 al3 n3 A3 r3 p3 => ?_⟩
    obtain ⟨gs, k, dt, rfl, p⟩ := p3
    obtain ⟨a', kvs, e, ha, rk⟩ := dt.get A3 ((r1.nx n2).nx n3)
    cases e
    obtain rfl := rp_key (r2.nx n3)
    refine ⟨_, DGet.k ha, ?_⟩
    have nn := (n1.trans n2).trans n3
    cases q : valD gs k with
    | none =>
      rw [q] at p
      rw [(rk.val k).2 q]
      exact hQ _ _ μ3 G3 H3 al3 nn A3 r3 p
    | some d =>
      rw [q] at p
      obtain ⟨v, ev, rv⟩ := (rk.val k).1 d q
      rw [ev]
      exact hQ _ _ μ3 G3 H3 al3 nn A3 rv p
def rDictP (K : PySem.W.Frag) : List V → Hp → VK → Prop := fun xs H Q => ∃ (a : Addr) (ps : List Addr) (kvs : List (Key × V)), xs = [.ref a] ∧ SqL K H a (ps.map V.ref) ∧ Paired (fun p kv => SqT K H p [kV kv.1, kv.2]) ps kvs ∧ ∀ p, H p = none → Q (.ref p) (upd H p (.dK (mergeK [] kvs)))
theorem pairs_rps {G H : Hp} {al : List Addr} (s : Same G H) : ∀ {gs : List (Key × D)} {us : List V}, Rps K G al us (gs.map fun kv => .tup [keyD kv.1, kv.2]) → ∃ (ps : List Addr) (kvs : List (Key × V)), us = ps.map V.ref ∧ Paired (fun p kv => SqT K H p [kV kv.1, kv.2]) ps kvs ∧ Rpk K G al kvs gs
  | [], _, h => by cases h; exact ⟨[], [], rfl, .nil, .nil⟩
  | (k, d) :: gs, _, h => by
    obtain ⟨v, ws, rfl, r, t⟩ := rps_cons h
    obtain ⟨ps, kvs, rfl, pr, rk⟩ := pairs_rps s (gs := gs) t
    cases r with
    | tup e rs =>
      obtain ⟨v1, v2, rfl, r1, r2⟩ := rps2 rs
      obtain rfl := rp_key r1
      exact ⟨_ :: ps, (k, v2) :: kvs, rfl, .cons (.inl (.inl (s _ _ e))) pr, .cons r2 rk⟩
theorem rc_dictP {x : D} {gs : List (Key × D)} (hl : Ls μ x (gs.map fun kv => .tup [keyD kv.1, kv.2])) (h : P (.dct (mergeKD [] gs)) μ ∨ P (.own μ.length) (μ ++ [.dK (mergeKD [] gs)])) : RC K (rDictP K) [x] μ P := fun G H al vs A r Q hQ => by
  obtain ⟨v, rfl, r1⟩ := rps1 r
  obtain ⟨a, us, rfl, sq, ru⟩ := hl.get A r1
  obtain ⟨ps, kvs, rfl, pr, rk⟩ := pairs_rps A.sub ru
  refine ⟨a, ps, kvs, rfl, sq, pr, fun p hp => ?_⟩
  have rm := rk.merge (gs := []) (kvs := []) .nil
  rcases h with h | h
  · obtain ⟨A2, n2⟩ := A.frz (o := .dK (mergeK [] kvs)) hp
    exact hQ _ _ μ _ _ _ n2 A2 (.dct upd_same (rm.mono n2.g n2.p)) h
  · obtain ⟨A2, n2⟩ := A.own (o := .dK (mergeK [] kvs)) (m := .dK (mergeKD [] gs)) hp ⟨A.sub.free hp, _, upd_same, rm.mono (Same.refl _) ⟨[p], rfl⟩⟩
    exact hQ _ _ _ _ _ _ n2 A2 (.own (by rw [← A.len]; simp)) h
end
end Dl

set_option Elab.async false
set_option linter.all false
namespace Dl
open PySem L2 PyProof.Rows
/-- a part of a tuple -/
theorem rs_anyT {K : PySem.W.Frag} {μ : Mu} {x : D} {ds : List D} {P : D → Mu → Prop} {lo hi : Option Int} (hl : Ts x ds) (hne : ¬ (HT.sIx ds.length 0 lo = 0 ∧ HT.sIx ds.length ds.length hi = ds.length)) (h : P (.tup (cutD ds lo hi)) μ) : RS K (rSlA K) x lo hi μ P := fun G H al v A r Q hQ => by
  obtain ⟨a, ws, rfl, s, rs⟩ := hl.get A r
  refine .inr (.inr ⟨a, ws, rfl, s, by rw [rs.length]; exact hne, fun p hp => ?_⟩)
  obtain ⟨A2, n2⟩ := A.frz (o := .tup (cutV ws lo hi)) hp
  exact hQ _ _ μ _ _ _ n2 A2 (.tup upd_same ((cut_rps rs lo hi).nx n2)) h
theorem rps_own {K : PySem.W.Frag} {G : Hp} {al : List Addr} {a : Addr} {j : Nat} {d : D} (ha : al[j]? = some a) (r : Rp K G al (.ref a) d) : ∀ {ds : List D} {vs : List V}, Rps K G al vs (ds ++ [.own j]) → Rps K G al vs (ds ++ [d])
  | [], _, h => by
    cases h with
    | cons r0 t =>
      cases r0 with
      | own e2 => rw [ha] at e2; cases e2; exact .cons r t
  | x :: ds, _, h => by
    cases h with
    | cons r0 t => exact .cons r0 (rps_own ha r t)
/-- the last thing of a list, a list itself, is frozen -/
theorem gh_app {K : PySem.W.Frag} {μ : Mu} {k j : Nat} {ds es : List D} (hk : μ[k]? = some (.lst (ds ++ [.own j]))) (hkj : j ≠ k) (hj : μ[j]? = some (.lst es)) : Gh K μ ((μ.set j .dead).set k (.lst (ds ++ [.lst es]))) := fun G H al A => by
  obtain ⟨a, ha, ga, vs, hv, rs⟩ := A.get hj
  obtain ⟨A1, n1⟩ := A.freeze ha hv ga
  have hk1 : (μ.set j .dead)[k]? = some (.lst (ds ++ [.own j])) := by rw [List.getElem?_set_ne hkj]; exact hk
  obtain ⟨b, hb, gb, us, hus, ru⟩ := A1.get hk1
  have r2 : Rp K (upd G a (.lst vs)) al (.ref a) (.lst es) := .lst upd_same (rs.nx n1)
  have hup : upd H b (.lst us) = H := by
    funext z
    by_cases hz : z = b
    · subst hz; rw [upd_same, hus]
    · rw [upd_ne hz]
  obtain ⟨A2, n2⟩ := A1.put (o := .lst us) (m' := .lst (ds ++ [.lst es])) hb hk1 (by simp) ⟨gb, us, upd_same, rps_own ha r2 ru⟩
  rw [hup] at A2 n2
  exact ⟨_, A2, n1.trans n2⟩
/-- a dict in a field is frozen -/
theorem gh_fldK {K : PySem.W.Frag} {μ : Mu} {k j : Nat} {C : Addr} {gs : List (Str × D)} {f : Str} {ps : List (Key × D)} (hk : μ[k]? = some (.ins C gs)) (hl : gs.lookup f = some (.own j)) (hj : μ[j]? = some (.dK ps)) : Gh K μ ((μ.set j .dead).set k (.ins C (putD f (.dct ps) gs))) := fun G H al A => by
  obtain ⟨a, ha, ga, vs, hv, rs⟩ := A.get hj
  obtain ⟨A1, n1⟩ := A.freeze ha hv ga
  have hk1 : (μ.set j .dead)[k]? = some (.ins C gs) := by
    rw [List.getElem?_set_ne fun e => by rw [e, hk] at hj; cases hj]
    exact hk
  obtain ⟨b, hb, gb, dx, fs, hfs, rf⟩ := A1.get hk1
  have hup : upd H b (.ins C dx fs) = H := by
    funext z
    by_cases hz : z = b
    · subst hz; rw [upd_same, hfs]
    · rw [upd_ne hz]
  obtain ⟨A2, n2⟩ := A1.put (o := .ins C dx fs) (m' := .ins C (putD f (.dct ps) gs)) hb hk1 (by simp) ⟨gb, dx, fs, upd_same, rpf_own ha (.dct upd_same (rs.mono n1.g n1.p)) rf hl⟩
  rw [hup] at A2 n2
  exact ⟨_, A2, n1.trans n2⟩
end Dl

set_option Elab.async false
set_option linter.all false
set_option maxRecDepth 100000
set_option maxHeartbeats 2000000
/-! exceptions that are caught and kept as values -/
namespace Dl
open PySem PySem.Spec PyProof.Rows L2

section
variable {X : Cx} {pins : List (Addr × Obj)} {σ : L2.St} {H : Hp} {s : Shared}
/-- an object that the frame has met (an exception) is tracked from here on -/
theorem trackX {a : Addr} {oe : Obj} {vs : Array Value} {cls : Value} {d : Option Addr} (I : Inv X pins σ H s) (ha : s.heap.get? a = some oe) (hz : Zc cls d oe) (hd : oe.data = .fields vs) (na : H a = none)
    (nL : a ≠ X.env.locals) (h0 : X.s_0.heap.get? a = none) (hp : ∀ p ∈ X.pn ++ pins, p.1 ≠ a) : Inv X pins σ (upd H a (ExV cls d a)) s := by
  refine ⟨I.ok, I.os, I.bare, ⟨I.base.keep, I.base.slot, fun b o e n hx => ?_, I.base.there, fun b xs e => ?_, fun b o u e => ?_, fun b ps e => ?_⟩, I.loc, I.cell, ?_, fun x c e => ?_, fun p hp' => ?_, fun b u e => ?_, I.len⟩
  · have z : b ≠ a := fun z => by rw [z, h0] at e; cases e
    rw [upd_ne z]; exact I.base.free b o e n hx
  · have q := I.base.tups b xs e
    rw [upd_ne (ne_of_none q na)]; exact q
  · have q := I.base.frzs b o u e
    rw [upd_ne (ne_of_none q na)]; exact q
  · obtain ⟨m, q⟩ := I.base.tbls b ps e
    exact ⟨m, by rw [upd_ne (ne_of_none q na)]; exact q⟩
  · rw [upd_ne nL.symm]; exact I.free
  · obtain ⟨v, o, ho, hd'⟩ := I.cell x c e
    have z : c ≠ a := fun z => by
      rw [z, ha] at ho; cases ho
      rw [hd] at hd'; cases hd'
    rw [upd_ne z]; exact I.freeC x c e
  · obtain ⟨e, n, ne, nf, d'⟩ := I.pin p hp'
    exact ⟨e, by rw [upd_ne (hp p hp')]; exact n, ne, nf, d'⟩
  · by_cases hb : b = a
    · subst hb
      rw [upd_same] at e
      cases e
      exact ⟨⟨oe, vs, ha, hz, hd⟩, ⟨oe, ha⟩, fun _ _ ⟨o, v, q, r⟩ k => ⟨o, v, k o q, r⟩⟩
    · rw [upd_ne hb] at e
      exact (I.hok b u e).stay (fun c v _ q => q) (fun c q => by rw [upd_ne (ne_of_none q na)]; exact q) fun c xs q => by rw [upd_ne (ne_of_none q na)]; exact q
/-- the frame of an except suite whose exception is tracked -/
theorem inSuite {a : Addr} (I : Inv X pins σ H s) : Inv (X.suite a (X.pn ++ pins)) [] σ H s :=
  ⟨I.ok.suite _ _, I.os, I.bare, I.base, I.loc, I.cell, I.free, I.freeC, fun p hp => I.pin p (by rw [List.append_nil] at hp; exact hp), I.hok, I.len⟩
theorem outSuite {a : Addr} {pn' : List (Addr × Obj)} (I : Inv (X.suite a (X.pn ++ pins)) pn' σ H s) (ok : X.Ok) : Inv X pins σ H s :=
  ⟨ok, I.os, I.bare, I.base, I.loc, I.cell, I.free, I.freeC, fun p hp => I.pin p (List.mem_append_left _ hp), I.hok, I.len⟩
end
/-- the ends of an except suite: its name goes -/
def endsX (i : Nat) (D : Ends) : Ends := { nx := fun σ' H' => D.nx (σ'.set i none) H', rt := D.rt, bk := fun σ' H' => D.bk (σ'.set i none) H', ct := fun σ' H' => D.ct (σ'.set i none) H' }
/-- what 'except x as n' wishes of an exception: slot i is n's -/
def wKp (K : PySem.W.Frag) (c : Value) (i : Nat) (ts : TS) (Wout : WX) (D : Ends) : WX := fun cls d σ H =>
  ∃ b, PySem.W.exmOne K cls c = some b ∧ (b = true → ∀ a, H a = none → ts (endsX i D) (σ.set i (some (.ref a))) (upd H a (ExV cls d a))) ∧ (b = false → Wout cls d σ H)
def tTry (K : PySem.W.Frag) (c : Value) (i : Nat) (tb : WX → TS) (ts : TS) (Wout : WX) : TS := fun D σ H => tb (wKp K c i ts Wout D) D σ H
section
variable {X : Cx} {x n : Str} {c : Value} {i : Nat} {body suite : List Stmt} {b₀ : Stmt} {np pos pos' : Pos} {tb : WX → TS} {ts : TS} {Wout : WX}
/-- try: .. except x as n: .., the caught exception stays a value -/
theorem ps_try_kp (hs : X.stack = X.env :: X.outer) (hf : X.env.frame = some X.env.locals) (hex : X.ex = []) (hN : X.N.Nodup) (hi : X.N[i]? = some n) (hln : X.env.kindOf n = some .local) (hc : Names X x c) (tk : Takes X Wout)
    (hb : ∀ (W : WX) (pn : List (Addr × Obj)) (xe : Value → Shared → Prop), Takes (X.tr pn xe) W → PassesOwn (model X.prog X.w) X.A X.env xe → PSs (X.tr pn xe) body (tb W))
    (hsu : ∀ (a : Addr) (pn : List (Addr × Obj)), PSs (X.suite a pn) (b₀ :: suite) ts) :
    PS X (.Try body [.ExceptHandler (some (.Name x np)) (some n) (b₀ :: suite) pos'] [] [] pos) (tTry X.K c i tb ts Wout) := by
  refine ⟨fun pins s σ H D I h => ?_⟩
  have ok := I.ok
  have hfr : X.A.frames = some (X.env :: X.outer) := ok.frames.trans (by rw [hs])
  have hloc : Loc X.env.scope n := Or.inl hln
  refine wpAny_Try_except ?_
  refine wpAny_mono ((hb (wKp X.K c i ts Wout D) (X.pn ++ pins) (fun e s₁ => wpAny (model X.prog X.w) X.A (noteFrame e X.env) (fun _ s₂ => wpAny (model X.prog X.w) X.A (setFlight e none) (fun _ s₃ =>
    wpAny (model X.prog X.w) X.A (handleBy e X.env [.ExceptHandler (some (.Name x np)) (some n) (b₀ :: suite) pos']) (SP X pins D) X.xe s₃) X.xe s₂) X.xe s₁) (fun u s' xx => ?_) PassesOwn.looking).run [] s σ H D (I.toTry _) h) (fun f s1 hsp => ?_) (fun e s1 he => he)
  · obtain ⟨a, B, sI, pins', σ', H', cls, d, rfl, J', nb, up, sky, na, os, ag, b, hb1, hyes, hno⟩ := xx
    have J : Inv X pins σ' H' sI := J'.ofTry ok
    have skyE : Sky B (X.env :: X.outer) a (Zc cls d) X.env.locals s'.heap := hs ▸ sky
    show wpAny (model X.prog X.w) X.A (noteFrame (.ref a) X.env) _ _ _
    refine Sky.land Zc.steady hfr hf skyE fun h3 fl3 up3 => ?_
    have J3 : Inv X pins σ' H' { s' with heap := h3 } := J.landed nb fl3.1 (up.trans up3) os ag
    obtain ⟨oe3, vs3, he3, hz3, hd3⟩ := fl3.there
    have nfr : a ∉ frs (X.env :: X.outer) := fun hm => by
      obtain ⟨_, o', e', hnf⟩ := fl3.2.2.1.mem hm
      rw [he3] at e'; cases e'
      exact hnf _ hd3
    have ba : B.get? a = none := fl3.2.1
    have nL : a ≠ X.env.locals := fun z => nfr (List.mem_filterMap.mpr ⟨X.env, List.mem_cons_self, by rw [hf, z]⟩)
    have nI : sI.heap.get? a = none := by
      cases q : sI.heap.get? a with
      | none => rfl
      | some o =>
        have := nb a o q (hs ▸ nfr)
        rw [ba] at this; cases this
    have n0 : X.s_0.heap.get? a = none := by
      cases q : X.s_0.heap.get? a with
      | none => rfl
      | some o =>
        obtain ⟨o', z⟩ := J.base.there a o q (by rw [hex]; exact fun z => nomatch z)
        rw [nI] at z; cases z
    have np' : ∀ p ∈ X.pn ++ pins, p.1 ≠ a := fun p hp z => by
      have := (J.pin p hp).1
      rw [z, nI] at this; cases this
    have nF : a ∉ X.fs := fun hm => by
      obtain ⟨e, he, q⟩ := List.mem_filterMap.mp hm
      exact nfr (List.mem_filterMap.mpr ⟨e, List.mem_cons_of_mem _ he, q⟩)
    have S3 := J3.suite he3 hd3 na nL nF
    refine wpAny_handleBy_cons (codeAny_handlers_test ?_) (by intro q; cases q)
    have LT : PySem.W.Looks (model X.prog X.w) h3 (typeOf (.ref a)) cls := fun A Q E s k q => wpAny_typeOf_ref (k _ _ he3) (hz3.1.symm ▸ q)
    have LM := PySem.W.exm_one (M := model X.prog X.w) (J3.kIn) LT hb1
    have test : ∀ {Q : Value → Shared → Prop} {E : Value → Shared → Prop}, Q c { s' with heap := h3 } → wpAny (model X.prog X.w) (X.A.mark (some (.ref a))) (eval (.Name x np) X.env) Q E { s' with heap := h3 } := by
      intro Q E q
      obtain ⟨hg, hdbg, hm | ⟨hm, hv, hnn⟩⟩ := hc
      · refine ld_glob (X := X.suite a ((a, oe3) :: (X.pn ++ pins))) S3 hg hm q hdbg
      · refine ld_blt (X := X.suite a ((a, oe3) :: (X.pn ++ pins))) S3 hg hm hv q hnn hdbg
    refine test (LM.here ?_)
    cases b with
    | true =>
      refine codeAny_handlers_suite_as ?_
      refine HandSPX.lands_againZ fl3 fun h4 fl4 up4 => ?_
      have J4 : Inv X pins σ' H' { s' with heap := h4 } := J.landed nb fl4.1 ((up.trans up3).trans up4) os ag
      obtain ⟨oe4, vs4, he4, hz4, hd4⟩ := fl4.there
      have T4 := inSuite (a := a) (trackX J4 he4 hz4 hd4 na nL n0 np')
      refine store_ok (X := X.suite a (X.pn ++ pins)) (v := .ref a) T4 hN hi hloc rfl (fun s5 S5 => ?_) (.inr hln)
      refine wpAny_mono ((hsu a (X.pn ++ pins)).run [] s5 _ _ _ S5 (hyes rfl a na)) (fun f s6 hsp => ?_) (fun _ _ z => False.elim z)
      have end_ : ∀ {σ6 : L2.St} {H6 : Hp} {Q : Shared → Prop}, Inv (X.suite a (X.pn ++ pins)) [] σ6 H6 s6 → (∀ s7, Inv X pins (σ6.set i none) H6 s7 → Q s7) →
          wpAny (model X.prog X.w) X.A (do bindName X.env n .none; unbindBehindTheSuite X.env n pos') (fun _ s7 => Q s7) X.xe s6 := fun {σ6 H6 Q} S6 hq => gone_ok (outSuite S6 ok) hN hi hln hq
      cases f with
      | next =>
        obtain ⟨τ, H6, S6, q6⟩ := hsp
        exact end_ S6 fun s7 J7 => ⟨_, _, J7, q6⟩
      | brk =>
        obtain ⟨τ, H6, S6, q6⟩ := hsp
        exact end_ S6 fun s7 J7 => ⟨_, _, J7, q6⟩
      | cont =>
        obtain ⟨τ, H6, S6, q6⟩ := hsp
        exact end_ S6 fun s7 J7 => ⟨_, _, J7, q6⟩
      | ret u =>
        obtain ⟨w6, τ, H6, S6, r6, q6⟩ := hsp
        exact end_ S6 fun s7 J7 => ⟨_, _, _, J7, r6, q6⟩
    | false =>
      show wpAny _ X.A (handleBy (.ref a) X.env []) _ _ _
      refine wpAny_handleBy_nil ?_
      obtain ⟨k1, k2, k3, oe, vs, T, oT, tz, he, hz, hd, h1, hr⟩ := id fl3
      unfold PySem.passOn
      refine wpAny_bind (wpAny_field he hd h1 ?_)
      rw [if_neg (show ¬ ((Value.ref T == Value.none) = true) by simp)]
      have fin : wpAny (model X.prog X.w) X.A (setFlight (.ref a) X.env.frame) (fun _ s4 => wpAny (model X.prog X.w) X.A (throw (.ref a) : Sem Flow) (SP X pins D) X.xe s4) X.xe { s' with heap := h3 } := by
        rw [hf]
        refine HandSPX.setFlight_upZ fl3 fun h4 hh4 up4 => wpAny_throw (tk _ _ ?_)
        refine ⟨a, B, sI, pins, σ', H', cls, d, rfl, J, nb, (up.trans up3).trans up4, .inr (.inr (hs ▸ hh4)), na, os, ag, hno rfl⟩
      first
        | exact wpAny_bind (wpAny_pure (wpAny_bind fin))
        | exact wpAny_bind fin
  · cases f with
    | next =>
      obtain ⟨τ, H6, J6, q⟩ := hsp
      exact wpAny_execs_nil ⟨τ, H6, J6.ofTry ok, q⟩
    | brk =>
      obtain ⟨τ, H6, J6, q⟩ := hsp
      exact ⟨τ, H6, J6.ofTry ok, q⟩
    | cont =>
      obtain ⟨τ, H6, J6, q⟩ := hsp
      exact ⟨τ, H6, J6.ofTry ok, q⟩
    | ret u =>
      obtain ⟨w, τ, H6, J6, r, q⟩ := hsp
      exact ⟨w, τ, H6, J6.ofTry ok, r, q⟩
end
/-! ### calls in a try's body: what is wished of exceptions hangs on the slots -/
section
variable {X : Cx} {CX : CXT} {k : Nat} {f C : Addr} {fd : FuncData} {ps : List Str} {sp : Sp} {E : L2.St → XK} {x m : Str} {p pos apos : Pos} {e o : Expr} {es : List Expr} {ta : TE} {t : TA}
def tMethS (C : Addr) (m : Str) (sp : Sp) (E : L2.St → XK) (ta : TE) (t : TA) : TE := fun σ H Q => tMeth C m sp [] (E σ) ta t σ H Q
def tMakeS (C : Addr) (sp : Sp) (dvs : List V) (E : L2.St → XK) (t : TA) : TE := fun σ H Q => tMake C sp dvs (E σ) t σ H Q
theorem pe_methS {pl : Sem Bool} (he : PE X o ta) (c : Cls X.K C) (hm : Meth X.K C m f) (F : FnOk X.prog X.w X.K X.mg X.base CX k f fd ps sp) (hr : Room k X.A) (hb : Binds X.K fd ps []) (hx : ∀ σ, PassesAt CX X σ (E σ)) (ha : PA X (e :: es) t)
    (hst : starEach (e :: es) X.env = (false, eval e X.env) :: starEach es X.env := by rfl) (hpl : (backTo pos (starEach es X.env)).any (·.1) = false := by rfl)
    (ht : eval (.Call (.Attribute o m apos) (e :: es) [] pos) X.env = (do
      let ov ← eval o X.env; standAt apos.atName
      let (f, first) ← holding [ov] (getMethod ov m pl); callWith pos f first (backTo pos (starEach (e :: es) X.env)) (backToKw pos (keywordEach [] X.env))) := by rfl) :
    PE X (.Call (.Attribute o m apos) (e :: es) [] pos) (tMethS C m sp E ta t) := by
  refine ⟨fun pins s σ H Q I h => ?_⟩
  refine PySem.W.methodCall_KW (pl := pl) (thn (he.run pins s σ H _ I h) fun u s1 ⟨x, H1, I1, rx, a, dx, fs, ex, ea, l, q⟩ => ?_) ht
  cases ex
  cases (show u = Value.ref a from rx)
  refine getmeth_ok I1 ea c hm l ?_
  refine PySem.W.callWith_K (first := [.ref a]) (h₀ := X.base) I.ok.mod.kin hm.kp (thn (ha.run pos pins s1 σ H1 _ I1 q) fun us s2 ⟨vs, H2, I2, r, q2⟩ => ⟨I2.kIn, ?_⟩) hst hpl
  have q3 : sp (V.ref a :: vs) H2 Q (E σ) := by
    have z : sp (V.ref a :: (vs ++ [])) H2 Q (E σ) := q2
    rwa [List.append_nil] at z
  exact run_fnS (us := .ref a :: us) (vs := .ref a :: vs) (E := E) F hr hb (hx σ) I2 (.cons rfl r) q3
theorem run_makeS {dvs : List V} {ds : List Value} {pins : List (Addr × Obj)} {σ : L2.St} {H : Hp} {s : Shared} {Q : VK} {us : List Value} {vs : List V} (M : Mk X.K C f) (F : FnOk X.prog X.w X.K X.mg X.base CX k f fd ps sp) (hr : Room (k + 1) X.A) (hb : Binds X.K fd ps ds) (hd : Vals dvs ds)
    (hx : PassesAt CX X σ (E σ)) (I : Inv X pins σ H s) (r : Vals vs us)
    (h : ∀ x dx, H x = none → H dx = none → dx ≠ x → sp (.ref x :: (vs ++ dvs)) (upd (upd H dx (.own x)) x (.ins C dx [])) (fun v H2 => v = .non ∧ Q (.ref x) H2) (E σ)) :
    wpAny (model X.prog X.w) X.A (call (.ref C) us) (EP X pins σ Q) X.xe s := by
  have hq := h (s.heap.objs.size + 1) s.heap.objs.size (I.hok.fresh (Nat.le_succ _)) (I.hok.fresh (Nat.le_refl _)) (Nat.ne_of_lt (Nat.lt_succ_self _))
  have J := Inv.made (C := C) I
  have rr : Vals (V.ref (s.heap.objs.size + 1) :: (vs ++ dvs)) (Value.ref (s.heap.objs.size + 1) :: (us ++ ds)) := .cons rfl (r.append hd)
  have hl : (Value.ref (s.heap.objs.size + 1) :: us ++ ds).length = ps.length := ((F.len _ _ _ _ hq).symm.trans rr.length).symm
  refine wpAny_call (make_map (f := f) I.kIn M.makes M.init (beq_iff_eq.mp M.fn) (codeAny_mono (F.run _ X.stack _ _ ⟨Value.ref (s.heap.objs.size + 1) :: us, []⟩ (Value.ref (s.heap.objs.size + 1) :: (us ++ ds)) _ _ (E σ) (hr.make C us [])
    (J.env0.make C us []) (hb _ (Value.ref (s.heap.objs.size + 1) :: us) J.kIn hl) rr hq) fun r s' hq' => ?_))
  cases r with
  | error e => exact hx pins _ _ e s' J hq'
  | ok fl =>
    cases fl with
    | ret u =>
      obtain ⟨v, H', J3, rv, ev, q3⟩ := J.after hq'
      cases ev
      exact ⟨rv, ⟨V.ref (s.heap.objs.size + 1), H', J3, rfl, q3⟩⟩
    | next => exact False.elim hq'
    | brk => exact False.elim hq'
    | cont => exact False.elim hq'
theorem pe_makeS {dvs : List V} {ds : List Value} (M : Mk X.K C f) (F : FnOk X.prog X.w X.K X.mg X.base CX k f fd ps sp) (hr : Room (k + 1) X.A) (hg : Gl X x) (hm : X.mg x = some (.ref C)) (hb : Binds X.K fd ps ds) (hd : Vals dvs ds) (hx : ∀ σ, PassesAt CX X σ (E σ))
    (ha : PA X (e :: es) t) (hdb : (x == ("__debug__" : Str)) = false := by decide) (he : starEach (e :: es) X.env = (false, eval e X.env) :: starEach es X.env := by rfl) (hpl : (backTo pos (starEach es X.env)).any (·.1) = false := by rfl) :
    PE X (.Call (.Name x p) (e :: es) [] pos) (tMakeS C sp dvs E t) := by
  refine ⟨fun pins s σ H Q I h => ?_⟩
  refine wpAny_Call_Name_kw (ld_glob I hg hm ?_ hdb)
  refine PySem.W.callWith_K (h₀ := X.base) I.ok.mod.kin M.kp (thn (ha.run pos pins s σ H _ I h) fun us s1 ⟨vs, H1, I1, r, q⟩ => ⟨I1.kIn, ?_⟩) he hpl
  exact run_makeS (E := E) M F hr hb hd (hx σ) I1 r q
end
/-! ### isinstance of a caught exception, its fields -/
end Dl
namespace PySem.W
open PySem PySem.Spec PySem.Calls PyProof.Rows
section
variable {prog : Program} {w : World} {A : Around} {E : Value → Shared → Prop} {s : Shared} {K : Frag} {x D : Addr} {ox : Obj} {od : Option Obj}
theorem dl_findObj {C : Addr} {name : Str} {a g : Value} (hc : (clsIn K C).isSome = true) (ha : findIn K (.ref C) name = some (some a)) (hg : specialIn K a "__get__" = some (some g)) (ht : takesIn K a = some true) : findObj K C od name = some (.bind g a) := by
  obtain ⟨cd, hc⟩ := Option.isSome_iff_exists.mp hc
  unfold findObj
  rw [hc, Option.bind_some, ha, Option.bind_some]
  simp [hg, ht]
theorem dl_classE {Q : Option Value → Shared → Prop} (C : L2.ExcC K D) (X : K.In s.heap) (I : InstAt s.heap x ox D od) (h : Q (some (.ref D)) { s with toks := s.toks + 1 }) : wpAny (model prog w) A (getAttr? (.ref x) "__class__") Q E s := by
  have hf : findObj K D od "__class__" = some (.bind (.builtin "getset_descriptor.__get__") (.builtin "object.__class__")) := dl_findObj (by obtain ⟨cd, hc, _⟩ := any_some C.hd; rw [hc]; rfl) C.ha C.hn C.ht
  obtain ⟨hp, g, d, t, os⟩ := s
  have Ty := I.type (M := model prog w)
  have Lg := looks_findIn (M := model prog w) X C.hg
  have Lk := looks_findIn (M := model prog w) X C.hk
  have Lf := looks_find (M := model prog w) X I hf
  have sub : Looks (model prog w) hp (isInstance (.ref x) (.type "BaseException")) true := Ty.andThen (looks_subIn X C.hs)
  have n0 : (false && onTheHeap (Value.builtin "BaseException.__getattribute__")) = false := rfl
  have n2 : (Value.builtin "BaseException.__getattribute__" == Value.builtin "object.__getattribute__") = false := by decide +kernel
  have n1 : (onTheHeap (Value.ref D) && Value.builtin "BaseException.__getattribute__" == Value.builtin "object.__getattribute__") = false := by rw [n2]; rfl
  unfold getAttr? getAttrBy? getAttrBy
  refine wpAny_bind (wpAny_mkText (wpAny_bind (wpAny_attempt (wpAny_holding (wpAny_bind (Ty.at (wpAny_bind (Lg.at ?_))))))))
  show wpAny _ _ (if (onTheHeap (Value.ref D) && Value.builtin "BaseException.__getattribute__" == Value.builtin "object.__getattribute__") = true then _ else _) _ _ _
  rw [n1, if_neg Bool.false_ne_true]
  unfold getAttrByItsOwn hookBefore
  refine wpAny_bind ?_
  rw [if_pos (show onTheHeap (Value.ref D) = true by rfl)]
  refine Lk.at ?_
  refine wpAny_bind (wpAny_attempt (wpAny_holding ?_))
  unfold callGetattribute
  rw [n0, if_neg Bool.false_ne_true]
  unfold boundAndCalled
  rw [PySem.F.excAttr_ValueError.ga.bind (.ref x)]
  refine wpAny_bind (wpAny_pure ?_)
  show wpAny _ _ (call (.builtin "BaseException.__getattribute__") [.ref x, .str "__class__" t]) _ _ _
  refine wpAny_call (codeAny_call_builtin PySem.F.excAttr_ValueError.ga.plain PySem.F.entry_bexc_ga ?_)
  refine @check_slot (model prog w) _ _ ⟨hp, g, d, t + 1, os⟩ "BaseException.__getattribute__" "BaseException" "__getattribute__" (.ref x) [.str "__class__" t] [] _ (by decide +kernel) (by decide +kernel) sub (PySem.F.args_bexc_ga _ _) ?_
  unfold Builtin.«object.__getattribute__»
  refine wpAny_bind (wpAny_of_eq (a := ((Value.ref x : Value), [Value.str "__class__" t])) (by first | (simp only [slotArgs]; rfl) | rfl) ?_)
  refine wpAny_bind (wpAny_pure (wpAny_bind (Ty.at (wpAny_bind (Lf.at ?_)))))
  show wpAny _ _ (holding [Value.builtin "object.__class__"] (call (.builtin "getset_descriptor.__get__") [.builtin "object.__class__", .ref x, .ref D]) >>= ret) _ _ _
  refine wpAny_bind (wpAny_holding (wpAny_call (class_get (s := ⟨hp, g, d, t + 1, os⟩) (ox := ox) (od := od) X I C.hm ?_)))
  refine wpAny_pure ?_
  show wpAny _ _ (handedOut (.ref D)) _ _ _
  rw [handedOut_of (v := .ref D) (by rfl)]
  first
    | exact wpAny_pure h
    | exact wpAny_pure (wpAny_pure h)
    | exact wpAny_pure (wpAny_bind (wpAny_pure (wpAny_pure h)))
theorem dl_kitx (C : L2.ExcC K D) : KitX K (.ref x) (.ref D) (fun h => ∃ od, InstAt h x ox D od) where
  ty := fun _ _ _ ⟨_, I⟩ => I.type
  it := fun _ _ X _ => by
    obtain ⟨cdD, hcD, _⟩ := any_some C.hd
    unfold clsIn at hcD
    split at hcD
    · rename_i c' d' cd' sl' ho
      intro A' Q' E' s' k q
      unfold isType loadHead
      refine wpAny_bind (wpAny_loadPart (k _ _ (X _ _ ho)) (wpAny_pure q))
    · cases hcD
  ne := fun h tp dd its n sl X htp => by
    obtain ⟨cdD, hcD, _⟩ := any_some C.hd
    refine Bool.eq_false_iff.mpr fun q => ?_
    have e := Value.ref.inj (beq_iff_eq.mp q)
    cases e
    unfold clsIn at hcD
    split at hcD
    · rename_i c' d' cd' sl' ho
      have z := (X _ _ ho).symm.trans htp
      cases z
    · cases hcD
  ca := fun X ⟨_, I⟩ k => dl_classE C X I k
end
end PySem.W
namespace Dl
open PySem PySem.Spec PyProof.Rows L2
/-- isinstance(e, c), e a caught exception -/
def rIsX (K : PySem.W.Frag) : List V → Hp → VK → Prop := fun xs H Q => ∃ (a C : Addr) (d : Option Addr) (fs : List (Str × V)) (c : V) (cv : Value) (b : Bool), xs = [.ref a, c] ∧ H a = some (ExV (.ref C) d a) ∧ ExD H d fs ∧ ExcC K C ∧ (∀ u, RelV c u → u = cv) ∧ PySem.W.kitOne K (.ref C) cv = some b ∧ Q (.bl b) H
theorem exInst {X : Cx} {pins : List (Addr × Obj)} {σ : L2.St} {H : Hp} {s : Shared} {a C : Addr} {d : Option Addr} {fs : List (Str × V)} (I : Inv X pins σ H s) (ha : H a = some (ExV (.ref C) d a)) (hd : ExD H d fs) : ∃ oe od, PySem.W.InstAt s.heap a oe C od ∧ (∀ dx, d = some dx → ∃ mA o, s.heap.Ns1 dx mA ∧ (∀ f, RelO (fs.lookup f) (mA f)) ∧ od = some o ∧ ∀ n, PySem.W.lookIn n o = some (mA n)) := by
  obtain ⟨⟨oe, vs, hg, hz, hf⟩, _, _⟩ := I.hok a _ ha
  rcases hd with ⟨rfl, rfl⟩ | ⟨dx, rfl, hx⟩
  · refine ⟨oe, none, ⟨hg, hz.1, by unfold PySem.W.notCls; rw [hf] <;> rfl, by rw [hz.2]; trivial⟩, fun dx e => by cases e⟩
  · have ho : ObjOk X.prog X.w H s.heap dx (.xd fs) := I.hok dx _ hx
    obtain ⟨mA, hns, hr⟩ := ho
    obtain ⟨od, ho, hl⟩ := lookIn_ns hns
    refine ⟨oe, some od, ⟨hg, hz.1, by unfold PySem.W.notCls; rw [hf] <;> rfl, by rw [hz.2]; exact ho⟩, fun dx' e => ?_⟩
    cases e
    exact ⟨mA, od, hns, hr, rfl, hl⟩
theorem call_isX {X : Cx} : CallR X (.builtin "isinstance") (rIsX X.K) := by
  intro pins s σ H xs us Q I r h
  obtain ⟨a, C, d, fs, c, cv, b, rfl, ha, hd, hC, hcv, e, q⟩ := h
  cases r with
  | cons rx rr =>
    cases rr with
    | cons rt rr =>
      cases rr
      cases rx
      cases hcv _ rt
      obtain ⟨oe, od, J, _⟩ := exInst I ha hd
      exact PySem.W.kia_one (PySem.W.dl_kitx (ox := oe) hC) I.kIn ⟨od, J⟩ e (fun z => nomatch z) fun tk => ⟨.bl b, H, I.kept (t' := tk) fun _ _ z => z, rfl, q⟩
/-- e.n, e a caught exception -/
def tXfK (K : PySem.W.Frag) (n : Str) (te : TE) : TE := fun σ H Q => te σ H fun x H1 => ∃ (a C dx : Addr) (fs : List (Str × V)) (v : V), x = .ref a ∧ H1 a = some (ExV (.ref C) (some dx) a) ∧ H1 dx = some (.xd fs) ∧ XfC K C ∧ PySem.W.findIn K (.ref C) n = some none ∧ fs.lookup n = some v ∧ Q v H1
theorem pe_xfK {X : Cx} {e : Expr} {te : TE} {pos : Pos} {n : Str} (he : PE X e te) (hb : attributeBase e n X.env (eval e X.env) = eval e X.env := by rfl) : PE X (.Attribute e n pos) (tXfK X.K n te) := by
  refine ⟨fun pins s σ H Q I h => ?_⟩
  refine attr_of hb (thn (he.run pins s σ H _ I h) fun u s1 hh => ?_)
  obtain ⟨x, H1, I1, rx, a, C, dx, fs, v, ex, ha, hx, T, hno, l, q⟩ := hh
  cases ex
  cases (show u = Value.ref a from rx)
  obtain ⟨oe, od, J, hd⟩ := exInst (fs := fs) I1 ha (.inr ⟨dx, rfl, hx⟩)
  obtain ⟨mA, o, hns, hr, rfl, hl⟩ := hd dx rfl
  obtain ⟨u, hu, ru⟩ := RelO.some_of (v := v) (o := mA n) (by rw [← l]; exact hr n)
  exact HandSPX.exc_get I1.kIn J T.ga T.gg T.exC (PySem.W.findObj_own T.hdC hno rfl (by rw [hl, hu])) (handed_of ru) ⟨v, H1, I1.tok _, ru, q⟩
end Dl

set_option Elab.async false
set_option linter.all false
set_option maxRecDepth 100000
set_option maxHeartbeats 2000000
/-! exceptions over data: raised with fields, caught, looked at -/
namespace Dl
open PySem PySem.Spec PyProof.Rows L2
/-! ### raise C(e, ..), C's own __init__ -/
/-- C.__init__ is ValueError's -/
structure ReI (K : PySem.W.Frag) (C : Addr) : Prop where
  rd : PySem.W.readsIn K C (.type "type") = true
  ga : PySem.W.specialIn K (.ref C) "__getattribute__" = some (some (.builtin "type.__getattribute__"))
  at_ : PySem.W.findCls K (.ref C) (.type "type") "__init__" = some (.val (.builtin "ValueError.__init__"))
def reiB (x : Str) (K : PySem.W.Frag) : Bool := PySem.W.readsIn K (He.ga K x) (.type "type") && (He.eqO (PySem.W.specialIn K (.ref (He.ga K x)) "__getattribute__") (some (some (.builtin "type.__getattribute__"))) &&
  (match PySem.W.findCls K (.ref (He.ga K x)) (.type "type") "__init__" with
    | some (.val (.builtin f)) => decide (f = "ValueError.__init__")
    | _ => false))
theorem reiB_ok {K : PySem.W.Frag} {x : Str} (h : reiB x K = true) : ReI K (He.ga K x) := by
  unfold reiB at h
  obtain ⟨h1, h2⟩ := He.ba h
  obtain ⟨h3, h5⟩ := He.ba h2
  refine ⟨h1, He.eqO_ok h3, ?_⟩
  split at h5
  · rename_i f e
    rw [e, of_decide_eq_true h5]
  · cases h5
section
variable {X : Cx} {o e : Expr} {es : List Expr} {ta : TA} {pos apos : Pos} {C : Addr}
theorem pe_reinit {pl : Sem Bool} (he : PE X o (tC (.ref C))) (c : ReI X.K C) (ha : PA X (e :: es) ta)
    (hst : starEach (e :: es) X.env = (false, eval e X.env) :: starEach es X.env := by rfl) (hpl : (backTo pos (starEach es X.env)).any (·.1) = false := by rfl)
    (ht : eval (.Call (.Attribute o "__init__" apos) (e :: es) [] pos) X.env = (do
      let ov ← eval o X.env; standAt apos.atName
      let (f, first) ← holding [ov] (getMethod ov "__init__" pl); callWith pos f first (backTo pos (starEach (e :: es) X.env)) (backToKw pos (keywordEach [] X.env))) := by rfl) :
    PE X (.Call (.Attribute o "__init__" apos) (e :: es) [] pos) (tVeI X.K ta) := by
  refine ⟨fun pins s σ H Q I h => ?_⟩
  refine PySem.W.methodCall_KW (pl := pl) (thn (he.run pins s σ H (fun x H1 => x = .ref C ∧ H1 = H) I ⟨rfl, rfl⟩) fun u s1 ⟨x, H1, I1, rx, ex, eH⟩ => ?_) ht
  cases ex
  cases (show u = Value.ref C from rx)
  rw [eH] at I1
  refine PySem.W.method_cls I1.kIn c.ga (PySem.W.cls_value I1.kIn c.rd c.at_ rfl ?_)
  show wpAny _ _ (callWith pos (Value.builtin "ValueError.__init__") [] (backTo pos (starEach (e :: es) X.env)) []) _ _ _
  refine PyProof.Rows.callWith_method1 (thn (ha.run pos pins _ σ H _ (I1.tok _) h) fun us s1 ⟨vs, H1, I1, r1, a, C, ws, ev, hl, T, ea, q⟩ => ?_) hst hpl
  cases ev
  cases r1 with
  | @cons _ u0 _ ur ra rw' =>
    cases (show u0 = Value.ref a from ra)
    refine oinit_ok T I1 ea ?_ fun s' J => ⟨.non, H1, J, rfl, q⟩
    rw [← Paired.length rw', sizeLine_eq]
    omega
end
/-- what a class with an own __init__ of fields must say -/
def oexB (x : Str) (K : PySem.W.Frag) : Bool := (match K.lookup (He.ga K x) with
  | some ⟨.type "type", _, .cls cd, sl⟩ => (match cd.mro, sl.toList with
    | .ref C' :: bm, [_, _, _, _, some (.builtin n), _] => C' == He.ga K x && n == "ValueError.__new__" && !cd.hasDel && cd.hasDict && PySem.HandSPX.refsVE bm
    | _, _ => false)
  | _ => false) && (He.eqO (PySem.W.findIn K (.ref (He.ga K x)) "__setattr__") (some (some (.builtin "object.__setattr__"))) && (decide (PySem.W.subIn K (.ref (He.ga K x)) (.type "BaseException") = some true) &&
    (decide (PySem.W.typeIn K (.ref (He.ga K x)) = some (.type "type")) && PySem.W.keepIn K (.ref (He.ga K x)))))
theorem oexB_ok {K : PySem.W.Frag} {x : Str} (h : oexB x K = true) : OexC K (He.ga K x) := by
  unfold oexB at h
  obtain ⟨q, h2⟩ := He.ba h
  obtain ⟨h3, h4⟩ := He.ba h2
  obtain ⟨h5, h6⟩ := He.ba h4
  obtain ⟨h7, h8⟩ := He.ba h6
  refine ⟨?_, He.eqO_ok h3, of_decide_eq_true h5, of_decide_eq_true h7, h8⟩
  split at q
  · rename_i dd cd sl ho
    split at q
    · rename_i C' bm k0 k1 k2 k3 n k5 hm hs
      simp only [Bool.and_eq_true, beq_iff_eq, Bool.not_eq_true'] at q
      obtain ⟨⟨⟨⟨e1, e2⟩, hdel⟩, hdi⟩, ht⟩ := q
      obtain ⟨nm, bs, mro, ns, qn, hd, sn, sub, ab, col, del⟩ := cd
      dsimp only at hm hdel hdi
      subst hm hdel hdi e1 e2
      have hsl : sl = #[k0, k1, k2, k3, some (.builtin "ValueError.__new__"), k5] := by
        obtain ⟨l⟩ := sl
        simp only at hs
        rw [hs]
      subst hsl
      exact ⟨_, _, _, _, _, _, _, _, _, _, _, _, _, _, _, ho, ht⟩
    · cases q
  · cases q
/-- the fields that an __init__ has stored -/
def fsOf {α : Type} (ns : List Str) (ws : List α) : List (Str × α) := (ns.zip ws).reverse
/-- the promise of an __init__ that stores what it is handed -/
def spX (C : Addr) (ns : List Str) : Sp := fun vs H Q _ => ∃ (a : Addr) (ws : List V), vs = .ref a :: ws ∧ ws.length = ns.length ∧ H a = some (exo a C none) ∧ ∀ dx, H dx = none → dx ≠ a → Q .non (upd (upd H dx (exd dx (fsOf ns ws))) a (exo a C (some dx)))
theorem upd_upd {H : Hp} {a : Addr} {o u : HO} : upd (upd H a o) a u = upd H a u := by
  funext b
  by_cases e : b = a
  · rw [e, upd_same, upd_same]
  · rw [upd_ne e, upd_ne e, upd_ne e]
theorem upd_comm {H : Hp} {a b : Addr} {o u : HO} (h : a ≠ b) : upd (upd H a o) b u = upd (upd H b u) a o := by
  funext c
  by_cases e : c = a
  · rw [e, upd_ne h, upd_same, upd_same]
  · by_cases e2 : c = b
    · rw [e2, upd_same, upd_ne h.symm, upd_same]
    · rw [upd_ne e2, upd_ne e, upd_ne e, upd_ne e2]
def tInit1 (K : PySem.W.Frag) (m f : Str) : TS := tSeq (tDrop (tVeI K (tCons (tVar 0) (tCons (tC (.str m)) tNil)))) (tOst K f (tVar 0) (tVar 1))
def tInit3 (K : PySem.W.Frag) (m f g h : Str) : TS := tSeq (tDrop (tVeI K (tCons (tVar 0) (tCons (tC (.str m)) tNil)))) (tSeq (tOst K f (tVar 0) (tVar 1)) (tSeq (tOst K g (tVar 0) (tVar 2)) (tOst K h (tVar 0) (tVar 3))))
section
variable {P : Program} {w : World} {K : PySem.W.Frag} {mg : Str → Option Value} {base : Heap} {x qual : Str} {st : Stmt} {f : Addr} {fd : FuncData} {k : Nat} {C : Addr}
theorem fn_X1 {m p1 p2 f1 : Str} (F : FunD K x qual (defArgs st) (defBody st) (defScope st) [] [] f fd) (S : FnScope [p1, p2] [p1, p2] (defScope st)) (T : OexC K C) (h1 : PySem.W.findIn K (.ref C) f1 = some none)
    (body : ∀ (cdv : Value) (A : Around) (outer : List Env) (s : Shared) (H : Hp) (E : XK), Room k (A.deeper (envOfC qual (defScope st) s.heap.objs.size f cdv)) → PSs (cxOf (L2.CX P w) P w K mg base [p1, p2] qual (defScope st) f cdv A outer s H E) (defBody st) (tInit1 K m f1)) :
    FnOk P w K mg base (L2.CX P w) (k + 1) f fd [p1, p2] (spX C [f1]) := by
  refine F.ok S (fun vs H Q E h => ?_) (fun cdv A outer s H vs Q E hr h => ⟨_, body cdv A outer s H E hr, ?_⟩)
  · obtain ⟨a, ws, rfl, hl, _⟩ := h
    simp [hl]
  · obtain ⟨a, ws, rfl, hl, ha, q⟩ := h
    match ws, hl with
    | [y], _ =>
      refine ⟨.ref a, rfl, a, C, [.str m], rfl, by simp, T, ha, ?_⟩
      refine ⟨y, rfl, .ref a, rfl, a, C, rfl, T, h1, .inl ⟨ha, fun dx hd ne => ?_⟩⟩
      exact q dx hd ne
theorem fn_X3 {m p1 p2 p3 p4 f1 f2 f3 : Str} (F : FunD K x qual (defArgs st) (defBody st) (defScope st) [] [] f fd) (S : FnScope [p1, p2, p3, p4] [p1, p2, p3, p4] (defScope st)) (T : OexC K C) (h1 : PySem.W.findIn K (.ref C) f1 = some none) (h2 : PySem.W.findIn K (.ref C) f2 = some none) (h3 : PySem.W.findIn K (.ref C) f3 = some none)
    (body : ∀ (cdv : Value) (A : Around) (outer : List Env) (s : Shared) (H : Hp) (E : XK), Room k (A.deeper (envOfC qual (defScope st) s.heap.objs.size f cdv)) → PSs (cxOf (L2.CX P w) P w K mg base [p1, p2, p3, p4] qual (defScope st) f cdv A outer s H E) (defBody st) (tInit3 K m f1 f2 f3)) :
    FnOk P w K mg base (L2.CX P w) (k + 1) f fd [p1, p2, p3, p4] (spX C [f1, f2, f3]) := by
  refine F.ok S (fun vs H Q E h => ?_) (fun cdv A outer s H vs Q E hr h => ⟨_, body cdv A outer s H E hr, ?_⟩)
  · obtain ⟨a, ws, rfl, hl, _⟩ := h
    simp [hl]
  · obtain ⟨a, ws, rfl, hl, ha, q⟩ := h
    match ws, hl with
    | [y1, y2, y3], _ =>
      refine ⟨.ref a, rfl, a, C, [.str m], rfl, by simp, T, ha, ?_⟩
      refine ⟨y1, rfl, .ref a, rfl, a, C, rfl, T, h1, .inl ⟨ha, fun dx hd ne => ?_⟩⟩
      refine ⟨y2, rfl, .ref a, rfl, a, C, rfl, T, h2, .inr ⟨dx, [(f1, y1)], upd_same, by rw [upd_ne ne, upd_same], by simp, ?_⟩⟩
      refine ⟨y3, rfl, .ref a, rfl, a, C, rfl, T, h3, .inr ⟨dx, [(f2, y2), (f1, y1)], by rw [upd_ne ne.symm, upd_same], upd_same, by simp, ?_⟩⟩
      have z := q dx hd ne
      rw [upd_upd, upd_comm ne.symm, upd_upd]
      exact z
end
theorem rpf_app {K : PySem.W.Frag} {G : Hp} {al : List Addr} {fs fs' : List (Str × V)} {gs gs' : List (Str × D)} (h : Rpf K G al fs gs) (h' : Rpf K G al fs' gs') : Rpf K G al (fs ++ fs') (gs ++ gs') := by
  induction gs generalizing fs with
  | nil => cases h; exact h'
  | cons d ds ih => cases h with | cons r t => exact .cons r (ih t)
theorem rpf_fsOf {K : PySem.W.Frag} {G : Hp} {al : List Addr} : ∀ (ns : List Str) {vs : List V} {ds : List D}, Rps K G al vs ds → Rpf K G al (fsOf ns vs) (fsOf ns ds)
  | [], _, _, _ => by simp [fsOf]; exact .nil
  | n :: ns, _, _, .nil => by simp [fsOf]; exact .nil
  | n :: ns, _, _, .cons r t => by
    have z := rpf_app (rpf_fsOf ns t) (.cons (f := n) r .nil)
    simpa [fsOf] using z
/-- raise C(e, ..), C storing its arguments -/
def tRaiseO (C : Addr) (sp : Sp) (ta : TA) (E : XK) : TS := fun _ σ H => tMkO C sp [] ta σ H fun cls d H' => E cls d H'
theorem ds_raiseO {K : PySem.W.Frag} {B : Bs} {ρ : En} {μ : Mu} {P : DEnds} {C : Addr} {ns : List Str} {ta : TA} {E : XK} {PX : PXT} (hE : XAg K B PX E) (h : DA K B ta ρ μ fun ds μ1 => ds.length = ns.length ∧ ns.length ≤ 100 ∧ PX C (fsOf ns ds) μ1) : DS K B (tRaiseO C (spX C ns) ta E) ρ μ P := fun σ G H al hB hσ hA De hD =>
  h σ G H al hB hσ hA _ fun vs ds μ1 G1 H1 al1 n1 A1 r1 p1 => by
    obtain ⟨hl, hn, p⟩ := p1
    have hv : vs.length = ns.length := r1.length.trans hl
    refine ⟨by omega, fun a na => ⟨a, vs, by rw [List.append_nil], hv, upd_same, fun dx hd ne => ⟨rfl, dx, fsOf ns vs, upd_same, by rw [upd_ne ne, upd_same], ?_, ?_⟩⟩⟩
    · rw [upd_ne ne] at hd; exact hd
    · rw [upd_ne ne] at hd
      have e : upd (del (upd (upd (upd H1 a (exo a C none)) dx (exd dx (fsOf ns vs))) a (exo a C (some dx))) a) dx (.xd (fsOf ns vs)) = upd H1 dx (.xd (fsOf ns vs)) := by
        funext b
        by_cases hb : b = dx
        · rw [hb, upd_same, upd_same]
        · rw [upd_ne hb, upd_ne hb]
          by_cases hba : b = a
          · rw [hba, del_same, na]
          · rw [del_ne hba, upd_ne hba, upd_ne hb, upd_ne hba]
      rw [e]
      obtain ⟨A2, n2⟩ := A1.frz (o := .xd (fsOf ns vs)) hd
      refine hE C (fsOf ns ds) (some dx) μ1 _ _ al1 (hB.trans (n1.trans n2)) A2 (.inr ⟨dx, fsOf ns vs, rfl, upd_same, ?_⟩) p
      exact rpf_fsOf ns (r1.nx n2)
/-! ### try -/
abbrev PWT := Addr → List (Str × D) → En → Mu → Prop
/-- what a try's body may let out: class, fields, slots, things -/
def WAg (K : PySem.W.Frag) (B : Bs) (PW : PWT) (W : WX) : Prop := ∀ C fs dd σ ρ μ G H al, B.le G H al → RpS K G al σ ρ → As K G H al μ → XRep K G al dd fs → PW C fs ρ μ → W (.ref C) dd σ H
def endsD (i : Nat) (P : DEnds) : DEnds := { nx := fun ρ μ => P.nx (ρ.set i none) μ, rt := P.rt, bk := fun ρ μ => P.bk (ρ.set i none) μ, ct := fun ρ μ => P.ct (ρ.set i none) μ }
section
variable {K : PySem.W.Frag} {B : Bs} {ρ : En} {μ : Mu} {te ta : TE} {ts : TA} {P : D → Mu → Prop} {PW : PWT} {W : WX} {C : CT} {dvs : List V} {dds : List D}
theorem ds_try {c : Value} {i : Nat} {tb : WX → TS} {su : TS} {Wout : WX} {P : DEnds} (hb : ∀ B', (∀ G H al, Bs.le B' G H al → B.le G H al) → ∀ W, WAg K B' (fun C fs ρ1 μ1 => PySem.W.exmOne K (.ref C) c = some true ∧ DS K B' su (ρ1.set i (some (.exc C fs))) μ1 (endsD i P)) W → DS K B' (tb W) ρ μ P) : DS K B (tTry K c i tb su Wout) ρ μ P := fun σ G H al hB hσ hA De hD => by
  refine hb ⟨G, H, al⟩ (fun _ _ _ n => hB.trans n) _ ?_ σ G H al .refl hσ hA De hD
  intro C fs dd σ1 ρ1 μ1 G1 H1 al1 n1 hσ1 A1 xr ⟨eb, y⟩
  refine ⟨true, eb, fun _ a na => ?_, fun z => by cases z⟩
  obtain ⟨A2, n2⟩ := A1.frz (o := ExV (.ref C) dd a) na
  have nn : Nx G H al _ _ al1 := n1.trans n2
  have rx : Rp K (upd G1 a (ExV (.ref C) dd a)) al1 (.ref a) (.exc C fs) := by
    rcases xr with ⟨rfl, rfl⟩ | ⟨d, vs, rfl, hd, rf⟩
    · exact .exc upd_same (.inl ⟨rfl, rfl⟩) .nil
    · exact .exc upd_same (.inr ⟨d, rfl, n2.g _ _ hd⟩) (rf.nx n2)
  refine y (σ1.set i (some (.ref a))) _ _ al1 nn ((hσ1.nx n2).set i rx) A2 (endsX i De) ?_
  have hD2 := hD.nx' nn
  exact ⟨fun σ' ρ' μ' G' H' al' n hσ A p => hD2.nx _ _ μ' G' H' al' n (hσ.forget i none) A p, hD2.rt, fun σ' ρ' μ' G' H' al' n hσ A p => hD2.bk _ _ μ' G' H' al' n (hσ.forget i none) A p, fun σ' ρ' μ' G' H' al' n hσ A p => hD2.ct _ _ μ' G' H' al' n (hσ.forget i none) A p⟩
theorem wag_x {G1 H1 G H : Hp} {al1 al : List Addr} {σ : L2.St} (hW : WAg K B PW W) (hB : B.le G H al) (hσ : RpS K G al σ ρ) (n1 : Nx G H al G1 H1 al1) : XAg K ⟨G1, H1, al1⟩ (fun C fs μ2 => PW C fs ρ μ2) (WE W σ) := fun C fs dd μ' G' H' al' n' A xr p => hW C fs dd σ ρ μ' G' H' al' ((hB.trans n1).trans n') ((hσ.nx n1).nx n') A xr p
theorem de_callS (hW : WAg K B PW W) (h : DA K B ts ρ μ fun ds μ1 => C ds μ1 P fun Cx fs μ2 => PW Cx fs ρ μ2) : DE K B (tCallS (spD K C) (WE W) ts) ρ μ P := fun σ G H al hB hσ hA Q hQ =>
  h σ G H al hB hσ hA _ fun vs ds μ1 G1 H1 al1 n1 A1 r1 p1 => ⟨G1, al1, ds, μ1, P, _, A1, r1, p1, hQ.nx n1, wag_x hW hB hσ n1⟩
theorem de_methS {Cc : Addr} {m : Str} (hW : WAg K B PW W) (h : DE K B te ρ μ fun x μ1 => ∃ gs, (x = .obj Cc gs ∨ ∃ k, x = .own k ∧ μ1[k]? = some (.ins Cc gs)) ∧ gs.lookup m = none ∧ DA K B ts ρ μ1 fun ds μ2 => C (x :: ds) μ2 P fun Cx fs μ2 => PW Cx fs ρ μ2) : DE K B (tMethS Cc m (spD K C) (WE W) te ts) ρ μ P := fun σ G H al hB hσ hA Q hQ =>
  h σ G H al hB hσ hA _ fun v x μ1 G1 H1 al1 n1 A1 r1 p1 => by
    obtain ⟨gs, hx, hl, p⟩ := p1
    have key : ∃ a dx fs, v = .ref a ∧ H1 a = some (.ins Cc dx fs) ∧ fs.lookup m = none := by
      rcases hx with rfl | ⟨k, rfl, hk⟩
      · cases r1 with | obj e rf => exact ⟨_, _, _, rfl, A1.sub _ _ e, rf.none hl⟩
      · obtain ⟨a, ha, ga, dx, fs, hv, rf⟩ := A1.get hk
        cases r1 with | own e => rw [ha] at e; cases e; exact ⟨_, _, _, rfl, hv, rf.none hl⟩
    obtain ⟨a, dx, fs, e, hv, hm⟩ := key
    refine ⟨a, dx, fs, e, hv, hm, p σ G1 H1 al1 (hB.trans n1) (hσ.nx n1) A1 _ fun vs ds μ2 G2 H2 al2 n2 A2 r2 p2 => ?_⟩
    rw [List.append_nil]
    exact ⟨G2, al2, x :: ds, μ2, P, _, A2, .cons (r1.nx n2) r2, p2, hQ.nx (n1.trans n2), wag_x hW hB hσ (n1.trans n2)⟩
theorem de_makeS {Cc : Addr} (hW : WAg K B PW W) (hd : ∀ G al, Rps K G al dvs dds) (h : DA K B ts ρ μ fun ds μ1 => C (.own μ1.length :: (ds ++ dds)) (μ1 ++ [.ins Cc []]) (fun d μ2 => d = .non ∧ ∃ gs, μ2 = μ1 ++ [.ins Cc gs] ∧ clF gs μ1.length = true ∧ P (.obj Cc gs) μ1) (RetX μ1.length fun Cx fs μ2 => PW Cx fs ρ μ2)) : DE K B (tMakeS Cc (spD K C) dvs (WE W) ts) ρ μ P := fun σ G H al hB hσ hA Q hQ =>
  de_make (B := ⟨G, H, al⟩) (PX := fun Cx fs μ2 => PW Cx fs ρ μ2) (E := WE W σ) (wag_x hW hB hσ .refl) hd (fun σ' G' H' al' hB' hσ' hA' Q' hQ' => h σ' G' H' al' (hB.trans hB') hσ' hA' Q' hQ') σ G H al .refl hσ hA Q hQ
/-! ### isinstance, fields -/
theorem rc_isX {Cc : Addr} {gs : List (Str × D)} {c : D} {cv : Value} {b : Bool} (hC : ExcC K Cc) (hc : ClD c cv) (hk : PySem.W.kitOne K (.ref Cc) cv = some b) (h : P (.bl b) μ) : RC K (rIsX K) [.exc Cc gs, c] μ P := fun G H al vs A r Q hQ => by
  obtain ⟨v, w, rfl, r1, r2⟩ := rps2 r
  cases r1 with
  | exc e hd rf =>
    refine ⟨_, Cc, _, _, w, cv, b, rfl, A.sub _ _ e, hd.mono A.sub, hC, ?_, hk, hQ.now A (.bl _) h⟩
    intro u ru
    cases hc with
    | ty n => cases r2; exact ru
    | loc C => cases r2; exact ru
theorem de_xf {n : Str} (h : DE K B te ρ μ fun x μ1 => ∃ Cc gs d, x = .exc Cc gs ∧ XfC K Cc ∧ PySem.W.findIn K (.ref Cc) n = some none ∧ gs.lookup n = some d ∧ P d μ1) : DE K B (tXfK K n te) ρ μ P := fun σ G H al hB hσ hA Q hQ =>
  h σ G H al hB hσ hA _ fun v x μ1 G1 H1 al1 n1 A1 r1 p1 => by
    obtain ⟨Cc, gs, d, rfl, hx, hn, hl, p⟩ := p1
    cases r1 with
    | exc e hd rf =>
      obtain ⟨w, lw, rw'⟩ := rf.look hl
      rcases hd with ⟨rfl, rfl⟩ | ⟨dx, rfl, hd⟩
      · cases lw
      · exact ⟨_, Cc, dx, _, w, rfl, A1.sub _ _ e, A1.sub _ _ hd, hx, hn, lw, hQ _ _ μ1 _ _ _ n1 A1 rw' p⟩
end
/-! ### what the text says of the refusals -/
/-- the refusals of the program -/
def excNames : List Str := ["BadBook", "BadCalendar", "BadFeast", "BadRow", "BadHouse", "BadNumber", "NoDay", "NoRow", "NoPiece", "TooTight", "NeverDone", "TooFar", "NoDeed", "BadText"]
def excB1 (K : PySem.W.Frag) (x : Str) : Bool := He.eqO (PySem.W.findIn K (.ref (He.ga K x)) "__getattribute__") (some (some (.builtin "BaseException.__getattribute__"))) && (He.eqO (PySem.W.findIn K (.ref (He.ga K x)) "__getattr__") (some none) &&
  (decide (PySem.W.subIn K (.ref (He.ga K x)) (.type "BaseException") = some true) && (PySem.W.hasDictIn K (He.ga K x) && (He.eqO (PySem.W.findIn K (.ref (He.ga K x)) "__class__") (some (some (.builtin "object.__class__"))) &&
  (He.eqO (PySem.W.specialIn K (.builtin "object.__class__") "__get__") (some (some (.builtin "getset_descriptor.__get__"))) && (decide (PySem.W.takesIn K (.builtin "object.__class__") = some true) && decide (PySem.W.mroIn K (He.ga K x) (.type "object") = some true)))))))
theorem excB1_ok {K : PySem.W.Frag} {x : Str} (h : excB1 K x = true) : ExcC K (He.ga K x) := by
  unfold excB1 at h
  obtain ⟨h1, h⟩ := He.ba h
  obtain ⟨h2, h⟩ := He.ba h
  obtain ⟨h3, h⟩ := He.ba h
  obtain ⟨h4, h⟩ := He.ba h
  obtain ⟨h5, h⟩ := He.ba h
  obtain ⟨h6, h⟩ := He.ba h
  obtain ⟨h7, h8⟩ := He.ba h
  exact ⟨He.eqO_ok h1, He.eqO_ok h2, of_decide_eq_true h3, h4, He.eqO_ok h5, He.eqO_ok h6, of_decide_eq_true h7, of_decide_eq_true h8⟩
/-- of each of some refusals, and of each two -/
structure KExc (K : PySem.W.Frag) (xs : List Str) : Prop where
  ec : ∀ x ∈ xs, ExcC K (He.ga K x)
  re : ∀ x ∈ xs, PySem.W.exmOne K (.ref (He.ga K x)) (.ref (He.ga K "ReadError")) = some true
  ve : ∀ x ∈ xs, PySem.W.kitOne K (.ref (He.ga K x)) (.type "ValueError") = some true
  is : ∀ x ∈ xs, ∀ y ∈ excNames, PySem.W.kitOne K (.ref (He.ga K x)) (.ref (He.ga K y)) = some (decide (x = y))
  ge : ∀ x ∈ xs, PySem.W.kitOne K (.ref (He.ga K x)) (.ref (He.ga K "ReadError")) = some true
def kexcB (xs : List Str) (K : PySem.W.Frag) : Bool := xs.all fun x => excB1 K x && (decide (PySem.W.exmOne K (.ref (He.ga K x)) (.ref (He.ga K "ReadError")) = some true) && (decide (PySem.W.kitOne K (.ref (He.ga K x)) (.type "ValueError") = some true) &&
  ((excNames.all fun y => decide (PySem.W.kitOne K (.ref (He.ga K x)) (.ref (He.ga K y)) = some (decide (x = y)))) && decide (PySem.W.kitOne K (.ref (He.ga K x)) (.ref (He.ga K "ReadError")) = some true))))
theorem kexcB_ok {xs : List Str} {K : PySem.W.Frag} (h : kexcB xs K = true) : KExc K xs := by
  unfold kexcB at h
  rw [List.all_eq_true] at h
  refine ⟨fun x hx => ?_, fun x hx => ?_, fun x hx => ?_, fun x hx y hy => ?_, fun x hx => ?_⟩
  all_goals
    obtain ⟨h1, h2⟩ := He.ba (h x hx)
    obtain ⟨h3, h4⟩ := He.ba h2
    obtain ⟨h5, h6⟩ := He.ba h4
    obtain ⟨h7, h8⟩ := He.ba h6
  · exact excB1_ok h1
  · exact of_decide_eq_true h3
  · exact of_decide_eq_true h5
  · exact of_decide_eq_true (List.all_eq_true.mp h7 y hy)
  · exact of_decide_eq_true h8
/-- fields of a refusal -/
structure KXf (K : PySem.W.Frag) (x : Str) (fs : List Str) : Prop where
  xf : XfC K (He.ga K x)
  no : ∀ f ∈ fs, PySem.W.findIn K (.ref (He.ga K x)) f = some none
  ox : OexC K (He.ga K x)
def kxfB (x : Str) (fs : List Str) (K : PySem.W.Frag) : Bool := xfB K (He.ga K x) && (oexB x K && fs.all fun f => He.eqO (PySem.W.findIn K (.ref (He.ga K x)) f) (some none))
theorem kxfB_ok {x : Str} {fs : List Str} {K : PySem.W.Frag} (h : kxfB x fs K = true) : KXf K x fs := by
  unfold kxfB at h
  obtain ⟨h1, h2⟩ := He.ba h
  obtain ⟨h3, h4⟩ := He.ba h2
  exact ⟨xfB_ok h1, fun f hf => He.eqO_ok (List.all_eq_true.mp h4 f hf), oexB_ok h3⟩
end Dl

set_option Elab.async false
set_option linter.all false
set_option maxRecDepth 100000
/-! small rules: exceptions and None, == of texts -/
namespace Dl
open PySem L2 PyProof.Rows
section
variable {K : PySem.W.Frag} {B : Bs} {ρ : En} {μ : Mu} {te : TE} {P : D → Mu → Prop}
theorem np_exc {Q : Bool → Prop} {C : Addr} {gs : List (Str × D)} (h : Q false) : IsNP (.exc C gs) Q := np_f (by simp) h
theorem ro_eqS {i j : Str} (h1 : PyData.strOk i = true) (h2 : PyData.strOk j = true) (h : P (.bl (decide (i = j))) μ) : RO K (rEqD K) (.str i) (.str j) μ P := ro_eqD (n := 0) (m := 0) (.id _) (.id _) h1 h2 (by rw [eqvD_str]; exact h)
theorem ro_neS {i j : Str} (h1 : PyData.strOk i = true) (h2 : PyData.strOk j = true) (h : P (.bl (!decide (i = j))) μ) : RO K (rNeD K) (.str i) (.str j) μ P := ro_neD (n := 0) (m := 0) (.id _) (.id _) h1 h2 (by rw [eqvD_str]; exact h)
theorem ro_eqSS {i : Str} (h1 : PyData.strOk i = true) (h : P (.bl true) μ) : RO K (rEqD K) (.str i) (.str i) μ P := ro_eqS h1 h1 (by simpa using h)
theorem ro_neSS {i : Str} (h1 : PyData.strOk i = true) (h : P (.bl false) μ) : RO K (rNeD K) (.str i) (.str i) μ P := ro_neS h1 h1 (by simpa using h)
theorem ro_eqSd {i j : Str} (h1 : PyData.strOk i = true) (h2 : PyData.strOk j = true) (hn : i ≠ j) (h : P (.bl false) μ) : RO K (rEqD K) (.str i) (.str j) μ P := ro_eqS h1 h2 (by simpa [hn] using h)
theorem ro_neSd {i j : Str} (h1 : PyData.strOk i = true) (h2 : PyData.strOk j = true) (hn : i ≠ j) (h : P (.bl true) μ) : RO K (rNeD K) (.str i) (.str j) μ P := ro_neS h1 h2 (by simpa [hn] using h)
/-- fields of a caught exception -/
def XfP (K : PySem.W.Frag) (n : Str) (x : D) (Q : D → Prop) : Prop := ∃ Cc gs d, x = .exc Cc gs ∧ XfC K Cc ∧ PySem.W.findIn K (.ref Cc) n = some none ∧ gs.lookup n = some d ∧ Q d
theorem de_xfZ {n : Str} (h : DE K B te ρ μ fun x μ1 => XfP K n x fun d => P d μ1) : DE K B (tXfK K n te) ρ μ P := de_xf h
theorem xf_i {n x : Str} {fs : List Str} {gs : List (Str × D)} {d : D} {Q : D → Prop} (k : KXf K x fs) (hn : n ∈ fs) (hl : gs.lookup n = some d) (h : Q d) : XfP K n (.exc (He.ga K x) gs) Q := ⟨_, _, _, rfl, k.xf, k.no _ hn, hl, h⟩
/-- a comprehension whose items are drawn: the things go through the states f z -/
theorem lc_draw {wi : TI} {g : TG} {te : TE} {vs : List Nat} (f : Int → Mu) (Q : D → Prop) (hg : GW g vs) (h : DI K B wi ρ μ fun ds S μ1 => (∀ z, S (f z)) ∧ (∃ z0, μ1 = f z0) ∧ ds.length ≤ 100000 ∧
      (∀ (i : Nat) (d : D) (z : Int), ds[i]? = some d → DG K B g d (wipeD ρ vs) (f z) fun ρ2 μ2 => μ2 = f z ∧ DE K B te ρ2 (f z) fun y μ3 => Q y ∧ ∃ z', μ3 = f z') ∧ ∀ out z, out.length = ds.length → (∀ y ∈ out, Q y) → P (.lst out) (f z)) : DE K B (tLc wi g tYes te vs) ρ μ P := by
  refine de_lc hg fun σ G H al hB hσ hA R hR => h σ G H al hB hσ hA R fun J ds S μ1 G1 H1 al1 n1 A1 ok p => hR J ds S μ1 G1 H1 al1 n1 A1 ok ?_
  obtain ⟨hS, ⟨z0, hz0⟩, hl, hs, hp⟩ := p
  refine ⟨hl, fun i acc μ' => acc.length = i ∧ (∀ y ∈ acc, Q y) ∧ ∃ z, μ' = f z, ⟨rfl, by simp, z0, hz0⟩, fun i acc μ' _ ⟨_, _, z, h⟩ => by rw [h]; exact hS z, fun i d acc μ' hd h => ?_, fun acc μ' h => ?_⟩
  · obtain ⟨h1, h2, z, rfl⟩ := h
    refine fun σ G H al v hB hσ hA rv Q' hQ => hs i d z hd σ G H al v hB hσ hA rv Q' fun σ2 ρ2 μ2 G2 H2 al2 n2 hσ2 A2 p2 => hQ σ2 ρ2 μ2 G2 H2 al2 n2 hσ2 A2 ?_
    obtain ⟨rfl, p2⟩ := p2
    refine dt_yes ⟨fun _ => p2.imp fun y μ3 ⟨e1, e2⟩ => ⟨by simp [h1], fun y' hy => ?_, e2⟩, fun z => by cases z⟩
    rcases List.mem_append.mp hy with m | m
    · exact h2 y' m
    · simp at m; subst m; exact e1
  · obtain ⟨h1, h2, z, rfl⟩ := h
    exact hp acc z h1 h2
theorem ints_of {out : List D} {p : Int → Prop} (h : ∀ y ∈ out, ∃ z, y = .int z ∧ p z) : ∃ ls : List Int, out = ls.map D.int ∧ ∀ z ∈ ls, p z := by
  induction out with
  | nil => exact ⟨[], rfl, by simp⟩
  | cons d ds ih =>
    obtain ⟨z, rfl, hz⟩ := h d (by simp)
    obtain ⟨ls, rfl, hl⟩ := ih fun y hy => h y (by simp [hy])
    exact ⟨z :: ls, rfl, fun w hw => by
      rcases List.mem_cons.mp hw with m | m
      · subst m; exact hz
      · exact hl w m⟩
end
end Dl

set_option Elab.async false
set_option linter.all false
set_option maxRecDepth 100000
/-! range downwards -/
namespace Dl
open PySem L2 PyProof.Rows
/-- hi, hi - 1, .. (n of them) -/
def downD (hi : Int) (n : Nat) : List D := (List.range n).map fun k : Nat => D.int (hi - (k : Int))
theorem downD_length (hi : Int) (n : Nat) : (downD hi n).length = n := by simp [downD]
theorem downD_some {hi : Int} {n i : Nat} {d : D} (h : (downD hi n)[i]? = some d) : i < n ∧ d = .int (hi - (i : Int)) := by
  have hi' : i < n := by have := (List.getElem?_eq_some_iff.mp h).1; rwa [downD_length] at this
  refine ⟨hi', ?_⟩
  simp [downD, List.getElem?_map, List.getElem?_range hi'] at h
  exact h.symm
section
variable {K : PySem.W.Frag} {B : Bs} {ρ : En} {μ : Mu} {ts : TA} {PI' : List D → (Mu → Prop) → Mu → Prop}
theorem itc_ok {hi : Int} {n : Nat} {G H : Hp} {al : List Addr} : ItOk K (Itc hi (-1) n) (downD hi n) (fun _ => True) G H al := fun G2 H2 al2 μ2 _ A _ => by
  refine ⟨fun i h => by rw [downD_length] at h; exact h, fun i h => by rw [downD_length] at h; exact h, fun i x H3 y d hd => ?_⟩
  obtain ⟨rfl, rfl⟩ := y
  obtain ⟨_, rfl⟩ := downD_some hd
  have e : hi + (i : Nat) * (-1 : Int) = hi - (i : Int) := by omega
  rw [e]
  exact ⟨G2, .refl, A, .int _⟩
theorem di_down (h : DA K B ts ρ μ fun xs μ1 => ∃ hi lo : Int, xs = [.int hi, .int lo, .int (-1)] ∧ (-(2 ^ 62) ≤ hi ∧ hi < 2 ^ 62 ∧ -(2 ^ 62) ≤ lo ∧ lo < 2 ^ 62) ∧ PI' (downD hi (hi - lo).toNat) (fun _ => True) μ1) : DI K B (iRng3 ts) ρ μ PI' := fun σ G H al hB hσ hA R hR =>
  h σ G H al hB hσ hA _ fun vs ds μ1 G1 H1 al1 n1 A1 r1 p1 => by
    obtain ⟨hi, lo, rfl, ⟨h1, h2, h3, h4⟩, p⟩ := p1
    obtain ⟨v, ws, rfl, q1, r2⟩ := rps_cons r1
    obtain ⟨w, u, rfl, q2, q3⟩ := rps2 r2
    cases q1; cases q2; cases q3
    exact ⟨hi, lo, -1, _, rfl, RgC.neg h1 h2 h3 h4, hR _ _ _ μ1 G1 H1 al1 n1 A1 itc_ok p⟩
end
end Dl

set_option Elab.async false
set_option linter.all false
set_option maxRecDepth 100000
/-! tuple(x), a number in a tuple, list(dict) -/
namespace Dl
open PySem L2 PyProof.Rows
section
variable {K : PySem.W.Frag} {B : Bs} {ρ : En} {μ : Mu} {te : TE} {P : D → Mu → Prop}
theorem de_tupOf (h : DE K B te ρ μ fun x μ1 => ∃ ds, Ls μ1 x ds ∧ P (.tup ds) μ1) : DE K B (tThen te (kTup K)) ρ μ P := fun σ G H al hB hσ hA Q hQ =>
  h σ G H al hB hσ hA _ fun v d μ1 G1 H1 al1 n1 A1 r1 p1 => by
    obtain ⟨ds, hl, p⟩ := p1
    obtain ⟨a, ws, rfl, s, rs⟩ := hl.get A1 r1
    refine .inl ⟨a, ws, rfl, s, fun q hq => ?_⟩
    obtain ⟨A2, n2⟩ := A1.frz (o := .tup ws) hq
    exact hQ _ _ μ1 _ _ al1 (n1.trans n2) A2 (.tup upd_same (rs.nx n2)) p
theorem ro_inTI {i : Int} {y : D} {ns : List Int} (hl : Ts y (ns.map D.int)) (h : P (.bl (decide (i ∈ ns))) μ) : RO K (rInA K) (.int i) y μ P := fun G H al v w A r1 r2 Q hQ => by
  obtain ⟨a, vs, rfl, sq, rs⟩ := hl.get A r2
  cases r1
  have e := rs.ints; subst e
  refine .inl ⟨a, _, rfl, .inr sq, rfl, flat_ints ns, hQ.now A (.bl _) ?_⟩
  rw [if_neg (by simp), inV_ints]; exact h
theorem rps_keys {G : Hp} {al : List Addr} : ∀ {gs : List (Key × D)} {kvs : List (Key × V)}, Rpk K G al kvs gs → Rps K G al (kvs.map fun kv => kV kv.1) (gs.map fun kv => keyD kv.1)
  | [], _, .nil => .nil
  | (k, _) :: gs, _, .cons r t => by
    refine .cons ?_ (rps_keys t)
    cases k with
    | inl i => exact .int i
    | inr s => exact .str s
theorem rc_listD {x : D} {gs : List (Key × D)} (hd : Dt μ x gs) (h : P (.lst (gs.map fun kv => keyD kv.1)) μ) : RC K rListD [x] μ P := fun G H al vs A r Q hQ => by
  obtain ⟨v, rfl, r1⟩ := rps1 r
  obtain ⟨a, kvs, rfl, hk, rk⟩ := hd.get A r1
  refine ⟨a, kvs, rfl, hk, fun q hq => ?_⟩
  obtain ⟨A2, n2⟩ := A.frz (o := .lst (kvs.map fun kv => kV kv.1)) hq
  exact hQ _ _ μ _ _ al n2 A2 (.lst upd_same ((rps_keys rk).nx n2)) h
/-- a dict that is handed on is frozen -/
theorem de_frzD (h : DE K B te ρ μ fun x μ1 => ∃ k gs, x = .own k ∧ μ1[k]? = some (.dK gs) ∧ P (.dct gs) (μ1.set k .dead)) : DE K B te ρ μ P := fun σ G H al hB hσ hA Q hQ =>
  h σ G H al hB hσ hA _ fun v d μ1 G1 H1 al1 n1 A1 r1 p1 => by
    obtain ⟨k, gs, rfl, hk, p⟩ := p1
    obtain ⟨a, ha, ok⟩ := A1.get hk
    cases r1 with
    | own e =>
      rw [ha] at e
      cases e
      obtain ⟨ga, kvs, hv, rv⟩ := ok
      obtain ⟨A2, n2⟩ := A1.freeze ha hv ga
      exact hQ _ _ _ _ _ _ (n1.trans n2) A2 (.dct upd_same (rv.mono n2.g n2.p)) p
/-- a comprehension whose items are drawn: the things go by an invariant -/
theorem lc_inv {wi : TI} {g : TG} {vs : List Nat} (I : Nat → Mu → Prop) (Q : D → Prop) (hg : GW g vs) (h : DI K B wi ρ μ fun ds S μ1 => (∀ i μ', i ≤ ds.length → I i μ' → S μ') ∧ I 0 μ1 ∧ ds.length ≤ 100000 ∧
      (∀ (i : Nat) (d : D) (μ' : Mu), ds[i]? = some d → I i μ' → DG K B g d (wipeD ρ vs) μ' fun ρ2 μ2 => μ2 = μ' ∧ DE K B te ρ2 μ' fun y μ3 => Q y ∧ I (i + 1) μ3) ∧ ∀ out μ', out.length = ds.length → (∀ y ∈ out, Q y) → I ds.length μ' → P (.lst out) μ') : DE K B (tLc wi g tYes te vs) ρ μ P := by
  refine de_lc hg fun σ G H al hB hσ hA R hR => h σ G H al hB hσ hA R fun J ds S μ1 G1 H1 al1 n1 A1 ok p => hR J ds S μ1 G1 H1 al1 n1 A1 ok ?_
  obtain ⟨hS, hz0, hl, hs, hp⟩ := p
  refine ⟨hl, fun i acc μ' => acc.length = i ∧ (∀ y ∈ acc, Q y) ∧ I i μ', ⟨rfl, by simp, hz0⟩, fun i acc μ' hi ⟨_, _, h⟩ => hS i μ' hi h, fun i d acc μ' hd h => ?_, fun acc μ' h => ?_⟩
  · obtain ⟨h1, h2, h3⟩ := h
    refine fun σ G H al v hB hσ hA rv Q' hQ => hs i d μ' hd h3 σ G H al v hB hσ hA rv Q' fun σ2 ρ2 μ2 G2 H2 al2 n2 hσ2 A2 p2 => hQ σ2 ρ2 μ2 G2 H2 al2 n2 hσ2 A2 ?_
    obtain ⟨rfl, p2⟩ := p2
    refine dt_yes ⟨fun _ => p2.imp fun y μ3 ⟨e1, e2⟩ => ⟨by simp [h1], fun y' hy => ?_, e2⟩, fun z => by cases z⟩
    rcases List.mem_append.mp hy with m | m
    · exact h2 y' m
    · simp at m; subst m; exact e1
  · obtain ⟨h1, h2, h3⟩ := h
    exact hp acc μ' h1 h2 h3
end
end Dl

set_option Elab.async false
set_option linter.all false
set_option maxRecDepth 100000
set_option maxHeartbeats 2000000
/-! lambdas handed to a def -/
namespace Dl
open PySem PySem.Spec PyProof.Rows L2

/-- the table at p grows by the code object c, or stays -/
def TabUp (p : Addr) (q : Str) (c : Addr) (H H' : Hp) : Prop := H' c = some (LamX.CodeO c q) ∧ ((H' = H ∧ ∃ (ps : Array Value) (z : Pos), H p = some (.tbl ps) ∧ codeAmong z ps.toList = some (.ref c)) ∨ ∃ (ps : Array Value) (z : Pos), H p = some (.tbl ps) ∧ H c = none ∧ H' = upd (upd H p (.tbl (ps ++ #[rawInt z.line, rawInt z.col, .ref c]))) c (LamX.CodeO c q))
section
variable {X : Cx} {pins : List (Addr × Obj)} {σ : L2.St} {H : Hp} {s : Shared}
/-- a lambda is made; its table is told exactly -/
theorem lam_mk {c p : Addr} {ar : Arguments} {bd : Expr} {sc : Scope} {pos : Pos} {Q E : Value → Shared → Prop} (I : Inv X pins σ H s) (tb : LamX.TabB X.base X.mg c p) (hc : X.env.code = .ref c) (ht : LamX.TabS H p (X.env.qual ++ "<lambda>"))
    (h0 : defaultsOf ar X.env = ([], [])) (hf : ∀ y ∈ sc.names, y.2 = .free → ∃ c, X.env.cells.lookup y.1 = some c)
    (go : ∀ (f c1 : Addr) (m1 t1 : Value) (H1 : Hp) (s1 : Shared), Inv X pins σ H1 s1 → TabUp p (X.env.qual ++ "<lambda>") c1 H H1 → s1.heap.get? f = some (PySem.W.kla_obj "<lambda>" (X.env.qual ++ "<lambda>") ar bd sc (cloFrom X.env.cells sc.names []) m1 c1 t1) → H1 f = none → f ∉ frs X.stack → Q (.ref f) s1) :
    wpAny (model X.prog X.w) X.A (eval (.Lambda ar bd sc pos) X.env) Q E s := by
  obtain ⟨ps, e1, e2, e3⟩ := ht
  have e1' : s.heap.get? p = some { cls := .none, data := .fields ps } := I.hok p _ e1
  have b1 : s.heap.BuiltinsAt X.mg p := tb.bm.keeps I.bk
  have out : ∀ f, s.heap.objs.size ≤ f → f ∉ frs X.stack := fun f hf z => (List.mem_cons.mp (I.stkSub _ z)).elim (fun e => Nat.lt_irrefl _ (Nat.lt_of_lt_of_le (e ▸ I.lt) hf)) (fun e => I.nofs hf e)
  refine PySem.W.kla_eval h0 ?_
  cases hq : codeAmong pos ps.toList with
  | some cv =>
    obtain ⟨c1, rfl, hco⟩ := e3 pos cv hq
    refine PySem.W.kla_makeFunctionHit (mg := X.mg) (c := c) (P := p) (ps := ps) (closure_ok hf) I.ok.glob (I.mod.glob.keeps I.bk) hc (tb.code.keeps I.bk) e1' e2 hq b1 fun t1 h' tk k1 k2 => ?_
    refine go h'.objs.size c1 _ t1 H _ (I.kept fun b o e => Heap.get?_push_of_some _ (k1 b o e)) ⟨hco, .inl ⟨rfl, ps, pos, e1, hq⟩⟩ (Heap.get?_push_size _ rfl) (I.hok.fresh k2) (out _ k2)
  | none =>
    refine PySem.W.kla_makeFunction (mg := X.mg) (c := c) (P := p) (ps := ps) (closure_ok hf) I.ok.glob (I.mod.glob.keeps I.bk) hc (tb.code.keeps I.bk) e1' e2 hq tb.gP b1 fun c1 t1 h' tk k1 k2 k3 k4 k5 => ?_
    obtain ⟨c2, oc, vs, t, z, k6, k7, k8⟩ := k4
    cases z
    have k9 : s.heap.objs.size ≤ h'.objs.size := Nat.le_trans k2 (Nat.le_of_lt k3)
    have n1 : H c1 = none := I.hok.fresh k2
    refine go h'.objs.size c1 _ t1 (upd (upd H p (.tbl (ps ++ #[rawInt pos.line, rawInt pos.col, .ref c1]))) c1 (LamX.CodeO c1 (X.env.qual ++ "<lambda>"))) _
      (LamX.inv_table (t' := tk) (more := #[rawInt pos.line, rawInt pos.col, .ref c1]) I e1 (fun b o hb e => Heap.get?_push_of_some _ (k1 b o hb e)) (Heap.get?_push_of_some _ k5) k2 ⟨oc, vs, t, Heap.get?_push_of_some _ k6, k7, k8⟩)
      ⟨upd_same, .inr ⟨ps, pos, e1, n1, rfl⟩⟩ (Heap.get?_push_size _ rfl) ?_ (out _ k9)
    rw [upd_ne (Nat.ne_of_gt k3), upd_ne (Nat.ne_of_gt (Nat.lt_of_lt_of_le (Heap.lt_size e1') k9))]
    exact I.hok.fresh k9
end
/-- nothing is let out -/
abbrev NoX : XK := fun _ _ _ => False
/-- what the def that takes a deed makes of the deed's reading -/
def Gives (X : Cx) (Ng : List Str) (x : Str) (sg : Scope) (g : Addr) (cdg : Value) (bg : List Stmt) (a : Str) (q : Str) (TT : (XK → Hp → VK → Prop) → Addr → Hp → VK → Prop) : Prop :=
  ∀ (f c1 : Addr) (s : Shared) (H : Hp) (Q : VK) (tl : XK → Hp → VK → Prop),
    (∀ (W : WX) (pn : List (Addr × Obj)) (xe : Value → Shared → Prop) (E : XK) (p1 p2 : Pos), Takes ((cxOf (L2.CX X.prog X.w) X.prog X.w X.K X.mg X.base Ng x sg g cdg X.A X.stack s H NoX).tr pn xe) W → (∀ cls d σ' H', E cls d H' → W cls d σ' H') →
      PE ((cxOf (L2.CX X.prog X.w) X.prog X.w X.K X.mg X.base Ng x sg g cdg X.A X.stack s H NoX).tr pn xe) (.Call (.Name a p1) [] [] p2) (fun σZ HZ Q => σZ[0]? = some (some (.ref f)) ∧ HZ c1 = some (LamX.CodeO c1 q) ∧ tl E HZ Q)) →
    TT tl c1 H Q → ∃ t, PSs (cxOf (L2.CX X.prog X.w) X.prog X.w X.K X.mg X.base Ng x sg g cdg X.A X.stack s H NoX) bg t ∧ t { nx := fun _ H' => Q .non H', rt := Q } (L2.start Ng [.ref f]) H
def tLm (p : Addr) (q : Str) (TT : (XK → Hp → VK → Prop) → Addr → Hp → VK → Prop) (t : XK → TE) : TE := fun σ H Q => LamX.TabS H p q ∧ ∀ c1 H1, TabUp p q c1 H H1 → TT (fun E H' Q' => t E σ H' Q') c1 H1 Q
section
variable {X : Cx}
/-- x(lambda: body) -/
theorem pe_lm {TT : (XK → Hp → VK → Prop) → Addr → Hp → VK → Prop} {x a q : Str} {g c p : Addr} {k : Nat} {st : Stmt} {fd : FuncData} {Ng : List Str} {ar : Arguments} {bd : Expr} {sc : Scope} {t : XK → TE} {p1 p2 p3 : Pos} (hg : Gl X x) (hm : X.mg x = some (.ref g))
    (F : FunD X.K x x (defArgs st) (defBody st) (defScope st) [] [] g fd) (hb : L2.Binds X.K fd [a] []) (Sg : FnScope Ng [a] (defScope st)) (hNg : Ng[0]? = some a) (hva : Vis (defScope st) a)
    (hq : X.env.qual ++ "<lambda>" = q) (hG : ∀ cdv, Room (k + 1) (X.A.deeper (envOfC x (defScope st) 0 g cdv)) → Gives X Ng x (defScope st) g cdv (defBody st) a q TT)
    (tb : LamX.TabB X.base X.mg c p) (hc : X.env.code = .ref c) (hr : Room (k + 2) X.A) (L : LamX.LamS X.env.scope sc) (h0 : defaultsOf ar X.env = ([], []))
    (hbind : ∀ (q : Str) (cl : List (Str × Addr)) (pm cv ctv : Value), bindArgs (PySem.W.kla_fn "<lambda>" q ar bd sc cl pm cv ctv) ⟨[], []⟩ = pure [])
    (hbody : ∀ (A : Around) (outer : List Env) (s : Shared) (H : Hp) (E : XK) (f c1 : Addr), Room k (A.deeper (LamX.lamEnv X sc s.heap.objs.size f c1)) → PE (LamX.lamCx X A outer s H E sc f c1) bd (t E))
    (hdb : (x == ("__debug__" : Str)) = false := by decide) (hd : (a == ("__debug__" : Str)) = false := by decide) (hcd : (a == ("__classdict__" : Str)) = false := by decide) :
    PE X (.Call (.Name x p1) [.Lambda ar bd sc p2] [] p3) (tLm p q TT t) := by
  subst hq
  obtain ⟨oc, od, dV, kV, doc, pm, an, cdv, ct, osl, rfl, lk, hcg, _, _⟩ := F.ex
  refine ⟨fun pins s σ H Q I h => ?_⟩
  obtain ⟨hT, h⟩ := h
  refine wpAny_Call_Name_kw (ld_glob I hg hm (PySem.W.callWith_K (h₀ := X.base) I.ok.mod.kin F.kp ?_ (by rfl) (by rfl)) hdb)
  show wpAny _ _ (spliced ((false, eval (.Lambda ar bd sc p2) X.env) :: backTo p3 (starEach [] X.env))) _ _ s
  refine Calls.spliced_cons (lam_mk I tb hc hT h0 (L.has I.ok) fun f c1 m1 t1 H1 s1 I1 up hf hfn hfr => Calls.spliced_nil ⟨I1.kIn, ?_⟩)
  refine wpAny_call (codeAny_mono (LamX.run_ofS (CX := L2.CX X.prog X.w) (E := NoX) (Q := Q) (N := Ng) (ps := [a]) (us := [.ref f]) (vs := [.ref f]) lk hcg Sg hr I1.env0 (hb s1 [.ref f] I1.kIn rfl) (.cons rfl .nil) rfl fun hr' => ?_) fun r s2 hq => ?_)
  · exact hG cdv ⟨hr'.1, hr'.2, hr'.3⟩ f c1 s1 H1 Q (fun E H' Q' => t E σ H' Q') (fun W pn xe E p1 p2 tk hW => LamX.pe_act (i := 0) I1 L hf hfn hfr (hbind _ _ _ _ _) tk hW hr' (fun A outer s H hr2 => hbody A outer s H E f c1 hr2) hNg hva hd hcd) (h c1 H1 up)
  · cases r with
    | error e =>
      obtain ⟨_, _, _, _, _, _, _, _, _, _, _, _, z⟩ := hq
      exact z.elim
    | ok fl =>
      cases fl with
      | ret u => exact I1.after hq
      | next => exact False.elim hq
      | brk => exact False.elim hq
      | cont => exact False.elim hq
end
end Dl

set_option Elab.async false
set_option linter.all false
set_option maxRecDepth 100000
set_option maxHeartbeats 2000000
/-! lambdas over data; the head and the end with tables -/
namespace Dl
open PySem PySem.Spec PyProof.Rows L2

theorem takes_len {X : Cx} {W : WX} (tk : Takes X W) : Takes X (fun cls d _ H => ∀ σ : L2.St, σ.length = X.N.length → W cls d σ H) := fun u s' ⟨a, B, sI, pins, σ, H, cls, d, e, I, nb, up, sky, na, os, ag, w⟩ => tk u s' ⟨a, B, sI, pins, σ, H, cls, d, e, I, nb, up, sky, na, os, ag, w σ I.len⟩
/-- the deed, called in a def of n names -/
def tAct (n : Nat) (f c1 : Addr) (q : Str) (tl : XK → Hp → VK → Prop) (W : WX) : TE := fun σ H Q => σ[0]? = some (some (.ref f)) ∧ H c1 = some (LamX.CodeO c1 q) ∧ tl (fun cls d H' => ∀ σ' : L2.St, σ'.length = n → W cls d σ' H') H Q
def TTd (Ng : List Str) (q : Str) (tB : (WX → TE) → TS) : (XK → Hp → VK → Prop) → Addr → Hp → VK → Prop := fun tl c1 H Q => ∀ f, tB (tAct Ng.length f c1 q tl) { nx := fun _ H' => Q .non H', rt := Q } (L2.start Ng [.ref f]) H
theorem gives_of {X : Cx} {Ng : List Str} {x : Str} {sg : Scope} {g : Addr} {cdg : Value} {bg : List Stmt} {a q : Str} {tB : (WX → TE) → TS}
    (hb : ∀ (s : Shared) (H : Hp) (td : WX → TE), (∀ (W : WX) (pn : List (Addr × Obj)) (xe : Value → Shared → Prop) (p1 p2 : Pos), Takes ((cxOf (L2.CX X.prog X.w) X.prog X.w X.K X.mg X.base Ng x sg g cdg X.A X.stack s H NoX).tr pn xe) W → PE ((cxOf (L2.CX X.prog X.w) X.prog X.w X.K X.mg X.base Ng x sg g cdg X.A X.stack s H NoX).tr pn xe) (.Call (.Name a p1) [] [] p2) (td W)) →
      PSs (cxOf (L2.CX X.prog X.w) X.prog X.w X.K X.mg X.base Ng x sg g cdg X.A X.stack s H NoX) bg (tB td)) : Gives X Ng x sg g cdg bg a q (TTd Ng q tB) := fun f c1 s H Q tl act h =>
  ⟨_, hb s H (tAct Ng.length f c1 q tl) (fun W pn xe p1 p2 tk => act _ pn xe _ p1 p2 (takes_len tk) fun cls d _ H' e => e), h f⟩
section
variable {K : PySem.W.Frag} {B : Bs} {ρ : En} {μ : Mu} {P : D → Mu → Prop}
theorem set_same {o : MO} : ∀ {μ : Mu} {k : Nat}, μ[k]? = some o → μ.set k o = μ
  | [], _, h => by cases h
  | x :: r, 0, h => by cases h; rfl
  | x :: r, k + 1, h => by rw [List.set_cons_succ, set_same (by simpa using h)]
/-- the state behind a lambda's making -/
theorem As.lam {G H H1 : Hp} {al : List Addr} {k : Nat} {p c1 : Addr} {q : Str} (A : As K G H al μ) (hk : μ[k]? = some (.tab p q)) (up : TabUp p q c1 H H1) : ∃ G1, Nx G H al G1 H1 al ∧ As K G1 H1 al μ ∧ G1 c1 = some (LamX.CodeO c1 q) := by
  obtain ⟨a, ha, g, rfl, ps, e, tr, r⟩ := A.get hk
  obtain ⟨_, ⟨rfl, ps', z, e', hc⟩ | ⟨ps', z, e', hn, rfl⟩⟩ := up
  · rw [e] at e'; cases e'
    obtain ⟨c, ec, gc⟩ := r z _ hc
    cases ec
    exact ⟨G, .refl, A, gc⟩
  · rw [e] at e'; cases e'
    have nac : a ≠ c1 := ne_of_none e hn
    obtain ⟨A1, n1⟩ := A.frz (o := LamX.CodeO c1 q) hn
    have eL : (ps ++ #[rawInt z.line, rawInt z.col, .ref c1]).toList = ps.toList ++ [rawInt z.line, rawInt z.col, .ref c1] := by simp
    obtain ⟨A2, n2⟩ := A1.put (o := .tbl (ps ++ #[rawInt z.line, rawInt z.col, .ref c1])) (m' := .tab a q) ha hk (by simp) ⟨by rw [upd_ne nac]; exact g, rfl, _, upd_same, by rw [eL]; exact PySem.TriplesOk_snoc _ _ _ _ tr, fun pos cv hcv => by
      rw [eL] at hcv
      rcases LamX.among_app _ tr hcv with y | y
      · obtain ⟨c, ec, gc⟩ := r pos cv y
        exact ⟨c, ec, n1.g _ _ gc⟩
      · exact ⟨c1, y, upd_same⟩⟩
    rw [set_same hk, upd_comm nac.symm] at A2
    rw [upd_comm nac.symm] at n2
    exact ⟨_, n1.trans n2, A2, upd_same⟩
theorem de_lm {k : Nat} {p : Addr} {q : Str} {Ng : List Str} {tB : (WX → TE) → TS} {t : XK → TE} (hk : μ[k]? = some (.tab p q)) (hN : 1 ≤ Ng.length)
    (h : ∀ B' : Bs, (∀ G H al, B'.le G H al → B.le G H al) → ∀ (f : Addr) (td : WX → TE),
      (∀ (B2 : Bs) (W : WX) (PW : PWT) (ρt : En) (μ1 : Mu) (Pd : D → Mu → Prop), (∀ G H al, B2.le G H al → B'.le G H al) → WAg K B2 PW W → ρt[0]? = some (some (.loc f)) →
        (∀ E', XAg K B2 (fun C fs μ' => PW C fs (List.replicate Ng.length none) μ') E' → DE K B2 (t E') ρ μ1 Pd) → DE K B2 (td W) ρt μ1 Pd) →
      DS K B' (tB td) (startD Ng [.loc f]) μ { nx := fun _ μ' => P .non μ', rt := P }) : DE K B (tLm p q (TTd Ng q tB) t) ρ μ P := fun σ G H al hB hσ hA Q hQ => by
  obtain ⟨a, ha, g, e0, ps, e, tr, r⟩ := hA.get hk
  subst e0
  refine ⟨⟨ps, e, tr, fun pos cv hc => let ⟨c, e1, e2⟩ := r pos cv hc; ⟨c, e1, hA.sub _ _ e2⟩⟩, fun c1 H1 up f => ?_⟩
  obtain ⟨G1, n1, A1, gc⟩ := hA.lam hk up
  refine h ⟨G1, H1, al⟩ (fun _ _ _ n => hB.trans (n1.trans n)) f _ ?_ _ G1 H1 al .refl (start_rp (.cons (.loc f) .nil)) A1 _ ⟨fun σ' ρ' μ' G' H' al' n _ A' p => hQ .non .non μ' G' H' al' (n1.trans n) A' .non p, hQ.nx n1, fun _ _ _ _ _ _ _ _ _ p => p.elim, fun _ _ _ _ _ _ _ _ _ p => p.elim⟩
  intro B2 W PW ρt μ1 Pd hBB hW h0 hE σt Gt Ht alt hBt hσt hAt Qt hQt
  have nt : Nx G1 H1 al Gt Ht alt := hBB _ _ _ hBt
  obtain ⟨v, ev, rv⟩ := hσt.2 0 _ h0
  cases rv
  refine ⟨ev, hAt.sub _ _ (nt.g _ _ gc), ?_⟩
  refine hE (fun cls d H' => ∀ σ' : L2.St, σ'.length = Ng.length → W cls d σ' H') (fun C fs dd μ' G' H' al' n' A' xr px σ' hl => ?_) σ Gt Ht alt hBt ((hσ.nx n1).nx nt) hAt Qt hQt
  exact hW C fs dd σ' _ μ' G' H' al' n' ⟨by rw [hl, List.length_replicate], fun i d ei => by
    rw [List.getElem?_replicate] at ei
    split at ei
    · cases ei
    · cases ei⟩ A' xr px
/-- a def's rule, its code object told -/
theorem fn_DDc {P : Program} {w : World} {mg : Str → Option Value} {base : Heap} {x qual : Str} {st : Stmt} {dvs : List V} {kws : List (Str × V)} {at_ : Str × Option Str} {fd : FuncData} {N ps : List Str} {k : Nat} {C : CT} {t : XK → TS} (F : FunD K x qual (defArgs st) (defBody st) (defScope st) dvs kws (He.fAd K at_) fd) (S : FnScope N ps (defScope st)) (len : ∀ ds μ P PX, C ds μ P PX → ds.length = ps.length) (hN : ps.length ≤ N.length)
    (body : ∀ (A : Around) (outer : List Env) (s : Shared) (H : Hp) (E : XK), Room k (A.deeper (envOfC qual (defScope st) s.heap.objs.size (He.fAd K at_) (.ref (He.codeOf K at_)))) → PSs (cxOf (L2.CX P w) P w K mg base N qual (defScope st) (He.fAd K at_) (.ref (He.codeOf K at_)) A outer s H E) (defBody st) (t E))
    (sem : ∀ ds μ P PX, C ds μ P PX → MuCl μ μ.length → clL ds μ.length = true → ∀ B E, XAg K B (RetX μ.length PX) E → DS K B (t E) (startD N ds) μ (fnE μ.length P)) : FnOk P w K mg base (L2.CX P w) (k + 1) (He.fAd K at_) fd ps (spD K C) := by
  obtain ⟨oc, od, dV, kV, doc, pm, an, cdv, ct, osl, rfl, lk, hcd, _, _⟩ := F.ex
  obtain ⟨c, rfl⟩ := He.codeIn_ref hcd
  have ec : He.codeOf K at_ = c := He.codeOf_eq lk rfl
  subst ec
  refine fn_of lk hcd S (fun vs H Q E h => ?_) fun A outer s H vs Q E hr h => ⟨t E, body A outer s H E hr, sem_of (fun ds μ P PX c => by rw [len ds μ P PX c]; exact hN) sem h⟩
  obtain ⟨G, al, ds, μ, P, PX, A, r, c, _⟩ := h
  rw [r.length]
  exact len ds μ P PX c
end
/-! ### the head -/
structure SaysT (tf : List He.Defn) (h : Heap) (K : PySem.W.Frag) : Prop where
  hd : ∀ p ∈ tf, PySem.W.codeHdIn K (He.cT K p).1 (He.cT K p).2 = true
  out : ∀ p ∈ tf, K.lookup (He.cT K p).2 = none
  empty : ∀ p ∈ tf, h.get? (He.cT K p).2 = some { cls := .none, data := .fields #[] }
def frY (n : Nat) (g : Addr → Option Obj) : PySem.W.Frag := He.frT g (He.asD g n ++ [cStatics])
def obsYG (n : Nat) (fa : List He.Fa) (fn : List He.DefD) (ex : List (PySem.W.Frag → Bool)) (tf : List He.Defn) (g : Addr → Option Obj) : AlX := (He.obsD fa fn (frY n g), exAll ex (frY n g) && He.tabsB g tf (frY n g))
theorem saysT_of {n : Nat} {tf : List He.Defn} {h : Heap} (e : He.tabsB h.get? tf (frY n h.get?) = true) : SaysT tf h (frY n h.get?) := by
  have key : ∀ p ∈ tf, PySem.W.codeHdIn (frY n h.get?) (He.cT (frY n h.get?) p).1 (He.cT (frY n h.get?) p).2 = true ∧ ∃ o, h.get? (He.cT (frY n h.get?) p).2 = some o ∧ He.emptyTab o = true := fun p hp => by
    obtain ⟨h1, h2⟩ := He.ba (List.all_eq_true.mp e p hp)
    refine ⟨h1, ?_⟩
    split at h2
    · rename_i o eo
      exact ⟨o, eo, h2⟩
    · cases h2
  exact ⟨fun p hp => (key p hp).1, fun p hp => let ⟨_, o, e1, e2⟩ := key p hp; He.frT_none e1 e2, fun p hp => let ⟨_, o, e1, e2⟩ := key p hp; e1.trans (congrArg some (He.emptyTab_eq e2))⟩
def hookY (n : Nat) (fa : List He.Fa) (fn : List He.DefD) (ex : List (PySem.W.Frag → Bool)) (tf : List He.Defn) : PySem.W.Hook where
  α := AlX
  obs := fun s => obsYG n fa fn ex tf s.heap.get?
  val := fun _ => (He.valD fn, true)
  says := fun _ h => ∃ K : PySem.W.Frag, K.In h ∧ He.SaysD fa fn K ∧ exAll ex K = true ∧ SaysT tf h K
  of := fun _ _ e => ⟨_, He.frT_in, congrArg Prod.fst e, (He.ba (congrArg Prod.snd e)).1, saysT_of (He.ba (congrArg Prod.snd e)).2⟩
  keeps := fun _ _ _ ⟨K, hK, c, d, e⟩ k => ⟨K, PySem.W.Frag.In.keeps hK k, c, d, e.hd, e.out, fun p hp => k _ _ (e.empty p hp)⟩
theorem obsYG_eq {n : Nat} {fa : List He.Fa} {fn : List He.DefD} {ex : List (PySem.W.Frag → Bool)} {tf : List He.Defn} {g : Addr → Option Obj} {s : Shared} (h : ∀ a, g a = s.heap.get? a) : obsYG n fa fn ex tf g = (hookY n fa fn ex tf).obs s := by
  have e : g = s.heap.get? := funext h
  rw [e] <;> rfl
/-! ### the end -/
/-- the tables of some makers -/
def tabsM (K : PySem.W.Frag) (tq : List (He.Defn × Str)) : Mu := tq.map fun z => .tab (He.cT K z.1).2 z.2
theorem law_spT {K : PySem.W.Frag} {H : Hp} {a : Addr} {ns : List Int} {C : CT} {tq : List (He.Defn × Str)} (hn : (tq.map fun z => (He.cT K z.1).2).Nodup) (hT : ∀ z ∈ tq, H (He.cT K z.1).2 = some (.tbl #[])) (hK : ∀ z ∈ tq, K.lookup (He.cT K z.1).2 = none) (hS : SqL K H a (ns.map V.int)) (h : C [.rdl (ns.map D.int)] (tabsM K tq) (fun d _ => d = .bl true) (fun _ _ _ => False)) : spD K C [.ref a] H (fun v _ => v = .bl true) (fun _ _ _ => False) := by
  let al := tq.map fun z => (He.cT K z.1).2
  let G : Hp := fun b => if b ∈ al then none else H b
  have mem : ∀ b ∈ al, H b = some (.tbl #[]) := fun b hb => by
    obtain ⟨z, hz, rfl⟩ := List.mem_map.mp hb
    exact hT z hz
  have gS : SqL K G a (ns.map V.int) := by
    have na : ∀ o : HO, H a = some o → (∀ ps, o ≠ .tbl ps) → G a = some o := fun o e ne => by
      show (if a ∈ al then none else H a) = some o
      rw [if_neg (fun m => by rw [mem a m] at e; exact ne _ (Option.some.inj e).symm)]
      exact e
    rcases hS with (h | ⟨o, h⟩) | h
    · exact .inl (.inl (na _ h fun ps z => by cases z))
    · exact .inl (.inr ⟨o, na _ h fun ps z => by cases z⟩)
    · exact .inr h
  refine ⟨G, al, [.rdl (ns.map D.int)], tabsM K tq, _, _, ⟨fun b o e => ?_, hn, by simp [al, tabsM], fun b hb => by rw [mem b hb]; simp, fun k b o e1 e2 => ?_⟩, .cons (.rdl gS (Rps.of_ints ns)) .nil, h, ?_, ?_⟩
  · have e' : (if b ∈ al then none else H b) = some o := e
    split at e'
    · cases e'
    · exact e'
  · simp only [al, tabsM, List.getElem?_map] at e1 e2
    cases q : tq[k]? with
    | none => rw [q] at e1; cases e1
    | some z =>
      rw [q] at e1 e2
      cases e1; cases e2
      have hb : (He.cT K z.1).2 ∈ al := List.mem_map.mpr ⟨z, List.mem_of_getElem? q, rfl⟩
      exact ⟨if_pos hb, rfl, #[], mem _ hb, True.intro, fun pos cv hc => by
        have z' : codeAmong pos [] = some cv := hc
        simp [codeAmong] at z'⟩
  · intro v d μ' G' H' al' _ _ r p
    subst p
    cases r
    rfl
  · intro C fs dd μ' G' H' al' _ _ _ p
    exact p
end Dl

set_option Elab.async false
set_option linter.all false
set_option maxRecDepth 100000
namespace Dl
open PySem L2 PyProof.Rows
set_option Elab.async false
set_option linter.all false
set_option maxRecDepth 100000
open PySem L2 PyProof.Rows
/-! ### kinds, books: contracts -/
mutual
/-- data through and through -/
def D.dat : D → Bool
  | .non => true
  | .bl _ => true
  | .int _ => true
  | .str _ => true
  | .tup xs => datL xs
  | .lst xs => datL xs
  | .dct _ => true
  | _ => false
def datL : List D → Bool
  | [] => true
  | x :: xs => D.dat x && datL xs
end
theorem datL_iff {xs : List D} : datL xs = true ↔ ∀ x ∈ xs, x.dat = true := by
  induction xs with
  | nil => simp [datL]
  | cons x xs ih => simp [datL, ih]
/-- isinstance of data and a built-in type -/
def isTy : D → String → Bool
  | .bl _, n => n == "bool" || n == "int"
  | .int _, n => n == "int"
  | .str _, n => n == "str"
  | .tup _, n => n == "tuple"
  | .lst _, n => n == "list"
  | .dct _, n => n == "dict"
  | _, _ => false
theorem rc_isiD {K : PySem.W.Frag} {μ : Mu} {P : D → Mu → Prop} {x : D} {n : String} (hd : x.dat = true) (hn : n = "int" ∨ n = "bool" ∨ n = "str" ∨ n = "list" ∨ n = "tuple") (h : P (.bl (isTy x n)) μ) : RC K (rIsi K) [x, .ty n] μ P := by
  cases x <;> (try (simp [D.dat] at hd; done)) <;> rcases hn with rfl | rfl | rfl | rfl | rfl <;> exact rc_isiB rfl (by rfl) h
theorem isTy_int {x : D} (h : isTy x "int" = true) (h2 : isTy x "bool" = false) : ∃ i, x = .int i := by
  cases x <;> simp_all [isTy]
theorem isTy_bool {x : D} (h : isTy x "bool" = true) : ∃ i, x = .bl i := by
  cases x <;> simp_all [isTy]
theorem isTy_list {x : D} (h : isTy x "list" = true) : ∃ i, x = .lst i := by
  cases x <;> simp_all [isTy]
theorem isTy_tuple {x : D} (h : isTy x "tuple" = true) : ∃ i, x = .tup i := by
  cases x <;> simp_all [isTy]
theorem isTy_str {x : D} (h : isTy x "str" = true) : ∃ i, x = .str i := by
  cases x <;> simp_all [isTy]
def isNum : D → Int → Int → Bool
  | .int i, lo, hi => decide (lo ≤ i) && decide (i ≤ hi)
  | _, _, _ => false
def c_is_number (K : PySem.W.Frag) : CT := fun ds μ P PX => ∃ x lo hi, ds = [x, .int lo, .int hi] ∧ x.dat = true ∧ P (.bl (isNum x lo hi)) μ
def isSec : D → Bool
  | .tup [x, .bl _] => isNum x 1 1000000000000
  | _ => false
def c_is_section (K : PySem.W.Frag) : CT := fun ds μ P PX => ∃ x, ds = [x] ∧ x.dat = true ∧ P (.bl (isSec x)) μ
def secTied : D → Bool
  | .tup [_, .bl b] => b
  | _ => true
def areSecs : D → Bool
  | .lst xs => decide (1 ≤ xs.length) && decide (xs.length ≤ 60) && xs.all isSec && (match xs.getLast? with
    | some x => !secTied x
    | none => false)
  | _ => false
def c_are_sections (K : PySem.W.Frag) : CT := fun ds μ P PX => ∃ x d, ds = [x] ∧ Fz μ x d ∧ d.dat = true ∧ P (.bl (areSecs d)) μ
abbrev cBook (K : PySem.W.Frag) : Addr := He.ga K "Book"
def c_Book_init (K : PySem.W.Frag) : CT := fun ds μ P PX => ∃ k x d, ds = [.own k, x] ∧ μ[k]? = some (.ins (cBook K) []) ∧ Fz μ x d ∧ d.dat = true ∧
  (areSecs d = true → ∀ xs, d = .lst xs → P .non (μ.set k (.ins (cBook K) [("parts", .lst xs)]))) ∧ (areSecs d = false → PX (He.ga K "BadBook") [] μ)
/-- a section: how long, whether tied -/
abbrev Sec := Int × Bool
def secD (s : Sec) : D := .tup [.int s.1, .bl s.2]
def secsD (ss : List Sec) : D := .lst (ss.map secD)
def bookD (K : PySem.W.Frag) (ss : List Sec) : D := .obj (cBook K) [("parts", secsD ss)]
def pairD (p : Int × Int) : D := .tup [.int p.1, .int p.2]
def pairsD (ps : List (Int × Int)) : D := .lst (ps.map pairD)
structure Good (ss : List Sec) : Prop where
  pos : 0 < ss.length
  most : ss.length ≤ 60
  long : ∀ s ∈ ss, 1 ≤ s.1 ∧ s.1 ≤ 1000000000000
  last : ∀ s, ss.getLast? = some s → s.2 = false
structure KBook (K : PySem.W.Frag) : Prop where
  cl : Cls K (cBook K)
  parts : NoAttr K (cBook K) "parts"
def c_Book_sections (K : PySem.W.Frag) : CT := fun ds μ P PX => ∃ ss, ds = [bookD K ss] ∧ Fresh (ss.map secD) μ P
/-- the blocks: first, end -/
def blocksFrom : Int → Int → List Sec → List (Int × Int)
  | _, _, [] => []
  | first, at_, s :: r => if s.2 = true then blocksFrom first (at_ + 1) r else (first, at_ + 1) :: blocksFrom (at_ + 1) (at_ + 1) r
def blocks (ss : List Sec) : List (Int × Int) := blocksFrom 0 0 ss
def c_Book_blocks (K : PySem.W.Frag) : CT := fun ds μ P PX => ∃ ss, ds = [bookD K ss] ∧ ss.length ≤ 60 ∧ Fresh ((blocks ss).map pairD) μ P
def t_is_number (K : PySem.W.Frag) (E : XK) : TS :=
    (tRet (tAndV (tCB (rIsi K) (tCons (tVar 0) (tCons (tC (.ty "int")) tNil))) (tAndV (tNotV (tCB (rIsi K) (tCons (tVar 0) (tCons (tC (.ty "bool")) tNil)))) (tChain (rI0 fun i j => .bl (decide (i ≤ j))) (rI0 fun i j => .bl (decide (i ≤ j))) (tVar 1) (tVar 0) (tVar 2)))))

def t_is_section (K : PySem.W.Frag) (E : XK) : TS :=
    (tSeq (tIfS (tOr (tNot (tTruth K (tCB (rIsi K) (tCons (tVar 0) (tCons (tC (.ty "tuple")) tNil))))) (tOr (tTest (tOp (rNeD K) (tCB (rLen K) (tCons (tVar 0) tNil)) (tC (.int 2)))) (tNot (tTruth K (tCB (rIsi K) (tCons (tOp (rIx K) (tVar 0) (tC (.int 1))) (tCons (tC (.ty "bool")) tNil))))))) (tRet (tC (.bl false))) tNext)
      (tRet (tCall (spD K (c_is_number K)) [] E (tCons (tOp (rIx K) (tVar 0) (tC (.int 0))) (tCons (tC (.int 1)) (tCons (tC (.int 1000000000000)) tNil))))))

def t_are_sections (K : PySem.W.Frag) (E : XK) : TS :=
    (tSeq (tIfS (tOr (tNot (tTruth K (tCB (rIsi K) (tCons (tVar 0) (tCons (tC (.ty "list")) tNil))))) (tNot (tTest (tChain (rI0 fun i j => .bl (decide (i ≤ j))) (rI0 fun i j => .bl (decide (i ≤ j))) (tC (.int 1)) (tCB (rLen K) (tCons (tVar 0) tNil)) (tC (.int 60)))))) (tRet (tC (.bl false))) tNext)
      (tRet (tAndV (tCB (rAll K) (tCons (tLc (iAny K (tVar 0)) (gName 1) tYes (tCall (spD K (c_is_section K)) [] E0 (tCons (tVar 1) tNil)) [1]) tNil)) (tNotV (tOp (rIx K) (tOp (rIx K) (tVar 0) (tUn (rU fun i => .int (-i)) (tC (.int 1)))) (tC (.int 1)))))))

def t_Book_init (K : PySem.W.Frag) (E : XK) : TS :=
    (tSeq (tIfS (tNot (tTruth K (tCall (spD K (c_are_sections K)) [] E (tCons (tVar 1) tNil)))) (tRaise0 (He.ga K "BadBook") E) tNext)
      (sFld K (tVar 0) (tCB (rListOf K) (tCons (tVar 1) tNil)) "parts"))

def t_Book_sections (K : PySem.W.Frag) (E : XK) : TS :=
    (tRet (tCB (rListOf K) (tCons (tFld K (tVar 0) "parts") tNil)))

def t_Book_blocks (K : PySem.W.Frag) (E : XK) : TS :=
    (tSeq (tAsg (tLst tNil) (gName 1))
      (tSeq (tAsg (tC (.int 0)) (gName 2))
      (tSeq (tFor (iEnum K (tCons (tFld K (tVar 0) "parts") tNil)) (gTup K 2 (gCons (gName 3) (gCons (gName 4) gNil))) (tIfS (tNot (tTruth K (tOp (rIx K) (tVar 4) (tC (.int 1))))) (tSeq (tDrop (tBM K "list" rAppend (tVar 1) (tCons (tTup (tCons (tVar 2) (tCons (tOp (rAddA K) (tVar 3) (tC (.int 1))) tNil))) tNil)))
      (tAsg (tOp (rAddA K) (tVar 3) (tC (.int 1))) (gName 2))) tNext))
      (tRet (tVar 1)))))

local macro_rules | `(tactic| wtm_at "dS") => `(tactic| with_reducible (show DS _ _ _ _ _ _; first
  | refine q_set ?_
  | refine q_when ?_
  | refine ds_ret ?_
  | refine ds_set ?_
  | refine q_drop ?_
  | refine q_if ?_
  | refine q_asg ?_
  | refine q_par ?_
  | refine q_fld ?_
  | refine ds_drop ?_
  | refine s_when ?_
  | refine ds_if ?_
  | refine ds_asg ?_
  | refine ds_next ?_
  | refine ds_par ?_
  | refine ds_fld ?_
  | refine ds_retN ?_))
local macro_rules | `(tactic| wtm_at "dE") => `(tactic| with_reducible (show DE _ _ _ _ _ _; first
  | refine de_op ?_
  | refine de_int ?_
  | refine de_cb ?_
  | refine de_bl ?_
  | refine de_non ?_
  | refine de_str ?_
  | refine de_ty ?_
  | refine de_loc ?_
  | refine de_un ?_
  | refine de_andV ?_
  | refine de_orV ?_
  | refine de_notV ?_
  | refine de_if ?_
  | refine de_chain ?_
  | refine de_chain3 ?_
  | refine de_isN ?_
  | refine de_notN ?_
  | refine de_sl ?_
  | refine de_bm ?_
  | refine de_bm0 ?_))
local macro_rules | `(tactic| wtm_at "dT") => `(tactic| with_reducible (show DT _ _ _ _ _ _; first
  | refine dt_test ?_
  | refine dt_truth ?_
  | refine dt_and ?_
  | refine dt_or ?_
  | refine dt_not ?_
  | refine dt_B ?_
  | refine dt_yes ?_))
local macro_rules | `(tactic| wtm_at "dO") => `(tactic| with_reducible (first
  | refine da_cons ?_
  | refine da_nil ?_
  | refine ro_i ?_
  | refine ro_b ?_
  | refine ro_addI ?_
  | refine ro_eqI ?_
  | refine ro_neI ?_
  | refine ru_i ?_
  | refine ro_ip ?_
  | refine rc_max2' ?_
  | refine rc_min2' ?_
  | refine ro_eqB ?_
  | refine ro_neB ?_
  | refine ro_isB ?_
  | refine ro_notB ?_
  | refine do_no ?_
  | refine do_part ?_
  | refine dg_name ?_
  | refine dgs_cons ?_
  | refine dgs_nil ?_
  | refine dg_sub ?_
  | refine di_range1 ?_
  | refine di_range2 ?_
  | refine di_any ?_
  | refine di_enum' ?_))
local macro_rules | `(tactic| wtm_at "v") => `(tactic| ((with_reducible show DE _ _ (tVar _) _ _ _); refine de_var (by first | rfl | assumption) ?_))
local macro_rules | `(tactic| wtm_at "h") => `(tactic| with_reducible refine ⟨_, rfl, ?_⟩)
local macro_rules | `(tactic| wtm_at "b") => `(tactic| ((first | refine ⟨_, rfl, br ?_ ?_⟩ | refine ⟨_, rfl, br' ?_ ?_⟩ | refine br ?_ ?_ | refine br' ?_ ?_ | fail) <;> intro hb <;> (try contradiction) <;> (try (simp only [decide_eq_true_eq, decide_eq_false_iff_not, Bool.not_eq_true', Bool.not_eq_false', Bool.not_true, Bool.not_false, Bool.not_eq_eq_eq_not, reduceCtorEq, List.length_map] at hb)) <;> (try (exfalso; omega; done))))
local macro_rules | `(tactic| wtm_at "i") => `(tactic| first | refine rc_isiD (by assumption) (by decide) ?_ | refine rc_isiB rfl (by first | rfl | decide +kernel) ?_)
local macro_rules | `(tactic| wtm_at "r") => `(tactic| refine ret_same0 (Nat.le_refl _) (by assumption) (by first | rfl | simp [D.cl, clL]) ?_)
local macro_rules | `(tactic| wtm_at "g") => `(tactic| repeat' first | wtm_at "v" | wtm_at "dE" | wtm_at "dO" | wtm_at "dT" | wtm_at "dS" | fail)
local macro_rules | `(tactic| wtm_at "a") => `(tactic| repeat' first | wtm_at "v" | wtm_at "dE" | wtm_at "dO" | wtm_at "dT" | wtm_at "dS" | wtm_at "i" | wtm_at "l" | wtm_at "x" | wtm_at "h" | wtm_at "b" | fail)
local macro_rules | `(tactic| wtm_at "l") => `(tactic| first | refine rc_lenL (.lst _) ?_ | refine rc_lenT' (.tup _) ?_ | refine rc_lenL (.rdl _) ?_ | refine rc_lenL (.own (by first | assumption | exact mu_last)) ?_)
local macro_rules | `(tactic| wtm_at "x") => `(tactic| refine ro_ixT (.tup _) rfl ?_)
local macro_rules | `(tactic| wtm_at "ow") => `(tactic| first | assumption | exact mu_last | exact mu_old (by assumption) | (simp; done) | fail)
local macro_rules | `(tactic| wtm_at "m") => `(tactic| refine ⟨ty_list (.own (by wtm_at "ow")), ?_⟩)
local macro_rules | `(tactic| wtm_at "e") => `(tactic| repeat' first | wtm_at "v" | wtm_at "dE" | wtm_at "dO" | wtm_at "dT" | wtm_at "i" | wtm_at "l" | wtm_at "x" | wtm_at "h" | wtm_at "b" | fail)
section
variable {K : PySem.W.Frag}
theorem d_is_number : ∀ ds μ P PX, c_is_number K ds μ P PX → MuCl μ μ.length → clL ds μ.length = true → ∀ B E, XAg K B (RetX μ.length PX) E → DS K B (t_is_number K E) (startD ["thing", "least", "most"] ds) μ (fnE μ.length P) := by
  intro ds μ P PX h hm hc B E hE
  obtain ⟨x, lo, hi, rfl, hd, h⟩ := h
  show DS K B _ [some x, some (.int lo), some (.int hi)] μ _
  unfold t_is_number
  wtm_at "a"
  · obtain ⟨i, rfl⟩ := isTy_int ‹_› ‹_›
    wtm_at "a" <;> wtm_at "r" <;> simp_all [isNum]
  · wtm_at "r"
    cases x <;> simp_all [isNum, isTy]
  · wtm_at "r"
    cases x <;> simp_all [isNum, isTy]
theorem d_is_section : ∀ ds μ P PX, c_is_section K ds μ P PX → MuCl μ μ.length → clL ds μ.length = true → ∀ B E, XAg K B (RetX μ.length PX) E → DS K B (t_is_section K E) (startD ["thing"] ds) μ (fnE μ.length P) := by
  intro ds μ P PX h hm hc B E hE
  obtain ⟨x, rfl, hd, h⟩ := h
  show DS K B _ [some x] μ _
  unfold t_is_section
  wtm_at "a"
  · obtain ⟨xs, rfl⟩ := isTy_tuple ‹_›
    wtm_at "a"
    · match xs, ‹(xs.length : Int) = 2› with
      | [a, b], _ =>
        have hd' : a.dat = true ∧ b.dat = true := by simpa [D.dat, datL] using hd
        obtain ⟨hd1, hd2⟩ := hd'
        wtm_at "a"
        · wtm_at "r"
          have : isSec (.tup [a, b]) = false := by cases b <;> simp_all [isSec, isTy]
          rw [this] at h
          exact h
        · obtain ⟨b, rfl⟩ := isTy_bool ‹_›
          refine de_call (PX := RetX μ.length PX) hE ?_
          wtm_at "a"
          refine ⟨a, 1, 1000000000000, rfl, hd1, ?_⟩
          wtm_at "r"
          exact h
      | [], q => exact absurd q (by decide)
      | [_], q => exact absurd q (by simp)
      | _ :: _ :: _ :: _, q => exact absurd q (by simp only [List.length_cons]; omega)
    · -- of another length
      wtm_at "r"
      have : isSec (.tup xs) = false := by
        unfold isSec
        split
        · rename_i e
          cases e
          simp at *
        · rfl
      rw [this] at h
      exact h
  · wtm_at "r"
    have : isSec x = false := by cases x <;> simp_all [isSec, isTy]
    rw [this] at h
    exact h
theorem atI_neg1 {α : Type} {xs : List α} {z : α} (h : xs.getLast? = some z) : atI xs (-1) = some z := by
  obtain ⟨ys, rfl⟩ := List.getLast?_eq_some_iff.mp h
  exact atI_last ys z
theorem d_are_sections : ∀ ds μ P PX, c_are_sections K ds μ P PX → MuCl μ μ.length → clL ds μ.length = true → ∀ B E, XAg K B (RetX μ.length PX) E → DS K B (t_are_sections K E) (startD ["thing", "one"] ds) μ (fnE μ.length P) := by
  intro ds μ P PX h hm hc B E hE
  obtain ⟨x, d, rfl, fz, hd, h⟩ := h
  show DS K B _ [some x, none] μ _
  -- a list, frozen or not
  have key : ∀ xs, d = .lst xs → tyD μ x = some "list" → Ls μ x xs → DS K B (t_are_sections K E) [some x, none] μ (fnE μ.length P) := by
    rintro xs rfl ht hl
    have hdx : ∀ y ∈ xs, y.dat = true := by
      unfold D.dat at hd
      exact datL_iff.mp hd
    obtain ⟨S, wk⟩ := hl.wk
    unfold t_are_sections
    wtm_at "g"
    refine rc_isiB ht (by rfl) ?_
    wtm_at "a"
    refine rc_lenL hl ?_
    have hf : ¬ (1 ≤ xs.length ∧ xs.length ≤ 60) → Ret μ.length P (.bl false) μ := fun hn => by
      wtm_at "r"
      have : areSecs (.lst xs) = false := by
        simp [areSecs]
        omega
      rw [this] at h
      exact h
    wtm_at "a"
    · exact hf (by omega)
    · refine lc_map (fun d => .bl (isSec d)) (gw_name (by simp)) ?_
      wtm_at "g"
      refine ⟨xs, S, wk, wk.now, by omega, fun i d hd' => ?_, fun out ho => ?_⟩
      · wtm_at "g"
        refine ⟨rfl, de_call XAg.none ?_⟩
        wtm_at "g"
        exact ⟨d, rfl, hdx d (List.mem_of_getElem? hd'), rfl, rfl⟩
      · wtm_at "g"
        refine rc_all (bs := xs.map isSec) (by rw [← ho, List.map_map]; exact .lst _) ?_
        have hlen : 0 < xs.length := by omega
        obtain ⟨z, hz⟩ : ∃ z, xs.getLast? = some z := by
          cases q : xs.getLast? with
          | none => rw [List.getLast?_eq_none_iff] at q; subst q; simp at hlen
          | some z => exact ⟨z, rfl⟩
        have hz1 := atI_neg1 hz
        wtm_at "a"
        · rename_i hall
          have hsec : isSec z = true := by
            rw [List.all_eq_true] at hall
            have := hall (isSec z) (List.mem_map.mpr ⟨z, List.mem_of_getLast? hz, rfl⟩)
            simpa using this
          obtain ⟨n, b, rfl⟩ : ∃ n b, z = .tup [.int n, .bl b] := by
            unfold isSec at hsec
            split at hsec
            · rename_i y b
              cases y <;> simp [isNum] at hsec
              exact ⟨_, _, rfl⟩
            · cases hsec
          refine ro_ixL hl hz1 ?_
          wtm_at "a"
          wtm_at "r"
          have : areSecs (.lst xs) = !b := by
            have h1 : xs.all isSec = true := by
              rw [List.all_eq_true]
              intro y hy
              rw [List.all_eq_true] at hall
              have := hall (isSec y) (List.mem_map.mpr ⟨y, hy, rfl⟩)
              simpa using this
            simp [areSecs, h1, hz, secTied]
            omega
          rw [this] at h
          exact h
        · rename_i hall
          wtm_at "r"
          have : areSecs (.lst xs) = false := by
            have h1 : xs.all isSec = false := by
              rw [← hall, List.all_map]
              rfl
            simp only [areSecs, h1, Bool.and_false, Bool.false_and]
          rw [this] at h
          exact h
    · exact hf (by omega)
  cases fz with
  | id =>
    by_cases hl : isTy x "list" = true
    · obtain ⟨xs, rfl⟩ := isTy_list hl
      exact key xs rfl rfl (.lst xs)
    · unfold t_are_sections
      wtm_at "a"
      · exact absurd ‹_› hl
      · wtm_at "r"
        have : areSecs x = false := by cases x <;> simp_all [areSecs, isTy]
        rw [this] at h
        exact h
  | own hk => exact key _ rfl (by simp [tyD, hk]) (.own hk)
theorem d_Book_init (kb : KBook K) : ∀ ds μ P PX, c_Book_init K ds μ P PX → MuCl μ μ.length → clL ds μ.length = true → ∀ B E, XAg K B (RetX μ.length PX) E → DS K B (t_Book_init K E) (startD ["self", "sections"] ds) μ (fnE μ.length P) := by
  intro ds μ P PX h hm hc B E hE
  obtain ⟨k, x, d, rfl, hk, fz, hd, h1, h2⟩ := h
  show DS K B _ [some (.own k), some x] μ _
  unfold t_Book_init
  wtm_at "g"
  refine de_call (PX := RetX μ.length PX) hE ?_
  wtm_at "g"
  refine ⟨x, d, rfl, fz, hd, ?_⟩
  wtm_at "a"
  · -- raise
    exact ds_raise0 hE (retx_same0 hm rfl (h2 ‹_›))
  · rename_i hs
    obtain ⟨xs, rfl⟩ : ∃ xs, d = .lst xs := by
      cases d <;> simp [areSecs] at hs
      exact ⟨_, rfl⟩
    have hl : Ls μ x xs := by
      cases fz with
      | id => exact .lst xs
      | own h => exact .own h
    refine rc_list hl ?_
    wtm_at "g"
    refine ⟨k, cBook K, [], rfl, hk, kb.cl, kb.parts, by decide, ?_⟩
    have hcl : clL xs μ.length = true := by
      cases fz with
      | id => simp [clL, D.cl] at hc; exact hc.2
      | own h => exact hm.get h
    refine ⟨_, [], by rw [List.append_nil]; rfl, by simp, ?_, rfl, h1 hs xs rfl⟩
    rw [List.length_set]
    exact hm.set (by simp [MO.cl, clF, D.cl, hcl])
theorem d_Book_sections (kb : KBook K) : ∀ ds μ P PX, c_Book_sections K ds μ P PX → MuCl μ μ.length → clL ds μ.length = true → ∀ B E, XAg K B (RetX μ.length PX) E → DS K B (t_Book_sections K E) (startD ["self"] ds) μ (fnE μ.length P) := by
  intro ds μ P PX h hm hc B E hE
  obtain ⟨ss, rfl, h⟩ := h
  show DS K B _ [some (bookD K ss)] μ _
  unfold t_Book_sections
  have hcl : ∀ n, clL (ss.map secD) n = true := fun n => clL_map fun x _ => by simp [secD, D.cl, clL]
  wtm_at "g"
  refine de_fld ?_
  wtm_at "g"
  refine ⟨cBook K, _, _, .inl rfl, kb.cl, kb.parts, rfl, ?_⟩
  wtm_at "g"
  rcases h with h | h
  · refine rc_list (.lst _) ?_
    exact ret_same0 (Nat.le_refl _) hm (by simp [D.cl, hcl]) h
  · refine rc_listO (.lst _) ?_
    exact ret_same0 (by simp) (hm.app (by simp [MO.cl, hcl])) (by simp [D.cl]) h
theorem secs_get {ss : List Sec} {i : Nat} {d : D} (h : (ss.map secD)[i]? = some d) : ∃ s, ss[i]? = some s ∧ d = secD s := by
  rw [List.getElem?_map] at h
  cases q : ss[i]? with
  | none => rw [q] at h; cases h
  | some s => rw [q] at h; exact ⟨s, rfl, (Option.some.inj h).symm⟩
theorem clL_pairs (ps : List (Int × Int)) (n : Nat) : clL (ps.map pairD) n = true := clL_map fun x _ => by simp [pairD, D.cl, clL]
theorem blocksFrom_len : ∀ (ss : List Sec) (a b : Int), (blocksFrom a b ss).length ≤ ss.length
  | [], _, _ => by simp [blocksFrom]
  | s :: r, a, b => by
    unfold blocksFrom
    split
    · have := blocksFrom_len r a (b + 1); simp; omega
    · have := blocksFrom_len r (b + 1) (b + 1); simp; omega
theorem d_Book_blocks (kb : KBook K) : ∀ ds μ P PX, c_Book_blocks K ds μ P PX → MuCl μ μ.length → clL ds μ.length = true → ∀ B E, XAg K B (RetX μ.length PX) E → DS K B (t_Book_blocks K E) (startD ["self", "found", "first", "at", "one"] ds) μ (fnE μ.length P) := by
  intro ds μ P PX h hm hc B E hE
  obtain ⟨ss, rfl, hl, h⟩ := h
  show DS K B _ [some (bookD K ss), none, none, none, none] μ _
  unfold t_Book_blocks
  wtm_at "g"
  refine de_lstO ?_
  wtm_at "g"
  refine ⟨by simp, ?_⟩
  wtm_at "g"
  refine q_for ?_
  wtm_at "g"
  refine de_fld ?_
  wtm_at "g"
  refine ⟨cBook K, _, _, .inl rfl, kb.cl, kb.parts, rfl, ?_⟩
  wtm_at "g"
  refine ⟨_, _, _, rfl, .lst _, .lst _, fun i ρ μ' => ∃ fnd first y3 y4, ρ = [some (bookD K ss), some (.own μ.length), some (.int first), y3, y4] ∧ μ' = μ ++ [.lst (fnd.map pairD)] ∧ fnd ++ blocksFrom first i (ss.drop i) = blocks ss ∧ fnd.length ≤ i,
    ⟨[], 0, none, none, rfl, rfl, rfl, by simp⟩, fun _ _ _ _ _ => trivial, ?_, ?_⟩
  · rintro i d ρ μ' hd ⟨fnd, first, y3, y4, rfl, rfl, he, hfl⟩
    obtain ⟨x, hx, rfl⟩ := enumD_some hd
    obtain ⟨s, hs, rfl⟩ := secs_get hx
    have hi : i < ss.length := (List.getElem?_eq_some_iff.mp hs).1
    have hdrop : ss.drop i = s :: ss.drop (i + 1) := by
      rw [List.drop_eq_getElem_cons hi]
      rw [List.getElem?_eq_getElem hi] at hs
      rw [Option.some.inj hs]
    rw [hdrop] at he
    refine dg_tup rfl ?_
    unfold secD
    wtm_at "a"
    · rename_i hb
      simp only [hb, blocksFrom] at he
      wtm_at "m"
      wtm_at "g"
      refine de_tup ?_
      wtm_at "g"
      refine ⟨by simp, ?_⟩
      wtm_at "g"
      refine rm_app mu_last (by simp; omega) ?_
      rw [set_last]
      wtm_at "g"
      refine ⟨fnd ++ [(first, (i : Int) + 1)], (i : Int) + 1, _, _, rfl, by simp [pairD], ?_, by simp; omega⟩
      rw [List.append_assoc]
      simpa using he
    · rename_i hb
      simp only [hb, blocksFrom] at he
      exact ⟨fnd, first, _, _, rfl, rfl, by simpa using he, by omega⟩
  · rintro ρ μ' ⟨fnd, first, y3, y4, rfl, rfl, he, hfl⟩
    rw [enumD_length, List.length_map, List.drop_length] at he
    simp only [blocksFrom, List.append_nil] at he
    subst he
    rcases h with h | h
    · refine ds_ret (de_frz ?_)
      wtm_at "g"
      refine ⟨_, _, rfl, mu_last, ?_⟩
      rw [set_last]
      exact ret_same (Nat.le_refl _) hm (by simp [D.cl, clL_pairs]) h
    · wtm_at "g"
      exact ret_same0 (by simp) (hm.app (by simp [MO.cl, clL_pairs])) (by simp [D.cl]) h
end
end Dl

set_option Elab.async false
set_option linter.all false
set_option maxRecDepth 100000
namespace Dl
open PySem L2 PyProof.Rows
def c_Book_many (K : PySem.W.Frag) : CT := fun ds μ P PX => ∃ ss : List Sec, ds = [bookD K ss] ∧ P (.int ss.length) μ
/-- how long the sections from f up to e are -/
def longOf (ss : List Sec) (f e : Int) : Int := (((ss.drop f.toNat).take (e - f).toNat).map (·.1)).sum
def c_Book_long (K : PySem.W.Frag) : CT := fun ds μ P PX => ∃ (ss : List Sec) (f e : Int), ds = [bookD K ss, .int f, .int e] ∧ ss.length ≤ 60 ∧ (0 ≤ f ∧ f ≤ e ∧ e ≤ ss.length → P (.int (longOf ss f e)) μ) ∧ (¬ (0 ≤ f ∧ f ≤ e ∧ e ≤ ss.length) → PX (He.ga K "BadNumber") [] μ)
def endsOf (ss : List Sec) : List Int := (blocks ss).map (·.2)
/-- a cut of whole blocks through the book, from a on -/
def cutFrom (ss : List Sec) : Int → List (Int × Int) → Bool
  | a, [] => decide (a = ss.length)
  | a, p :: r => if p.1 ≠ a ∨ p.2 ≤ a ∨ p.2 ∉ endsOf ss then false else cutFrom ss p.2 r
def c_is_cut (K : PySem.W.Frag) : CT := fun ds μ P PX => ∃ (ss : List Sec) (x : D) (ps : List (Int × Int)), ds = [bookD K ss, x] ∧ Ls μ x (ps.map pairD) ∧ ss.length ≤ 60 ∧ P (.bl (cutFrom ss 0 ps)) μ
def t_Book_many (K : PySem.W.Frag) (E : XK) : TS :=
    (tRet (tCB (rLen K) (tCons (tFld K (tVar 0) "parts") tNil)))

def t_Book_long (K : PySem.W.Frag) (E : XK) : TS :=
    (tSeq (tIfS (tNot (tTest (tChain3 (rI0 fun i j => .bl (decide (i ≤ j))) (rI0 fun i j => .bl (decide (i ≤ j))) (rI0 fun i j => .bl (decide (i ≤ j))) (tC (.int 0)) (tVar 1) (tVar 2) (tCB (rLen K) (tCons (tFld K (tVar 0) "parts") tNil))))) (tRaise0 (He.ga K "BadNumber") E) tNext)
      (tRet (tCB (rSum K) (tCons (tLc (iAny K (tSl (rSlA K) (tFld K (tVar 0) "parts") (tPart (tVar 1)) (tPart (tVar 2)))) (gName 3) tYes (tOp (rIx K) (tVar 3) (tC (.int 0))) [3]) tNil))))

def t_is_cut (K : PySem.W.Frag) (E : XK) : TS :=
    (tSeq (tAsg (tLc (iAny K (tMeth (He.ga K "Book") "blocks" (spD K (c_Book_blocks K)) [] E (tVar 0) tNil)) (gTup K 2 (gCons (gName 3) (gCons (gName 4) gNil))) tYes (tVar 4) [3, 4]) (gName 2))
      (tSeq (tAsg (tC (.int 0)) (gName 5))
      (tSeq (tFor (iAny K (tVar 1)) (gTup K 2 (gCons (gName 3) (gCons (gName 4) gNil))) (tSeq (tIfS (tOr (tTest (tOp (rNeD K) (tVar 3) (tVar 5))) (tOr (tTest (tOp (rI0 fun i j => .bl (decide (i ≤ j))) (tVar 4) (tVar 5))) (tTest (tOp (rNotInA K) (tVar 4) (tVar 2))))) (tRet (tC (.bl false))) tNext)
      (tAsg (tVar 4) (gName 5))))
      (tRet (tOp (rEqD K) (tVar 5) (tMeth (He.ga K "Book") "many" (spD K (c_Book_many K)) [] E (tVar 0) tNil))))))

local macro_rules | `(tactic| wtm_at "dS") => `(tactic| with_reducible (show DS _ _ _ _ _ _; first
  | refine q_set ?_
  | refine q_when ?_
  | refine ds_ret ?_
  | refine ds_set ?_
  | refine q_drop ?_
  | refine q_if ?_
  | refine q_asg ?_
  | refine q_par ?_
  | refine q_fld ?_
  | refine ds_drop ?_
  | refine s_when ?_
  | refine ds_if ?_
  | refine ds_asg ?_
  | refine ds_next ?_
  | refine ds_par ?_
  | refine ds_fld ?_
  | refine ds_retN ?_))
local macro_rules | `(tactic| wtm_at "dE") => `(tactic| with_reducible (show DE _ _ _ _ _ _; first
  | refine de_op ?_
  | refine de_int ?_
  | refine de_cb ?_
  | refine de_bl ?_
  | refine de_non ?_
  | refine de_str ?_
  | refine de_ty ?_
  | refine de_loc ?_
  | refine de_un ?_
  | refine de_andV ?_
  | refine de_orV ?_
  | refine de_notV ?_
  | refine de_if ?_
  | refine de_chain ?_
  | refine de_chain3 ?_
  | refine de_isN ?_
  | refine de_notN ?_
  | refine de_sl ?_
  | refine de_bm ?_
  | refine de_bm0 ?_))
local macro_rules | `(tactic| wtm_at "dT") => `(tactic| with_reducible (show DT _ _ _ _ _ _; first
  | refine dt_test ?_
  | refine dt_truth ?_
  | refine dt_and ?_
  | refine dt_or ?_
  | refine dt_not ?_
  | refine dt_B ?_
  | refine dt_yes ?_))
local macro_rules | `(tactic| wtm_at "dO") => `(tactic| with_reducible (first
  | refine da_cons ?_
  | refine da_nil ?_
  | refine ro_i ?_
  | refine ro_b ?_
  | refine ro_addI ?_
  | refine ro_eqI ?_
  | refine ro_neI ?_
  | refine ru_i ?_
  | refine ro_ip ?_
  | refine rc_max2' ?_
  | refine rc_min2' ?_
  | refine ro_eqB ?_
  | refine ro_neB ?_
  | refine ro_isB ?_
  | refine ro_notB ?_
  | refine do_no ?_
  | refine do_part ?_
  | refine dg_name ?_
  | refine dgs_cons ?_
  | refine dgs_nil ?_
  | refine dg_sub ?_
  | refine di_range1 ?_
  | refine di_range2 ?_
  | refine di_any ?_
  | refine di_enum' ?_))
local macro_rules | `(tactic| wtm_at "v") => `(tactic| ((with_reducible show DE _ _ (tVar _) _ _ _); refine de_var (by first | rfl | assumption) ?_))
local macro_rules | `(tactic| wtm_at "h") => `(tactic| with_reducible refine ⟨_, rfl, ?_⟩)
local macro_rules | `(tactic| wtm_at "b") => `(tactic| ((first | refine ⟨_, rfl, br ?_ ?_⟩ | refine ⟨_, rfl, br' ?_ ?_⟩ | refine br ?_ ?_ | refine br' ?_ ?_ | fail) <;> intro hb <;> (try contradiction) <;> (try (simp only [decide_eq_true_eq, decide_eq_false_iff_not, Bool.not_eq_true', Bool.not_eq_false', Bool.not_true, Bool.not_false, Bool.not_eq_eq_eq_not, reduceCtorEq, List.length_map] at hb)) <;> (try (exfalso; omega; done))))
local macro_rules | `(tactic| wtm_at "i") => `(tactic| first | refine rc_isiD (by assumption) (by decide) ?_ | refine rc_isiB rfl (by first | rfl | decide +kernel) ?_)
local macro_rules | `(tactic| wtm_at "r") => `(tactic| refine ret_same0 (Nat.le_refl _) (by assumption) (by first | rfl | simp [D.cl, clL]) ?_)
local macro_rules | `(tactic| wtm_at "g") => `(tactic| repeat' first | wtm_at "v" | wtm_at "dE" | wtm_at "dO" | wtm_at "dT" | wtm_at "dS" | fail)
local macro_rules | `(tactic| wtm_at "a") => `(tactic| repeat' first | wtm_at "v" | wtm_at "dE" | wtm_at "dO" | wtm_at "dT" | wtm_at "dS" | wtm_at "i" | wtm_at "l" | wtm_at "x" | wtm_at "h" | wtm_at "b" | fail)
local macro_rules | `(tactic| wtm_at "l") => `(tactic| first | refine rc_lenL (.lst _) ?_ | refine rc_lenT' (.tup _) ?_ | refine rc_lenL (.rdl _) ?_ | refine rc_lenL (.own (by first | assumption | exact mu_last)) ?_)
local macro_rules | `(tactic| wtm_at "x") => `(tactic| refine ro_ixT (.tup _) rfl ?_)
local macro_rules | `(tactic| wtm_at "ow") => `(tactic| first | assumption | exact mu_last | exact mu_old (by assumption) | (simp; done) | fail)
local macro_rules | `(tactic| wtm_at "m") => `(tactic| refine ⟨ty_list (.own (by wtm_at "ow")), ?_⟩)
local macro_rules | `(tactic| wtm_at "e") => `(tactic| repeat' first | wtm_at "v" | wtm_at "dE" | wtm_at "dO" | wtm_at "dT" | wtm_at "i" | wtm_at "l" | wtm_at "x" | wtm_at "h" | wtm_at "b" | fail)
local macro_rules | `(tactic| wtm_at "sz") => `(tactic| ((with_reducible show Sz _ ∧ _); refine And.intro (by unfold Sz; first | decide | (simp; done) | (simp; omega) | omega) ?_))
local macro_rules | `(tactic| wtm_at "d2") => `(tactic| with_reducible (first
  | refine de_tupZ ?_
  | refine de_revL ?_
  | refine de_call (by assumption) ?_))
local macro_rules | `(tactic| wtm_at "o2") => `(tactic| first
  | refine ro_mod (by first | decide | omega) ?_
  | refine ro_pow ⟨by decide, by decide, by decide⟩ ?_
  | refine rs_anyL (.lst _) ?_
  | refine ro_mulI (by first | exact .inl ⟨by omega, by omega⟩ | exact .inr ⟨by omega, by omega⟩) ?_
  | refine rc_list (.lst _) ?_
  | refine dg_tup rfl ?_
  | fail)
local macro_rules | `(tactic| wtm_at "h2") => `(tactic| with_reducible (first | refine two_i ?_ | refine ⟨_, Ls.lst _, ?_⟩))
local macro_rules | `(tactic| wtm_at "sP") => `(tactic| with_reducible (first | refine q_parZ ?_ | refine ds_parZ ?_))
local macro_rules | `(tactic| wtm_at "A") => `(tactic| repeat' first | wtm_at "v" | wtm_at "dE" | wtm_at "dO" | wtm_at "dT" | wtm_at "sP" | wtm_at "dS" | wtm_at "d2" | wtm_at "i" | wtm_at "l" | wtm_at "x" | wtm_at "o2" | wtm_at "h" | wtm_at "h2" | wtm_at "sz" | wtm_at "b" | fail)
local macro_rules | `(tactic| wtm_at "E") => `(tactic| repeat' first | wtm_at "v" | wtm_at "dE" | wtm_at "dO" | wtm_at "dT" | wtm_at "d2" | wtm_at "i" | wtm_at "l" | wtm_at "x" | wtm_at "o2" | wtm_at "h" | wtm_at "h2" | wtm_at "sz" | wtm_at "b" | fail)
section
variable {K : PySem.W.Frag}
theorem d_Book_many (kb : KBook K) : ∀ ds μ P PX, c_Book_many K ds μ P PX → MuCl μ μ.length → clL ds μ.length = true → ∀ B E, XAg K B (RetX μ.length PX) E → DS K B (t_Book_many K E) (startD ["self"] ds) μ (fnE μ.length P) := by
  intro ds μ P PX h hm hc B E hE
  obtain ⟨ss, rfl, h⟩ := h
  show DS K B _ [some (bookD K ss)] μ _
  unfold t_Book_many
  wtm_at "A"
  refine de_fld ?_
  wtm_at "A"
  refine ⟨cBook K, _, _, .inl rfl, kb.cl, kb.parts, rfl, ?_⟩
  wtm_at "A"
  wtm_at "r"
  simpa using h
def secN : D → D
  | .tup [n, _] => n
  | _ => .non
theorem d_Book_long (kb : KBook K) : ∀ ds μ P PX, c_Book_long K ds μ P PX → MuCl μ μ.length → clL ds μ.length = true → ∀ B E, XAg K B (RetX μ.length PX) E → DS K B (t_Book_long K E) (startD ["self", "first", "end", "one"] ds) μ (fnE μ.length P) := by
  intro ds μ P PX h hm hc B E hE
  obtain ⟨ss, f, e, rfl, hlen, h, hx⟩ := h
  show DS K B _ [some (bookD K ss), some (.int f), some (.int e), none] μ _
  unfold t_Book_long
  have raise : ¬ (0 ≤ f ∧ f ≤ e ∧ e ≤ ss.length) → DS K B (tRaise0 (He.ga K "BadNumber") E) [some (bookD K ss), some (.int f), some (.int e), none] μ { fnE μ.length P with nx := fun ρ1 μ1 => DS K B (tRet (tCB (rSum K) (tCons (tLc (iAny K (tSl (rSlA K) (tFld K (tVar 0) "parts") (tPart (tVar 1)) (tPart (tVar 2)))) (gName 3) tYes (tOp (rIx K) (tVar 3) (tC (.int 0))) [3]) tNil))) ρ1 μ1 (fnE μ.length P) } := fun hn => ds_raise0 hE (retx_same0 hm rfl (hx hn))
  wtm_at "A"
  · refine de_fld ?_
    wtm_at "A"
    refine ⟨cBook K, _, _, .inl rfl, kb.cl, kb.parts, rfl, ?_⟩
    wtm_at "A"
    · exact raise (by simp at *; omega)
    · refine lc_map secN (gw_name (by simp)) ?_
      wtm_at "A"
      refine de_fld ?_
      wtm_at "A"
      refine ⟨cBook K, _, _, .inl rfl, kb.cl, kb.parts, rfl, ?_⟩
      wtm_at "A"
      have hcut : cutD (ss.map secD) (some f) (some e) = ((ss.drop f.toNat).take (e - f).toNat).map secD := by
        rw [cut_nat (by omega) (by omega) (by rw [List.length_map]; omega), List.map_take, List.map_drop]
      rw [hcut]
      refine ⟨_, _, .lst _, trivial, by simp; omega, fun j d hj => ?_, fun out ho => ?_⟩
      · obtain ⟨s, _, rfl⟩ := secs_get hj
        wtm_at "A"
        refine ⟨rfl, ?_⟩
        unfold secD
        wtm_at "A"
        exact ⟨rfl, rfl⟩
      wtm_at "A"
      refine rc_sum (ns := ((ss.drop f.toNat).take (e - f).toNat).map (·.1)) ?_ ?_
      · rw [← ho, List.map_map, List.map_map]
        exact .lst _
      wtm_at "r"
      exact h (by omega)
  · exact raise (by omega)
  · exact raise (by omega)
theorem endsFrom (ss : List Sec) : ∀ (f a : Int) (e : Int), e ∈ (blocksFrom f a ss).map (·.2) ↔ ∃ (i : Nat) (s : Sec), ss[i]? = some s ∧ s.2 = false ∧ e = a + i + 1 := by
  induction ss with
  | nil => intro f a e; simp [blocksFrom]
  | cons s r ih =>
    intro f a e
    have step : (∃ (i : Nat) (t : Sec), r[i]? = some t ∧ t.2 = false ∧ e = (a + 1) + i + 1) ↔ ∃ (i : Nat) (t : Sec), (s :: r)[i + 1]? = some t ∧ t.2 = false ∧ e = a + (i + 1 : Nat) + 1 := by
      constructor
      · rintro ⟨i, t, h1, h2, h3⟩; exact ⟨i, t, by simpa using h1, h2, by omega⟩
      · rintro ⟨i, t, h1, h2, h3⟩; exact ⟨i, t, by simpa using h1, h2, by omega⟩
    have all : (∃ (i : Nat) (t : Sec), (s :: r)[i]? = some t ∧ t.2 = false ∧ e = a + i + 1) ↔ ((s.2 = false ∧ e = a + 1) ∨ ∃ (i : Nat) (t : Sec), (s :: r)[i + 1]? = some t ∧ t.2 = false ∧ e = a + (i + 1 : Nat) + 1) := by
      constructor
      · rintro ⟨i, t, h1, h2, h3⟩
        cases i with
        | zero => simp at h1; subst h1; exact .inl ⟨h2, by omega⟩
        | succ i => exact .inr ⟨i, t, h1, h2, h3⟩
      · rintro (⟨h1, h2⟩ | ⟨i, t, h1, h2, h3⟩)
        · exact ⟨0, s, by simp, h1, by omega⟩
        · exact ⟨i + 1, t, h1, h2, h3⟩
    rw [all]
    unfold blocksFrom
    split
    · rename_i hs
      rw [ih, step]
      simp [hs]
    · rename_i hs
      have hs' : s.2 = false := by simpa using hs
      rw [List.map_cons, List.mem_cons, ih, step]
      simp [hs']
theorem mem_ends {ss : List Sec} {e : Int} : e ∈ endsOf ss ↔ 1 ≤ e ∧ ∃ s, ss[(e - 1).toNat]? = some s ∧ s.2 = false := by
  unfold endsOf blocks
  rw [endsFrom]
  constructor
  · rintro ⟨i, s, h1, h2, h3⟩
    refine ⟨by omega, s, ?_, h2⟩
    have : (e - 1).toNat = i := by omega
    rw [this]; exact h1
  · rintro ⟨h, s, h1, h2⟩
    exact ⟨(e - 1).toNat, s, h1, h2, by omega⟩
theorem pairs_get {ss : List (Int × Int)} {i : Nat} {d : D} (h : (ss.map pairD)[i]? = some d) : ∃ s, ss[i]? = some s ∧ d = pairD s := by
  rw [List.getElem?_map] at h
  cases q : ss[i]? with
  | none => rw [q] at h; cases h
  | some s => rw [q] at h; exact ⟨s, rfl, (Option.some.inj h).symm⟩
def pairE : D → D
  | .tup [_, n] => n
  | _ => .non
theorem drop_cons' {α : Type} {xs : List α} {i : Nat} {x : α} (h : xs[i]? = some x) : xs.drop i = x :: xs.drop (i + 1) := by
  have hi : i < xs.length := (List.getElem?_eq_some_iff.mp h).1
  rw [List.drop_eq_getElem_cons hi]
  rw [List.getElem?_eq_getElem hi] at h
  rw [Option.some.inj h]
theorem d_is_cut : ∀ ds μ P PX, c_is_cut K ds μ P PX → MuCl μ μ.length → clL ds μ.length = true → ∀ B E, XAg K B (RetX μ.length PX) E → DS K B (t_is_cut K E) (startD ["book", "pieces", "ends", "first", "end", "at"] ds) μ (fnE μ.length P) := by
  intro ds μ P PX h hm hc B E hE
  obtain ⟨ss, x, ps, rfl, hl, hlen, h⟩ := h
  show DS K B _ [some (bookD K ss), some x, none, none, none, none] μ _
  unfold t_is_cut
  have hbl : (blocks ss).length ≤ ss.length := blocksFrom_len ss 0 0
  wtm_at "A"
  refine lc_map pairE (gw_tup (gws_cons (i := 3) (vs := [3, 4]) (by simp) (gws_cons (i := 4) (by simp) gws_nil))) ?_
  wtm_at "A"
  refine de_meth (PX := RetX μ.length PX) hE ?_
  wtm_at "A"
  refine ⟨_, .inl rfl, by rfl, ?_⟩
  wtm_at "A"
  refine ⟨ss, rfl, hlen, .inl ?_⟩
  refine ⟨_, _, .lst _, trivial, by simp; omega, fun j d hj => ?_, fun out ho => ?_⟩
  · obtain ⟨p, _, rfl⟩ := pairs_get hj
    unfold pairD
    wtm_at "A"
    refine ⟨rfl, ?_⟩
    wtm_at "A"
    exact ⟨rfl, rfl⟩
  have ho' : out = (endsOf ss).map D.int := by
    rw [← ho, endsOf, List.map_map, List.map_map]
    rfl
  subst ho'
  clear ho
  wtm_at "A"
  refine q_for ?_
  obtain ⟨S, wk⟩ := hl.wk
  wtm_at "A"
  refine ⟨_, _, wk, fun i ρ μ' => ∃ at_ y3 y4, ρ = [some (bookD K ss), some x, some (.lst ((endsOf ss).map D.int)), y3, y4, some (.int at_)] ∧ μ = μ' ∧ cutFrom ss at_ (ps.drop i) = cutFrom ss 0 ps,
    ⟨0, none, none, rfl, rfl, rfl⟩, fun i ρ μ' _ hI => ?_, ?_, ?_⟩
  · obtain ⟨_, _, _, _, rfl, _⟩ := hI; exact wk.now
  · rintro i d ρ μ' hd ⟨at_, y3, y4, rfl, rfl, he⟩
    obtain ⟨⟨f, e⟩, hp, rfl⟩ := pairs_get hd
    rw [drop_cons' hp, cutFrom] at he
    unfold pairD
    have no : ¬ (f = at_ ∧ at_ < e ∧ e ∈ endsOf ss) → cutFrom ss 0 ps = false := fun hn => by
      rw [if_pos] at he
      · exact he.symm
      · by_cases h1 : f = at_ <;> by_cases h2 : e ≤ at_ <;> simp_all
    wtm_at "A"
    · refine ro_notInI (.lst _) ?_
      wtm_at "A"
      · rename_i hb
        wtm_at "r"
        rw [no (by simp_all)] at h; exact h
      · rename_i h1 h2 hb
        refine ⟨_, _, _, rfl, rfl, ?_⟩
        rw [if_neg] at he
        · exact he
        · simp_all
    · wtm_at "r"
      rw [no (by omega)] at h; exact h
    · wtm_at "r"
      rw [no (by omega)] at h; exact h
  · rintro ρ μ' ⟨at_, y3, y4, rfl, rfl, he⟩
    rw [List.length_map, List.drop_length, cutFrom] at he
    wtm_at "A"
    refine de_meth (PX := RetX μ.length PX) hE ?_
    wtm_at "A"
    refine ⟨_, .inl rfl, by rfl, ?_⟩
    wtm_at "A"
    refine ⟨ss, rfl, ?_⟩
    wtm_at "A"
    wtm_at "r"
    rw [← he] at h
    exact h
theorem good_dat (ss : List Sec) : (D.lst (ss.map secD)).dat = true := by
  unfold D.dat
  rw [datL_iff]
  intro x hx
  obtain ⟨s, _, rfl⟩ := List.mem_map.mp hx
  simp [secD, D.dat, datL]
theorem good_secs {ss : List Sec} (h : Good ss) : areSecs (.lst (ss.map secD)) = true := by
  have h1 : (ss.map secD).all isSec = true := by
    rw [List.all_eq_true]
    intro x hx
    obtain ⟨s, hs, rfl⟩ := List.mem_map.mp hx
    have := h.long s hs
    simp [isSec, secD, isNum]
    omega
  have := h.pos
  have := h.most
  cases q : ss.getLast? with
  | none => rw [List.getLast?_eq_none_iff] at q; have := h.pos; rw [q] at this; simp at this
  | some s =>
    have h2 := h.last s q
    have h3 : (ss.map secD).getLast? = some (secD s) := by rw [List.getLast?_map, q]; rfl
    simp only [areSecs, h1, h3, List.length_map]
    simp [secD, secTied, h2]
    omega
theorem de_book {B : Bs} {E : XK} {PX : PXT} {ts : TA} {ρ : En} {μ : Mu} {P : D → Mu → Prop} {ss : List Sec} (hE : XAg K B PX E) (hg : Good ss) (h : DA K B ts ρ μ fun ds μ1 => ds = [secsD ss] ∧ P (bookD K ss) μ1) : DE K B (tMake (He.ga K "Book") (spD K (c_Book_init K)) [] E ts) ρ μ P := by
  refine de_make hE da_nd ?_
  refine fun σ G H al hB hσ hA Q hQ => h σ G H al hB hσ hA Q fun vs ds μ1 G1 H1 al1 n1 A1 r1 p1 => hQ vs ds μ1 G1 H1 al1 n1 A1 r1 ?_
  obtain ⟨rfl, p⟩ := p1
  refine ⟨_, _, .lst (ss.map secD), rfl, mu_last, .id _, good_dat ss, fun _ xs e => ⟨rfl, [("parts", .lst xs)], ?_, ?_, ?_⟩, fun e => ?_⟩
  · cases e; exact set_last
  · cases e; simp [clF, D.cl]; exact clL_map fun x _ => by simp [secD, D.cl, clL]
  · cases e; exact p
  · exact absurd (good_secs hg) (by rw [e]; simp)
theorem shp_secs (ss : List Sec) : shpL (ss.map secD) 1 = true := shpL_map fun x _ => by simp [secD, D.shp, shpL]
end
end Dl

set_option Elab.async false
set_option linter.all false
set_option maxRecDepth 100000
namespace Dl
open PySem L2 PyProof.Rows
/-! ### draws: contracts -/
/-- a frozen list -/
inductive Lf : D → List D → Prop
  | lst (ds : List D) : Lf (.lst ds) ds
  | rdl (ds : List D) : Lf (.rdl ds) ds
theorem Lf.ls {x : D} {ds : List D} (h : Lf x ds) (μ : Mu) : Ls μ x ds := by
  cases h with
  | lst => exact .lst _
  | rdl => exact .rdl _
def c_law_state (K : PySem.W.Frag) : CT := fun ds μ P PX => ∃ (ns : List Int) (k : Int), ds = [.rdl (ns.map D.int), .int k] ∧ 0 ≤ k ∧ k < 100000 ∧ ∀ n : Int, P (.own μ.length) (μ ++ [.lst [.int n]])
def c_law_next (K : PySem.W.Frag) : CT := fun ds μ P PX => ∃ k n m, ds = [.own k, .int m] ∧ μ[k]? = some (.lst [.int n]) ∧ 0 < m ∧ m < 2 ^ 200 ∧ ∀ r n' : Int, 0 ≤ r → r < m → P (.int r) (μ.set k (.lst [.int n']))
def c_law_pick (K : PySem.W.Frag) : CT := fun ds μ P PX => ∃ k n x xs, ds = [.own k, x] ∧ μ[k]? = some (.lst [.int n]) ∧ Lf x xs ∧ 0 < xs.length ∧ xs.length ≤ 100000 ∧ ∀ d n', d ∈ xs → P d (μ.set k (.lst [.int n']))
def c_law_sections (K : PySem.W.Frag) : CT := fun ds μ P PX => ∃ k n most, ds = [.own k, .int most] ∧ μ[k]? = some (.lst [.int n]) ∧ 1 ≤ most ∧ most ≤ 60 ∧ ∀ ss n', Good ss → (ss.length : Int) ≤ max 9 most → Fresh (ss.map secD) (μ.set k (.lst [.int n'])) P
def t_law_state (K : PySem.W.Frag) (E : XK) : TS :=
    (tSeq (tAsg (tIf (tTest (tOp (rI0 fun i j => .bl (decide (i < j))) (tVar 1) (tCB (rLen K) (tCons (tVar 0) tNil)))) (tOp (rIx K) (tVar 0) (tVar 1)) (tOp rMulA (tC (.int 7)) (tVar 1))) (gName 2))
      (tSeq (tIfS (tTest (tOp (rI0 fun i j => .bl (decide (j ≤ i))) (tVar 2) (tOp (rI CPow fun i j => .int (i ^ j.toNat)) (tC (.int 10)) (tC (.int 18))))) (tRet (tLst (tCons (tOp (rI0 fun i j => .int (i - j)) (tVar 2) (tOp (rI CPow fun i j => .int (i ^ j.toNat)) (tC (.int 10)) (tC (.int 18)))) tNil))) tNext)
      (tSeq (tAsg (tC (.int 0)) (gName 3))
      (tSeq (tFor (iRng1 (tCons (tC (.int 90)) tNil)) (gName 4) (tSeq (tAsg (tOp rModA (tOp rMulA (tOp (rAddA K) (tVar 2) (tOp rMulA (tC (.int 7919)) (tOp (rAddA K) (tOp (rAddA K) (tOp rMulA (tC (.int 90)) (tVar 1)) (tVar 4)) (tC (.int 1))))) (tC (.int 48271))) (tC (.int 2147483647))) (gName 5))
      (tAsg (tOp (rAddA K) (tOp rMulA (tVar 3) (tC (.int 2147483629))) (tOp rModA (tOp rMulA (tVar 5) (tOp (rAddA K) (tOp (rAddA K) (tVar 5) (tOp rMulA (tC (.int 2)) (tVar 4))) (tC (.int 1)))) (tC (.int 2147483629)))) (gName 3))))
      (tRet (tLst (tCons (tVar 3) tNil)))))))

def t_law_next (K : PySem.W.Frag) (E : XK) : TS :=
    (tSeq (tAsg (tOp rModA (tOp (rIx K) (tVar 0) (tC (.int 0))) (tVar 1)) (gName 2))
      (tSeq (tAsg (tOp rFdivA (tOp (rIx K) (tVar 0) (tC (.int 0))) (tVar 1)) (gSub (tVar 0) (tC (.int 0)) rSetL))
      (tRet (tVar 2))))

def t_law_pick (K : PySem.W.Frag) (E : XK) : TS :=
    (tRet (tOp (rIx K) (tVar 1) (tCall (spD K (c_law_next K)) [] E (tCons (tVar 0) (tCons (tCB (rLen K) (tCons (tVar 1) tNil)) tNil)))))

def t_law_sections (K : PySem.W.Frag) (E : XK) : TS :=
    (tSeq (tAsg (tCall (spD K (c_law_pick K)) [] E (tCons (tVar 0) (tCons (tLst (tCons (tC (.int 4)) (tCons (tC (.int 4)) (tCons (tC (.int 9)) (tCons (tVar 1) (tCons (tVar 1) tNil)))))) tNil))) (gName 2))
      (tSeq (tAsg (tCall (spD K (c_law_pick K)) [] E (tCons (tVar 0) (tCons (tLst (tCons (tC (.int 1)) (tCons (tC (.int 3)) (tCons (tC (.int 9)) (tCons (tC (.int 100)) (tCons (tOp (rI CPow fun i j => .int (i ^ j.toNat)) (tC (.int 10)) (tC (.int 12))) tNil)))))) tNil))) (gName 3))
      (tSeq (tAsg (tCall (spD K (c_law_pick K)) [] E (tCons (tVar 0) (tCons (tLst (tCons (tC (.int 0)) (tCons (tC (.int 1)) (tCons (tC (.int 2)) (tCons (tC (.int 4)) tNil))))) tNil))) (gName 4))
      (tSeq (tAsg (tOp (rAddA K) (tC (.int 1)) (tCall (spD K (c_law_next K)) [] E (tCons (tVar 0) (tCons (tVar 2) tNil)))) (gName 5))
      (tSeq (tIfS (tAnd (tTest (tOp (rEqD K) (tVar 2) (tVar 1))) (tTest (tOp (rEqD K) (tOp rModA (tVar 5) (tC (.int 4))) (tC (.int 0))))) (tAsg (tVar 1) (gName 5)) tNext)
      (tSeq (tAsg (tLst tNil) (gName 6))
      (tSeq (tFor (iRng1 (tCons (tVar 5) tNil)) (gName 7) (tDrop (tBM K "list" rAppend (tVar 6) (tCons (tTup (tCons (tOp (rAddA K) (tC (.int 1)) (tCall (spD K (c_law_next K)) [] E (tCons (tVar 0) (tCons (tVar 3) tNil)))) (tCons (tOp (rI0 fun i j => .bl (decide (i < j))) (tCall (spD K (c_law_next K)) [] E (tCons (tVar 0) (tCons (tC (.int 5)) tNil))) (tVar 4)) tNil))) tNil))))
      (tSeq (tIfS (tAnd (tTest (tOp (rEqD K) (tVar 3) (tOp (rI CPow fun i j => .int (i ^ j.toNat)) (tC (.int 10)) (tC (.int 12))))) (tTest (tOp (rEqD K) (tCall (spD K (c_law_next K)) [] E (tCons (tVar 0) (tCons (tC (.int 2)) tNil))) (tC (.int 0))))) (tSeq (tAsg (tCall (spD K (c_law_next K)) [] E (tCons (tVar 0) (tCons (tVar 5) tNil))) (gName 8))
      (tAsg (tTup (tCons (tVar 3) (tCons (tOp (rIx K) (tOp (rIx K) (tVar 6) (tVar 8)) (tC (.int 1))) tNil))) (gSub (tVar 6) (tVar 8) rSetL))) tNext)
      (tSeq (tAsg (tTup (tCons (tOp (rIx K) (tOp (rIx K) (tVar 6) (tUn (rU fun i => .int (-i)) (tC (.int 1)))) (tC (.int 0))) (tCons (tC (.bl false)) tNil))) (gSub (tVar 6) (tUn (rU fun i => .int (-i)) (tC (.int 1))) rSetL))
      (tRet (tVar 6)))))))))))

local macro_rules | `(tactic| wtm_at "dS") => `(tactic| with_reducible (show DS _ _ _ _ _ _; first
  | refine q_set ?_
  | refine q_when ?_
  | refine ds_ret ?_
  | refine ds_set ?_
  | refine q_drop ?_
  | refine q_if ?_
  | refine q_asg ?_
  | refine q_par ?_
  | refine q_fld ?_
  | refine ds_drop ?_
  | refine s_when ?_
  | refine ds_if ?_
  | refine ds_asg ?_
  | refine ds_next ?_
  | refine ds_par ?_
  | refine ds_fld ?_
  | refine ds_retN ?_))
local macro_rules | `(tactic| wtm_at "dE") => `(tactic| with_reducible (show DE _ _ _ _ _ _; first
  | refine de_op ?_
  | refine de_int ?_
  | refine de_cb ?_
  | refine de_bl ?_
  | refine de_non ?_
  | refine de_str ?_
  | refine de_ty ?_
  | refine de_loc ?_
  | refine de_un ?_
  | refine de_andV ?_
  | refine de_orV ?_
  | refine de_notV ?_
  | refine de_if ?_
  | refine de_chain ?_
  | refine de_chain3 ?_
  | refine de_isN ?_
  | refine de_notN ?_
  | refine de_sl ?_
  | refine de_bm ?_
  | refine de_bm0 ?_))
local macro_rules | `(tactic| wtm_at "dT") => `(tactic| with_reducible (show DT _ _ _ _ _ _; first
  | refine dt_test ?_
  | refine dt_truth ?_
  | refine dt_and ?_
  | refine dt_or ?_
  | refine dt_not ?_
  | refine dt_B ?_
  | refine dt_yes ?_))
local macro_rules | `(tactic| wtm_at "dO") => `(tactic| with_reducible (first
  | refine da_cons ?_
  | refine da_nil ?_
  | refine ro_i ?_
  | refine ro_b ?_
  | refine ro_addI ?_
  | refine ro_eqI ?_
  | refine ro_neI ?_
  | refine ru_i ?_
  | refine ro_ip ?_
  | refine rc_max2' ?_
  | refine rc_min2' ?_
  | refine ro_eqB ?_
  | refine ro_neB ?_
  | refine ro_isB ?_
  | refine ro_notB ?_
  | refine do_no ?_
  | refine do_part ?_
  | refine dg_name ?_
  | refine dgs_cons ?_
  | refine dgs_nil ?_
  | refine dg_sub ?_
  | refine di_range1 ?_
  | refine di_range2 ?_
  | refine di_any ?_
  | refine di_enum' ?_))
local macro_rules | `(tactic| wtm_at "v") => `(tactic| ((with_reducible show DE _ _ (tVar _) _ _ _); refine de_var (by first | rfl | assumption) ?_))
local macro_rules | `(tactic| wtm_at "h") => `(tactic| with_reducible refine ⟨_, rfl, ?_⟩)
local macro_rules | `(tactic| wtm_at "b") => `(tactic| ((first | refine ⟨_, rfl, br ?_ ?_⟩ | refine ⟨_, rfl, br' ?_ ?_⟩ | refine br ?_ ?_ | refine br' ?_ ?_ | fail) <;> intro hb <;> (try contradiction) <;> (try (simp only [decide_eq_true_eq, decide_eq_false_iff_not, Bool.not_eq_true', Bool.not_eq_false', Bool.not_true, Bool.not_false, Bool.not_eq_eq_eq_not, reduceCtorEq, List.length_map] at hb)) <;> (try (exfalso; omega; done))))
local macro_rules | `(tactic| wtm_at "i") => `(tactic| first | refine rc_isiD (by assumption) (by decide) ?_ | refine rc_isiB rfl (by first | rfl | decide +kernel) ?_)
local macro_rules | `(tactic| wtm_at "r") => `(tactic| refine ret_same0 (Nat.le_refl _) (by assumption) (by first | rfl | simp [D.cl, clL]) ?_)
local macro_rules | `(tactic| wtm_at "g") => `(tactic| repeat' first | wtm_at "v" | wtm_at "dE" | wtm_at "dO" | wtm_at "dT" | wtm_at "dS" | fail)
local macro_rules | `(tactic| wtm_at "a") => `(tactic| repeat' first | wtm_at "v" | wtm_at "dE" | wtm_at "dO" | wtm_at "dT" | wtm_at "dS" | wtm_at "i" | wtm_at "l" | wtm_at "x" | wtm_at "h" | wtm_at "b" | fail)
local macro_rules | `(tactic| wtm_at "l") => `(tactic| first | refine rc_lenL (.lst _) ?_ | refine rc_lenT' (.tup _) ?_ | refine rc_lenL (.rdl _) ?_ | refine rc_lenL (.own (by first | assumption | exact mu_last)) ?_)
local macro_rules | `(tactic| wtm_at "x") => `(tactic| refine ro_ixT (.tup _) rfl ?_)
local macro_rules | `(tactic| wtm_at "ow") => `(tactic| first | assumption | exact mu_last | exact mu_old (by assumption) | (simp; done) | fail)
local macro_rules | `(tactic| wtm_at "m") => `(tactic| refine ⟨ty_list (.own (by wtm_at "ow")), ?_⟩)
local macro_rules | `(tactic| wtm_at "e") => `(tactic| repeat' first | wtm_at "v" | wtm_at "dE" | wtm_at "dO" | wtm_at "dT" | wtm_at "i" | wtm_at "l" | wtm_at "x" | wtm_at "h" | wtm_at "b" | fail)
section
variable {K : PySem.W.Frag}
theorem at_of' {α : Type} {xs : List α} {z : Int} {j : Nat} {v : α} (e : z = (j : Int)) (h : xs[j]? = some v) : atI xs z = some v := by
  rw [e]
  exact atI_nat h
theorem atI_nn {α : Type} {xs : List α} {i : Int} (h0 : 0 ≤ i) (h1 : i < xs.length) : ∃ x, atI xs i = some x ∧ xs[i.toNat]? = some x := by
  have h : i.toNat < xs.length := by omega
  refine ⟨xs[i.toNat], ?_, List.getElem?_eq_getElem h⟩
  exact at_of' (by omega) (List.getElem?_eq_getElem h)
theorem log2_small {m : Int} (h0 : 0 < m) (h : m < 2 ^ 200) : m.natAbs.log2 < 9000 := by
  have h1 : m.natAbs < 2 ^ 200 := by omega
  have : m.natAbs.log2 < 200 := (Nat.log2_lt (by omega)).mpr h1
  omega
theorem d_law_state : ∀ ds μ P PX, c_law_state K ds μ P PX → MuCl μ μ.length → clL ds μ.length = true → ∀ B E, XAg K B (RetX μ.length PX) E → DS K B (t_law_state K E) (startD ["_law_script", "_law_k", "_law_cell", "_law_found", "_law_j", "_law_one"] ds) μ (fnE μ.length P) := by
  intro ds μ P PX h hm hc B E hE
  obtain ⟨ns, k, rfl, hk0, hk1, h⟩ := h
  show DS K B _ [some (.rdl (ns.map D.int)), some (.int k), none, none, none, none] μ _
  unfold t_law_state
  -- the cell
  have cell : DE K B (tIf (tTest (tOp (rI0 fun i j => .bl (decide (i < j))) (tVar 1) (tCB (rLen K) (tCons (tVar 0) tNil)))) (tOp (rIx K) (tVar 0) (tVar 1)) (tOp rMulA (tC (.int 7)) (tVar 1))) [some (.rdl (ns.map D.int)), some (.int k), none, none, none, none] μ (fun d μ' => ∃ c, d = .int c ∧ μ = μ') := by
    wtm_at "a"
    · rename_i hb
      try rw [List.length_map] at hb
      obtain ⟨x, hx, _⟩ := atI_nn (xs := ns) hk0 hb
      refine ro_ixL (.rdl _) (d := .int x) ?_ ⟨x, rfl, rfl⟩
      unfold atI at hx ⊢
      rw [List.length_map]
      cases q : ixN ns.length k with
      | none => rw [q] at hx; cases hx
      | some j =>
        rw [q] at hx
        have hx' : ns[j]? = some x := hx
        show (ns.map D.int)[j]? = some (D.int x)
        rw [List.getElem?_map, hx']
        rfl
    · exact ro_mulI (.inl ⟨by decide, by decide⟩) ⟨_, rfl, rfl⟩
  refine q_set (cell.imp ?_)
  rintro d μ' ⟨c, rfl, rfl⟩
  wtm_at "a"
  · refine ro_pow ⟨by decide, by decide, by decide⟩ ?_
    wtm_at "a"
    · refine de_lstO ?_
      wtm_at "a"
      refine ro_pow ⟨by decide, by decide, by decide⟩ ?_
      wtm_at "a"
      refine ⟨by simp, ?_⟩
      exact ret_same0 (by simp) (hm.app (by simp [MO.cl, clL, D.cl])) (by simp [D.cl]) (h _)
    · refine q_for ?_
      wtm_at "a"
      refine ⟨by decide, by decide, fun i ρ μ' => ∃ f y4 y5, ρ = [some (.rdl (ns.map D.int)), some (.int k), some (.int c), some (.int f), y4, y5] ∧ μ = μ', ⟨0, none, none, rfl, rfl⟩, fun _ _ _ _ _ => trivial, ?_, ?_⟩
      · rintro i d ρ μ' hd ⟨f, y4, y5, rfl, rfl⟩
        obtain ⟨hi, rfl⟩ := rangeD_some hd
        wtm_at "a"
        refine ro_mulI (.inl ⟨by decide, by decide⟩) ?_
        wtm_at "a"
        refine ro_mulI (.inl ⟨by decide, by decide⟩) ?_
        wtm_at "a"
        refine ro_mulI (.inr ⟨by decide, by decide⟩) ?_
        wtm_at "a"
        refine ro_mod (by decide) ?_
        wtm_at "a"
        refine ro_mulI (.inr ⟨by decide, by decide⟩) ?_
        wtm_at "a"
        refine ro_mulI (.inl ⟨by decide, by decide⟩) ?_
        wtm_at "a"
        refine ro_mulI (.inl ⟨?_, ?_⟩) ?_
        · have := Int.emod_nonneg ((c + 7919 * (90 * k + (0 + (i : Int)) + 1)) * 48271) (b := 2147483647) (by decide)
          omega
        · have := Int.emod_lt_of_pos ((c + 7919 * (90 * k + (0 + (i : Int)) + 1)) * 48271) (b := 2147483647) (by decide)
          omega
        wtm_at "a"
        refine ro_mod (by decide) ?_
        wtm_at "a"
        exact ⟨_, _, _, rfl, rfl⟩
      · rintro ρ μ' ⟨f, y4, y5, rfl, rfl⟩
        wtm_at "a"
        refine de_lstO ?_
        wtm_at "a"
        refine ⟨by simp, ?_⟩
        exact ret_same0 (by simp) (hm.app (by simp [MO.cl, clL, D.cl])) (by simp [D.cl]) (h _)
theorem d_law_next : ∀ ds μ P PX, c_law_next K ds μ P PX → MuCl μ μ.length → clL ds μ.length = true → ∀ B E, XAg K B (RetX μ.length PX) E → DS K B (t_law_next K E) (startD ["_law_draw", "_law_amount", "_law_found"] ds) μ (fnE μ.length P) := by
  intro ds μ P PX h hm hc B E hE
  obtain ⟨k, n, m, rfl, hk, h0, h1, h⟩ := h
  show DS K B _ [some (.own k), some (.int m), none] μ _
  unfold t_law_next
  wtm_at "a"
  refine ro_ixL (.own hk) (d := .int n) rfl ?_
  wtm_at "a"
  refine ro_mod h0 ?_
  wtm_at "a"
  refine ro_ixL (.own hk) (d := .int n) rfl ?_
  wtm_at "a"
  refine ro_fdiv h0 (log2_small h0 h1) ?_
  wtm_at "a"
  refine rset_lst hk (j := 0) rfl ?_
  wtm_at "a"
  refine ret_same0 (by simp) ?_ (by simp [D.cl]) (h _ (n / m) (Int.emod_nonneg _ (by omega)) (Int.emod_lt_of_pos _ h0))
  rw [List.length_set]
  exact hm.set (by simp [MO.cl, clL, D.cl])
theorem d_law_pick : ∀ ds μ P PX, c_law_pick K ds μ P PX → MuCl μ μ.length → clL ds μ.length = true → ∀ B E, XAg K B (RetX μ.length PX) E → DS K B (t_law_pick K E) (startD ["_law_draw", "_law_some"] ds) μ (fnE μ.length P) := by
  intro ds μ P PX h hm hc B E hE
  obtain ⟨k, n, x, xs, rfl, hk, lf, h0, h1, h⟩ := h
  show DS K B _ [some (.own k), some x] μ _
  unfold t_law_pick
  have hcx : clL xs μ.length = true := by
    cases lf <;> simp [clL, D.cl] at hc <;> exact hc.2
  wtm_at "a"
  refine de_call (PX := RetX μ.length PX) hE ?_
  wtm_at "a"
  refine rc_lenL (lf.ls _) ?_
  wtm_at "a"
  refine ⟨k, n, _, rfl, hk, by omega, by omega, fun r n' hr0 hr1 => ?_⟩
  obtain ⟨d, hd, hd2⟩ := atI_nn hr0 hr1
  have hmem := List.mem_of_getElem? hd2
  refine ro_ixL (lf.ls _) hd ?_
  refine ret_same0 (by simp) ?_ ?_ (h d n' hmem)
  · rw [List.length_set]
    exact hm.set (by simp [MO.cl, clL, D.cl])
  · rw [List.length_set]
    exact clL_iff.mp hcx d hmem
theorem d_law_sections : ∀ ds μ P PX, c_law_sections K ds μ P PX → MuCl μ μ.length → clL ds μ.length = true → ∀ B E, XAg K B (RetX μ.length PX) E → DS K B (t_law_sections K E) (startD ["_law_draw", "_law_most", "_law_size", "_law_top", "_law_share", "_law_many", "_law_found", "_law_k", "_law_at"] ds) μ (fnE μ.length P) := by
  intro ds μ P PX h hm hc B E hE
  obtain ⟨k, n, most, rfl, hk, hm1, hm2, h⟩ := h
  show DS K B _ [some (.own k), some (.int most), none, none, none, none, none, none, none] μ _
  unfold t_law_sections
  have hset : ∀ z : Int, (μ.set k (.lst [.int z]))[k]? = some (.lst [.int z]) := fun z => set_get hk
  have hlen : ∀ z : MO, (List.set μ k z).length = μ.length := fun z => by simp
  have hcl : ∀ z : Int, MuCl (μ.set k (.lst [.int z])) μ.length := fun z => hm.set (by simp [MO.cl, clL, D.cl])
  -- size
  wtm_at "a"
  refine de_call (PX := RetX μ.length PX) hE ?_
  wtm_at "a"
  refine de_lst ?_
  wtm_at "a"
  refine ⟨by simp, ?_⟩
  wtm_at "a"
  refine ⟨k, n, _, _, rfl, hk, .lst _, by simp, by simp, fun d n1 hd => ?_⟩
  obtain ⟨size, rfl, hs1, hs2⟩ : ∃ size, d = .int size ∧ 1 ≤ size ∧ size ≤ max 9 most := by
    simp at hd
    rcases hd with rfl | rfl | rfl | rfl | rfl <;> exact ⟨_, rfl, by omega, by omega⟩
  clear hd
  -- top
  wtm_at "a"
  refine de_call (PX := RetX μ.length PX) hE ?_
  wtm_at "a"
  refine de_lst ?_
  wtm_at "a"
  refine ro_pow ⟨by decide, by decide, by decide⟩ ?_
  wtm_at "a"
  refine ⟨by simp, ?_⟩
  wtm_at "a"
  refine ⟨k, n1, _, _, rfl, hset n1, .lst _, by simp, by simp, fun d n2 hd => ?_⟩
  obtain ⟨top, rfl, ht1, ht2⟩ : ∃ top, d = .int top ∧ 1 ≤ top ∧ top ≤ 1000000000000 := by
    simp at hd
    rcases hd with rfl | rfl | rfl | rfl | rfl <;> exact ⟨_, rfl, by decide, by decide⟩
  clear hd
  rw [set_set']
  -- share
  wtm_at "a"
  refine de_call (PX := RetX μ.length PX) hE ?_
  wtm_at "a"
  refine de_lst ?_
  wtm_at "a"
  refine ⟨by simp, ?_⟩
  wtm_at "a"
  refine ⟨k, n2, _, _, rfl, hset n2, .lst _, by simp, by simp, fun d n3 hd => ?_⟩
  obtain ⟨share, rfl⟩ : ∃ share, d = .int share := by
    simp at hd
    rcases hd with rfl | rfl | rfl | rfl <;> exact ⟨_, rfl⟩
  clear hd
  rw [set_set']
  -- many
  wtm_at "a"
  refine de_call (PX := RetX μ.length PX) hE ?_
  wtm_at "a"
  refine ⟨k, n3, size, rfl, hset n3, by omega, by omega, fun r n4 hr0 hr1 => ?_⟩
  rw [set_set']
  wtm_at "e"
  refine ds_cut (M := fun ρ' μ' => ∃ many, 1 ≤ many ∧ many ≤ max 9 most ∧ ρ' = [some (.own k), some (.int most), some (.int size), some (.int top), some (.int share), some (.int many), none, none, none] ∧ μ' = μ.set k (.lst [.int n4])) ?_ ?_
  · wtm_at "a"
    · refine ro_mod (by decide) ?_
      wtm_at "a"
      · exact ⟨most, hm1, by omega, rfl, rfl⟩
      · exact ⟨1 + r, by omega, by omega, rfl, rfl⟩
    · exact ⟨1 + r, by omega, by omega, rfl, rfl⟩
  rintro ρ' μ' ⟨many, hy1, hy2, rfl, rfl⟩
  wtm_at "a"
  refine de_lstO ?_
  wtm_at "a"
  refine ⟨by simp, ?_⟩
  rw [hlen]
  wtm_at "a"
  refine q_for ?_
  wtm_at "a"
  refine ⟨by omega, by omega, fun i ρ μ' => ∃ (z : Int) (fnd : List Sec) (y7 : Option D), ρ = [some (.own k), some (.int most), some (.int size), some (.int top), some (.int share), some (.int many), some (.own μ.length), y7, none] ∧ μ' = μ.set k (.lst [.int z]) ++ [.lst (fnd.map secD)] ∧ fnd.length = i ∧ ∀ s ∈ fnd, 1 ≤ s.1 ∧ s.1 ≤ 1000000000000,
    ⟨n4, [], none, rfl, rfl, rfl, by simp⟩, fun _ _ _ _ _ => trivial, ?_, ?_⟩
  · rintro i d ρ μ' hd ⟨z, fnd, y7, rfl, rfl, hfl, hfs⟩
    obtain ⟨hi, rfl⟩ := rangeD_some hd
    wtm_at "a"
    have hlast : ∀ z : Int, ∀ o : MO, (μ.set k (.lst [.int z]) ++ [o])[μ.length]? = some o := fun z o => by rw [← hlen (.lst [.int z])]; exact mu_last
    refine ⟨ty_list (.own (hlast _ _)), ?_⟩
    wtm_at "a"
    refine de_tup ?_
    wtm_at "a"
    refine de_call (PX := RetX μ.length PX) hE ?_
    wtm_at "a"
    refine ⟨k, z, top, rfl, mu_old (hset z), by omega, by omega, fun r1 z1 h10 h11 => ?_⟩
    rw [set_old (hset z), set_set']
    wtm_at "a"
    refine de_call (PX := RetX μ.length PX) hE ?_
    wtm_at "a"
    refine ⟨k, z1, 5, rfl, mu_old (hset z1), by omega, by omega, fun r2 z2 h20 h21 => ?_⟩
    rw [set_old (hset z1), set_set']
    wtm_at "a"
    refine ⟨by simp, ?_⟩
    wtm_at "a"
    refine rm_app (hlast _ _) (by simp; omega) ?_
    rw [← hlen (.lst [.int z2]), set_last]
    refine ⟨z2, fnd ++ [(1 + r1, decide (r2 < share))], _, by rw [hlen]; rfl, by simp [secD], by simp [hfl], fun s hs => ?_⟩
    rcases List.mem_append.mp hs with m | m
    · exact hfs s m
    · simp at m; subst m; exact ⟨by show 1 ≤ 1 + r1; omega, by show 1 + r1 ≤ _; omega⟩
  · rintro ρ μ' ⟨z, fnd, y7, rfl, rfl, hfl, hfs⟩
    rw [rangeD_length] at hfl
    have hlast : ∀ z : Int, ∀ o : MO, (μ.set k (.lst [.int z]) ++ [o])[μ.length]? = some o := fun z o => by rw [← hlen (.lst [.int z])]; exact mu_last
    have hsetl : ∀ z : Int, ∀ o o' : MO, (μ.set k (.lst [.int z]) ++ [o]).set μ.length o' = μ.set k (.lst [.int z]) ++ [o'] := fun z o o' => by rw [← hlen (.lst [.int z])]; exact set_last
    -- if top == 10 ** 12 and ..
    refine ds_cut (M := fun ρ' μ' => ∃ (z : Int) (fnd : List Sec) (y7 y8 : Option D), ρ' = [some (.own k), some (.int most), some (.int size), some (.int top), some (.int share), some (.int many), some (.own μ.length), y7, y8] ∧ μ' = μ.set k (.lst [.int z]) ++ [.lst (fnd.map secD)] ∧ fnd.length = many.toNat ∧ ∀ s ∈ fnd, 1 ≤ s.1 ∧ s.1 ≤ 1000000000000) ?_ ?_
    · wtm_at "a"
      refine ro_pow ⟨by decide, by decide, by decide⟩ ?_
      wtm_at "a"
      · refine de_call (PX := RetX μ.length PX) hE ?_
        wtm_at "a"
        refine ⟨k, z, 2, rfl, mu_old (hset z), by omega, by omega, fun r1 z1 h10 h11 => ?_⟩
        rw [set_old (hset z), set_set']
        wtm_at "a"
        · refine de_call (PX := RetX μ.length PX) hE ?_
          wtm_at "a"
          refine ⟨k, z1, many, rfl, mu_old (hset z1), by omega, by omega, fun r2 z2 h20 h21 => ?_⟩
          rw [set_old (hset z1), set_set']
          obtain ⟨s, hs, hs'⟩ := atI_nn (xs := fnd) (i := r2) h20 (by omega)
          have hsD : atI (fnd.map secD) r2 = some (secD s) := at_of' (j := r2.toNat) (by omega) (by rw [List.getElem?_map, hs']; rfl)
          wtm_at "a"
          refine de_tup ?_
          wtm_at "a"
          refine ro_ixL (.own (hlast _ _)) hsD ?_
          wtm_at "a"
          refine ⟨by simp, ?_⟩
          wtm_at "a"
          refine rset_lst (hlast _ _) (j := r2.toNat) (by unfold ixN; rw [if_pos h20, if_pos (by rw [List.length_map]; omega)]) ?_
          rw [hsetl]
          refine ⟨z2, fnd.set r2.toNat (top, s.2), _, _, rfl, ?_, by simp [hfl], fun y hy => ?_⟩
          · rw [List.map_set]; rfl
          · rcases List.mem_or_eq_of_mem_set hy with m | m
            · exact hfs y m
            · subst m; exact ⟨ht1, ht2⟩
        · exact ⟨z1, fnd, _, _, rfl, rfl, hfl, hfs⟩
      · exact ⟨z, fnd, _, _, rfl, rfl, hfl, hfs⟩
    rintro ρ' μ' ⟨z, fnd, y7, y8, rfl, rfl, hfl, hfs⟩
    -- the last one is not tied
    obtain ⟨ini, s, rfl⟩ : ∃ ini s, fnd = ini ++ [s] := by
      rcases List.eq_nil_or_concat fnd with e | ⟨ini, s, e⟩
      · subst e; simp at hfl; omega
      · exact ⟨ini, s, by simpa using e⟩
    have hat : atI ((ini ++ [s]).map secD) (-1) = some (secD s) := by
      rw [List.map_append]
      exact atI_last _ _
    wtm_at "a"
    refine de_tup ?_
    wtm_at "a"
    refine ro_ixL (.own (hlast _ _)) hat ?_
    wtm_at "a"
    refine ⟨by simp, ?_⟩
    wtm_at "a"
    refine rset_lst (hlast _ _) (j := ini.length) (by unfold ixN; simp; omega) ?_
    rw [hsetl]
    have hnew' : (((ini ++ [s]).map secD).set ini.length (.tup [.int s.1, .bl false])) = (ini ++ [(s.1, false)]).map secD := by
      rw [List.map_append, List.set_append_right _ _ (by simp)]
      simp [secD]
    rw [hnew']
    have hgood : Good (ini ++ [(s.1, false)]) := by
      have hl2 : (ini ++ [(s.1, false)]).length = many.toNat := by rw [← hfl]; simp
      refine ⟨by omega, by omega, fun y hy => ?_, fun y hy => ?_⟩
      · rcases List.mem_append.mp hy with m | m
        · exact hfs y (List.mem_append_left _ m)
        · simp at m; subst m; exact hfs s (List.mem_append_right _ (by simp))
      · rw [List.getLast?_append] at hy
        simp at hy
        subst hy
        rfl
    have hres := h _ z hgood (by have : (ini ++ [(s.1, false)]).length = many.toNat := by (rw [← hfl]; simp)
                                 omega)
    have hclS : ∀ n, clL ((ini ++ [(s.1, false)]).map secD) n = true := fun n => clL_map fun x _ => by simp [secD, D.cl, clL]
    rcases hres with hres | hres
    · refine ds_ret (de_frz ?_)
      wtm_at "a"
      refine ⟨_, _, rfl, hlast _ _, ?_⟩
      rw [hsetl]
      exact ret_same (by simp) (by rw [hlen]; exact hcl z) (by unfold D.cl; exact hclS _) hres
    · rw [hlen] at hres
      wtm_at "a"
      refine ret_same0 (by simp) ?_ (by simp [D.cl]) hres
      refine MuCl.app (by rw [hlen]; exact hcl z) (by simp only [MO.cl]; exact hclS _)
end
end Dl

set_option Elab.async false
set_option linter.all false
set_option maxRecDepth 100000
namespace Dl
open PySem L2 PyProof.Rows
theorem fn_ty {K : PySem.W.Frag} {f : Addr} (h : PySem.W.isFn K (.ref f) = true) : PySem.W.typeIn K (.ref f) = some (.type "function") := beq_iff_eq.mp h
/-! ### cuts: contracts and their plain law -/
/-- the first block that is longer -/
def tooLong (ss : List Sec) (limit : Int) : Option Int := ((blocks ss).find? fun p => decide (limit < longOf ss p.1 p.2)).map (·.1)
def optI : Option Int → D
  | some i => .int i
  | none => .non
def c_first_too_long (K : PySem.W.Frag) : CT := fun ds μ P PX => ∃ (ss : List Sec) (limit : Int), ds = [bookD K ss, .int limit] ∧ Good ss ∧ P (optI (tooLong ss limit)) μ
/-- the greedy pieces -/
def fewFrom (ss : List Sec) (limit : Int) : Int → Int → List (Int × Int) → List (Int × Int)
  | a, b, [] => [(a, b)]
  | a, b, (f, e) :: r => if limit < longOf ss a e then (a, b) :: fewFrom ss limit f e r else fewFrom ss limit a e r
def fewestOf (ss : List Sec) (limit : Int) : List (Int × Int) := fewFrom ss limit 0 0 (blocks ss)
def c_fewest (K : PySem.W.Frag) : CT := fun ds μ P PX => ∃ (ss : List Sec) (limit : Int), ds = [bookD K ss, .int limit] ∧ Good ss ∧ (limit < 0 → PX (He.ga K "BadNumber") [] μ) ∧ (0 ≤ limit → ∀ f, tooLong ss limit = some f → PX (He.ga K "TooTight") [("block", .int f)] μ) ∧
  (0 ≤ limit → tooLong ss limit = none → Fresh ((fewestOf ss limit).map pairD) μ P)
/-- how long the blocks are -/
def sizesOf (ss : List Sec) : List Int := (blocks ss).map fun p => longOf ss p.1 p.2
def c_longest_block (K : PySem.W.Frag) : CT := fun ds μ P PX => ∃ ss : List Sec, ds = [bookD K ss] ∧ Good ss ∧ ∀ m, m ∈ sizesOf ss → (∀ y ∈ sizesOf ss, y ≤ m) → P (.int m) μ
def fewOk (ss : List Sec) (many m : Int) : Prop := tooLong ss m = none ∧ ((fewestOf ss m).length : Int) ≤ many
def c_least_limit (K : PySem.W.Frag) : CT := fun ds μ P PX => ∃ (ss : List Sec) (many : Int), ds = [bookD K ss, .int many] ∧ Good ss ∧ (many < 1 → PX (He.ga K "BadNumber") [] μ) ∧ (1 ≤ many → ∀ m, 0 ≤ m → fewOk ss many m → (∀ m', m' < m → ¬ fewOk ss many m') → P (.int m) μ)
def c_law_word (K : PySem.W.Frag) : CT := fun ds μ P PX => ∃ x gs, ds = [.exc (He.ga K x) gs] ∧ x ∈ excNames ∧ P (.str x) μ
def c_law_blocks (K : PySem.W.Frag) : CT := fun ds μ P PX => ∃ ss : List Sec, ds = [secsD ss] ∧ ss.length ≤ 60 ∧ P (pairsD (blocks ss)) μ
def c_law_long (K : PySem.W.Frag) : CT := fun ds μ P PX => ∃ (ss : List Sec) (f e : Int), ds = [secsD ss, .int f, .int e] ∧ ss.length ≤ 60 ∧ 0 ≤ f ∧ f ≤ e ∧ e ≤ ss.length ∧ P (.int (longOf ss f e)) μ
/-! the blocks of a book lie side by side -/
def BlkCh (n : Int) : Int → List (Int × Int) → Prop
  | a, [] => a = n
  | a, (f, e) :: r => f = a ∧ a < e ∧ BlkCh n e r
theorem blkCh_from : ∀ (ss : List Sec) (f a : Int), f ≤ a → (∀ s, ss.getLast? = some s → s.2 = false) → (ss = [] → f = a) → BlkCh (a + ss.length) f (blocksFrom f a ss)
  | [], f, a, _, _, h => by simp [blocksFrom, BlkCh, h rfl]
  | [s], f, a, hf, hl, _ => by
    have := hl s (by simp)
    simp [blocksFrom, this, BlkCh]
    omega
  | s :: t :: r, f, a, hf, hl, _ => by
    unfold blocksFrom
    have hl' : ∀ s, (t :: r).getLast? = some s → s.2 = false := fun x hx => hl x (by simpa using hx)
    have e : a + ((s :: t :: r).length : Int) = (a + 1) + ((t :: r).length : Int) := by simp; omega
    split
    · rw [e]; exact blkCh_from (t :: r) f (a + 1) (by omega) hl' (by simp)
    · refine ⟨rfl, by omega, ?_⟩
      rw [e]; exact blkCh_from (t :: r) (a + 1) (a + 1) (by omega) hl' (by simp)
theorem blkCh {ss : List Sec} (h : Good ss) : BlkCh ss.length 0 (blocks ss) := by
  have := blkCh_from ss 0 0 (by omega) h.last (fun e => rfl)
  simpa [blocks] using this
theorem BlkCh.le {n : Int} : ∀ {bs : List (Int × Int)} {a : Int}, BlkCh n a bs → a ≤ n
  | [], a, h => by simp [BlkCh] at h; omega
  | (f, e) :: r, a, h => by
    have := h.2.2.le
    have := h.2.1
    omega
theorem BlkCh.mem {n : Int} : ∀ {bs : List (Int × Int)} {a : Int}, BlkCh n a bs → ∀ p ∈ bs, a ≤ p.1 ∧ p.1 < p.2 ∧ p.2 ≤ n
  | [], a, h, p, hp => by simp at hp
  | (f, e) :: r, a, h, p, hp => by
    obtain ⟨h1, h2, h3⟩ := h
    rcases List.mem_cons.mp hp with m | m
    · subst m; exact ⟨by show a ≤ f; omega, by show f < e; omega, h3.le⟩
    · have := h3.mem p m; omega
theorem longOf_add {ss : List Sec} {a b c : Int} (h0 : 0 ≤ a) (h1 : a ≤ b) (h2 : b ≤ c) : longOf ss a c = longOf ss a b + longOf ss b c := by
  unfold longOf
  have e : (c - a).toNat = (b - a).toNat + (c - b).toNat := by omega
  rw [e, List.take_add, List.map_append, List.sum_append, List.drop_drop]
  have : a.toNat + (b - a).toNat = b.toNat := by omega
  rw [this]
theorem longOf_nn {ss : List Sec} (hg : Good ss) (a b : Int) : 0 ≤ longOf ss a b := by
  unfold longOf
  have : ∀ l : List Sec, (∀ s ∈ l, 1 ≤ s.1 ∧ s.1 ≤ 1000000000000) → 0 ≤ (l.map (·.1)).sum := by
    intro l
    induction l with
    | nil => intro _; simp
    | cons x xs ih =>
      intro h
      have := ih fun s hs => h s (by simp [hs])
      have := h x (by simp)
      simp; omega
  exact this _ fun s hs => hg.long s (List.mem_of_mem_drop (List.mem_of_mem_take hs))
theorem longOf_self {ss : List Sec} (a : Int) : longOf ss a a = 0 := by simp [longOf]
theorem longOf_le {ss : List Sec} (hg : Good ss) {a b : Int} : longOf ss a b ≤ 60 * 1000000000000 := by
  unfold longOf
  have : ∀ l : List Sec, (∀ s ∈ l, 1 ≤ s.1 ∧ s.1 ≤ 1000000000000) → (l.map (·.1)).sum ≤ l.length * 1000000000000 := by
    intro l
    induction l with
    | nil => intro _; simp
    | cons x xs ih =>
      intro h
      have := ih fun s hs => h s (by simp [hs])
      have := h x (by simp)
      simp; omega
  have q := this ((ss.drop a.toNat).take (b - a).toNat) fun s hs => hg.long s (List.mem_of_mem_drop (List.mem_of_mem_take hs))
  have := hg.most
  refine Int.le_trans q ?_
  have : ((ss.drop a.toNat).take (b - a).toNat).length ≤ 60 := by rw [List.length_take, List.length_drop]; omega
  omega
theorem blocks_ne {ss : List Sec} (hg : Good ss) : blocks ss ≠ [] := fun e => by
  have := blkCh hg
  rw [e] at this
  have hp := hg.pos
  simp [BlkCh] at this
  omega
theorem tooLong_none {ss : List Sec} {m : Int} : tooLong ss m = none ↔ ∀ p ∈ blocks ss, longOf ss p.1 p.2 ≤ m := by
  unfold tooLong
  rw [Option.map_eq_none_iff, List.find?_eq_none]
  simp
theorem tooLong_none_sizes {ss : List Sec} {m : Int} : tooLong ss m = none ↔ ∀ y ∈ sizesOf ss, y ≤ m := by
  rw [tooLong_none]
  unfold sizesOf
  constructor
  · intro h y hy
    obtain ⟨p, hp, rfl⟩ := List.mem_map.mp hy
    exact h p hp
  · intro h p hp
    exact h _ (List.mem_map.mpr ⟨p, hp, rfl⟩)
def t_first_too_long (K : PySem.W.Frag) (E : XK) : TS :=
    (tSeq (tFor (iAny K (tMeth (He.ga K "Book") "blocks" (spD K (c_Book_blocks K)) [] E (tVar 0) tNil)) (gTup K 2 (gCons (gName 2) (gCons (gName 3) gNil))) (tIfS (tTest (tOp (rI0 fun i j => .bl (decide (j < i))) (tMeth (He.ga K "Book") "long" (spD K (c_Book_long K)) [] E (tVar 0) (tCons (tVar 2) (tCons (tVar 3) tNil))) (tVar 1))) (tRet (tVar 2)) tNext))
      (tRet (tC .non)))

def t_longest_block (K : PySem.W.Frag) (E : XK) : TS :=
    (tRet (tCB (rMaxA K) (tCons (tLc (iAny K (tMeth (He.ga K "Book") "blocks" (spD K (c_Book_blocks K)) [] E (tVar 0) tNil)) (gTup K 2 (gCons (gName 1) (gCons (gName 2) gNil))) tYes (tMeth (He.ga K "Book") "long" (spD K (c_Book_long K)) [] E0 (tVar 0) (tCons (tVar 1) (tCons (tVar 2) tNil))) [1, 2]) tNil)))

def t_fewest (K : PySem.W.Frag) (E : XK) : TS :=
    (tSeq (tIfS (tTest (tOp (rI0 fun i j => .bl (decide (i < j))) (tVar 1) (tC (.int 0)))) (tRaise0 (He.ga K "BadNumber") E) tNext)
      (tSeq (tAsg (tCall (spD K (c_first_too_long K)) [] E (tCons (tVar 0) (tCons (tVar 1) tNil))) (gName 2))
      (tSeq (tIfS (tB (tNotN (tVar 2))) (tRaiseO (He.ga K "TooTight") (spX (He.ga K "TooTight") ["block"]) (tCons (tVar 2) tNil) E) tNext)
      (tSeq (tAsg (tLst tNil) (gName 3))
      (tSeq (tAsg (tC (.int 0)) (gName 4))
      (tSeq (tAsg (tC (.int 0)) (gName 5))
      (tSeq (tFor (iAny K (tMeth (He.ga K "Book") "blocks" (spD K (c_Book_blocks K)) [] E (tVar 0) tNil)) (gTup K 2 (gCons (gName 6) (gCons (gName 7) gNil))) (tSeq (tIfS (tTest (tOp (rI0 fun i j => .bl (decide (j < i))) (tMeth (He.ga K "Book") "long" (spD K (c_Book_long K)) [] E (tVar 0) (tCons (tVar 4) (tCons (tVar 7) tNil))) (tVar 1))) (tSeq (tDrop (tBM K "list" rAppend (tVar 3) (tCons (tTup (tCons (tVar 4) (tCons (tVar 5) tNil))) tNil)))
      (tAsg (tVar 6) (gName 4))) tNext)
      (tAsg (tVar 7) (gName 5))))
      (tSeq (tDrop (tBM K "list" rAppend (tVar 3) (tCons (tTup (tCons (tVar 4) (tCons (tVar 5) tNil))) tNil)))
      (tRet (tVar 3))))))))))

def t_least_limit (K : PySem.W.Frag) (E : XK) : TS :=
    (tSeq (tIfS (tTest (tOp (rI0 fun i j => .bl (decide (i < j))) (tVar 1) (tC (.int 1)))) (tRaise0 (He.ga K "BadNumber") E) tNext)
      (tSeq (tAsg (tCall (spD K (c_longest_block K)) [] E (tCons (tVar 0) tNil)) (gName 2))
      (tSeq (tAsg (tMeth (He.ga K "Book") "long" (spD K (c_Book_long K)) [] E (tVar 0) (tCons (tC (.int 0)) (tCons (tMeth (He.ga K "Book") "many" (spD K (c_Book_many K)) [] E (tVar 0) tNil) tNil))) (gName 3))
      (tSeq (tWhile (tTest (tOp (rI0 fun i j => .bl (decide (i < j))) (tVar 2) (tVar 3))) (tSeq (tAsg (tOp rFdivA (tOp (rAddA K) (tVar 2) (tVar 3)) (tC (.int 2))) (gName 4))
      (tIfS (tTest (tOp (rI0 fun i j => .bl (decide (i ≤ j))) (tCB (rLen K) (tCons (tCall (spD K (c_fewest K)) [] E (tCons (tVar 0) (tCons (tVar 4) tNil))) tNil)) (tVar 1))) (tAsg (tVar 4) (gName 3)) (tAsg (tOp (rAddA K) (tVar 4) (tC (.int 1))) (gName 2)))))
      (tRet (tVar 2))))))

def t_law_word (K : PySem.W.Frag) (E : XK) : TS :=
    (tSeq (tAsg (tLst (tCons (tCB (rIsX K) (tCons (tVar 0) (tCons (tC (.ref (He.ga K "BadBook"))) tNil))) (tCons (tCB (rIsX K) (tCons (tVar 0) (tCons (tC (.ref (He.ga K "BadCalendar"))) tNil))) (tCons (tCB (rIsX K) (tCons (tVar 0) (tCons (tC (.ref (He.ga K "BadFeast"))) tNil))) (tCons (tCB (rIsX K) (tCons (tVar 0) (tCons (tC (.ref (He.ga K "BadRow"))) tNil))) tNil))))) (gName 1))
      (tSeq (tAsg (tOp (rAddA K) (tVar 1) (tLst (tCons (tCB (rIsX K) (tCons (tVar 0) (tCons (tC (.ref (He.ga K "BadHouse"))) tNil))) (tCons (tCB (rIsX K) (tCons (tVar 0) (tCons (tC (.ref (He.ga K "BadNumber"))) tNil))) (tCons (tCB (rIsX K) (tCons (tVar 0) (tCons (tC (.ref (He.ga K "NoDay"))) tNil))) (tCons (tCB (rIsX K) (tCons (tVar 0) (tCons (tC (.ref (He.ga K "NoRow"))) tNil))) tNil)))))) (gName 1))
      (tSeq (tAsg (tOp (rAddA K) (tVar 1) (tLst (tCons (tCB (rIsX K) (tCons (tVar 0) (tCons (tC (.ref (He.ga K "NoPiece"))) tNil))) (tCons (tCB (rIsX K) (tCons (tVar 0) (tCons (tC (.ref (He.ga K "TooTight"))) tNil))) (tCons (tCB (rIsX K) (tCons (tVar 0) (tCons (tC (.ref (He.ga K "NeverDone"))) tNil))) tNil))))) (gName 1))
      (tSeq (tAsg (tOp (rAddA K) (tVar 1) (tLst (tCons (tCB (rIsX K) (tCons (tVar 0) (tCons (tC (.ref (He.ga K "TooFar"))) tNil))) (tCons (tCB (rIsX K) (tCons (tVar 0) (tCons (tC (.ref (He.ga K "NoDeed"))) tNil))) (tCons (tCB (rIsX K) (tCons (tVar 0) (tCons (tC (.ref (He.ga K "BadText"))) tNil))) tNil))))) (gName 1))
      (tSeq (tAsg (tLst (tCons (tC (.str "BadBook")) (tCons (tC (.str "BadCalendar")) (tCons (tC (.str "BadFeast")) (tCons (tC (.str "BadRow")) (tCons (tC (.str "BadHouse")) (tCons (tC (.str "BadNumber")) (tCons (tC (.str "NoDay")) (tCons (tC (.str "NoRow")) (tCons (tC (.str "NoPiece")) tNil)))))))))) (gName 2))
      (tSeq (tAsg (tOp (rAddA K) (tVar 2) (tLst (tCons (tC (.str "TooTight")) (tCons (tC (.str "NeverDone")) (tCons (tC (.str "TooFar")) (tCons (tC (.str "NoDeed")) (tCons (tC (.str "BadText")) tNil))))))) (gName 2))
      (tSeq (tAsg (tLc (iZip K (tCons (tVar 2) (tCons (tVar 1) tNil))) (gTup K 2 (gCons (gName 4) (gCons (gName 5) gNil))) (tTruth K (tVar 5)) (tVar 4) [4, 5]) (gName 3))
      (tRet (tIf (tAnd (tTest (tOp (rEqD K) (tCB (rLen K) (tCons (tVar 3) tNil)) (tC (.int 1)))) (tTruth K (tCB (rIsX K) (tCons (tVar 0) (tCons (tC (.ty "ValueError")) tNil))))) (tOp (rIx K) (tVar 3) (tC (.int 0))) (tC (.str "other")))))))))))

def t_law_blocks (K : PySem.W.Frag) (E : XK) : TS :=
    (tSeq (tAsg (tLst tNil) (gName 1))
      (tSeq (tAsg (tC (.int 0)) (gName 2))
      (tSeq (tFor (iEnum K (tCons (tVar 0) tNil)) (gTup K 2 (gCons (gName 3) (gCons (gName 4) gNil))) (tIfS (tNot (tTruth K (tOp (rIx K) (tVar 4) (tC (.int 1))))) (tSeq (tDrop (tBM K "list" rAppend (tVar 1) (tCons (tTup (tCons (tVar 2) (tCons (tOp (rAddA K) (tVar 3) (tC (.int 1))) tNil))) tNil)))
      (tAsg (tOp (rAddA K) (tVar 3) (tC (.int 1))) (gName 2))) tNext))
      (tRet (tVar 1)))))

def t_law_long (K : PySem.W.Frag) (E : XK) : TS :=
    (tRet (tCB (rSum K) (tCons (tLc (iAny K (tSl (rSlA K) (tVar 0) (tPart (tVar 1)) (tPart (tVar 2)))) (gName 3) tYes (tOp (rIx K) (tVar 3) (tC (.int 0))) [3]) tNil)))

local macro_rules | `(tactic| wtm_at "dS") => `(tactic| with_reducible (show DS _ _ _ _ _ _; first
  | refine q_set ?_
  | refine q_when ?_
  | refine ds_ret ?_
  | refine ds_set ?_
  | refine q_drop ?_
  | refine q_if ?_
  | refine q_asg ?_
  | refine q_par ?_
  | refine q_fld ?_
  | refine ds_drop ?_
  | refine s_when ?_
  | refine ds_if ?_
  | refine ds_asg ?_
  | refine ds_next ?_
  | refine ds_par ?_
  | refine ds_fld ?_
  | refine ds_retN ?_))
local macro_rules | `(tactic| wtm_at "dE") => `(tactic| with_reducible (show DE _ _ _ _ _ _; first
  | refine de_op ?_
  | refine de_int ?_
  | refine de_cb ?_
  | refine de_bl ?_
  | refine de_non ?_
  | refine de_str ?_
  | refine de_ty ?_
  | refine de_loc ?_
  | refine de_un ?_
  | refine de_andV ?_
  | refine de_orV ?_
  | refine de_notV ?_
  | refine de_if ?_
  | refine de_chain ?_
  | refine de_chain3 ?_
  | refine de_isN ?_
  | refine de_notN ?_
  | refine de_sl ?_
  | refine de_bm ?_
  | refine de_bm0 ?_))
local macro_rules | `(tactic| wtm_at "dT") => `(tactic| with_reducible (show DT _ _ _ _ _ _; first
  | refine dt_test ?_
  | refine dt_truth ?_
  | refine dt_and ?_
  | refine dt_or ?_
  | refine dt_not ?_
  | refine dt_B ?_
  | refine dt_yes ?_))
local macro_rules | `(tactic| wtm_at "dO") => `(tactic| with_reducible (first
  | refine da_cons ?_
  | refine da_nil ?_
  | refine ro_i ?_
  | refine ro_b ?_
  | refine ro_addI ?_
  | refine ro_eqI ?_
  | refine ro_neI ?_
  | refine ru_i ?_
  | refine ro_ip ?_
  | refine rc_max2' ?_
  | refine rc_min2' ?_
  | refine ro_eqB ?_
  | refine ro_neB ?_
  | refine ro_isB ?_
  | refine ro_notB ?_
  | refine do_no ?_
  | refine do_part ?_
  | refine dg_name ?_
  | refine dgs_cons ?_
  | refine dgs_nil ?_
  | refine dg_sub ?_
  | refine di_range1 ?_
  | refine di_range2 ?_
  | refine di_any ?_
  | refine di_enum' ?_))
local macro_rules | `(tactic| wtm_at "v") => `(tactic| ((with_reducible show DE _ _ (tVar _) _ _ _); refine de_var (by first | rfl | assumption) ?_))
local macro_rules | `(tactic| wtm_at "h") => `(tactic| with_reducible refine ⟨_, rfl, ?_⟩)
local macro_rules | `(tactic| wtm_at "b") => `(tactic| ((first | refine ⟨_, rfl, br ?_ ?_⟩ | refine ⟨_, rfl, br' ?_ ?_⟩ | refine br ?_ ?_ | refine br' ?_ ?_ | fail) <;> intro hb <;> (try contradiction) <;> (try (simp only [decide_eq_true_eq, decide_eq_false_iff_not, Bool.not_eq_true', Bool.not_eq_false', Bool.not_true, Bool.not_false, Bool.not_eq_eq_eq_not, reduceCtorEq, List.length_map] at hb)) <;> (try (exfalso; omega; done))))
local macro_rules | `(tactic| wtm_at "i") => `(tactic| first | refine rc_isiD (by assumption) (by decide) ?_ | refine rc_isiB rfl (by first | rfl | decide +kernel) ?_)
local macro_rules | `(tactic| wtm_at "r") => `(tactic| refine ret_same0 (Nat.le_refl _) (by assumption) (by first | rfl | simp [D.cl, clL]) ?_)
local macro_rules | `(tactic| wtm_at "g") => `(tactic| repeat' first | wtm_at "v" | wtm_at "dE" | wtm_at "dO" | wtm_at "dT" | wtm_at "dS" | fail)
local macro_rules | `(tactic| wtm_at "a") => `(tactic| repeat' first | wtm_at "v" | wtm_at "dE" | wtm_at "dO" | wtm_at "dT" | wtm_at "dS" | wtm_at "i" | wtm_at "l" | wtm_at "x" | wtm_at "h" | wtm_at "b" | fail)
local macro_rules | `(tactic| wtm_at "l") => `(tactic| first | refine rc_lenL (.lst _) ?_ | refine rc_lenT' (.tup _) ?_ | refine rc_lenL (.rdl _) ?_ | refine rc_lenL (.own (by first | assumption | exact mu_last)) ?_)
local macro_rules | `(tactic| wtm_at "x") => `(tactic| refine ro_ixT (.tup _) rfl ?_)
local macro_rules | `(tactic| wtm_at "ow") => `(tactic| first | assumption | exact mu_last | exact mu_old (by assumption) | (simp; done) | fail)
local macro_rules | `(tactic| wtm_at "m") => `(tactic| refine ⟨ty_list (.own (by wtm_at "ow")), ?_⟩)
local macro_rules | `(tactic| wtm_at "e") => `(tactic| repeat' first | wtm_at "v" | wtm_at "dE" | wtm_at "dO" | wtm_at "dT" | wtm_at "i" | wtm_at "l" | wtm_at "x" | wtm_at "h" | wtm_at "b" | fail)
local macro_rules | `(tactic| wtm_at "sz") => `(tactic| ((with_reducible show Sz _ ∧ _); refine And.intro (by unfold Sz; first | decide | (simp; done) | (simp; omega) | omega) ?_))
local macro_rules | `(tactic| wtm_at "d2") => `(tactic| with_reducible (first
  | refine de_tupZ ?_
  | refine de_revL ?_
  | refine de_call (by assumption) ?_))
local macro_rules | `(tactic| wtm_at "o2") => `(tactic| first
  | refine ro_mod (by first | decide | omega) ?_
  | refine ro_pow ⟨by decide, by decide, by decide⟩ ?_
  | refine rs_anyL (.lst _) ?_
  | refine ro_mulI (by first | exact .inl ⟨by omega, by omega⟩ | exact .inr ⟨by omega, by omega⟩) ?_
  | refine rc_list (.lst _) ?_
  | refine dg_tup rfl ?_
  | fail)
local macro_rules | `(tactic| wtm_at "h2") => `(tactic| with_reducible (first | refine two_i ?_ | refine ⟨_, Ls.lst _, ?_⟩))
local macro_rules | `(tactic| wtm_at "sP") => `(tactic| with_reducible (first | refine q_parZ ?_ | refine ds_parZ ?_))
local macro_rules | `(tactic| wtm_at "A") => `(tactic| repeat' first | wtm_at "v" | wtm_at "dE" | wtm_at "dO" | wtm_at "dT" | wtm_at "sP" | wtm_at "dS" | wtm_at "d2" | wtm_at "i" | wtm_at "l" | wtm_at "x" | wtm_at "o2" | wtm_at "h" | wtm_at "h2" | wtm_at "sz" | wtm_at "b" | fail)
local macro_rules | `(tactic| wtm_at "E") => `(tactic| repeat' first | wtm_at "v" | wtm_at "dE" | wtm_at "dO" | wtm_at "dT" | wtm_at "d2" | wtm_at "i" | wtm_at "l" | wtm_at "x" | wtm_at "o2" | wtm_at "h" | wtm_at "h2" | wtm_at "sz" | wtm_at "b" | fail)
local macro_rules | `(tactic| wtm_at "f3") => `(tactic| with_reducible (first
  | refine de_fldZ ?_
  | refine de_methZ (by assumption) ?_))
local macro_rules | `(tactic| wtm_at "p3") => `(tactic| first
  | refine fp_obj (by assumption) (by assumption) (by rfl) ?_
  | refine fp_own (by assumption) (by assumption) (by assumption) (by rfl) ?_
  | refine mp_obj (by rfl) ?_
  | refine mp_own (by assumption) (by rfl) ?_)
local macro_rules | `(tactic| wtm_at "s3") => `(tactic| with_reducible (first | refine q_fldZ ?_ | refine ds_fldZ ?_))
local macro_rules | `(tactic| wtm_at "A") => `(tactic| repeat' first | wtm_at "v" | wtm_at "dE" | wtm_at "dO" | wtm_at "dT" | wtm_at "sP" | wtm_at "s3" | wtm_at "dS" | wtm_at "d2" | wtm_at "f3" | wtm_at "i" | wtm_at "l" | wtm_at "x" | wtm_at "o2" | wtm_at "h" | wtm_at "h2" | wtm_at "sz" | wtm_at "p3" | wtm_at "b" | fail)
local macro_rules | `(tactic| wtm_at "E") => `(tactic| repeat' first | wtm_at "v" | wtm_at "dE" | wtm_at "dO" | wtm_at "dT" | wtm_at "d2" | wtm_at "f3" | wtm_at "i" | wtm_at "l" | wtm_at "x" | wtm_at "o2" | wtm_at "h" | wtm_at "h2" | wtm_at "sz" | wtm_at "p3" | wtm_at "b" | fail)
local macro_rules | `(tactic| wtm_at "f4") => `(tactic| with_reducible (first | refine de_isNZ ?_ | refine de_notNZ ?_ | refine np_t ?_))
local macro_rules | `(tactic| wtm_at "g4") => `(tactic| first | refine np_int ?_ | refine np_lst ?_ | refine np_tup ?_ | refine np_obj ?_ | refine np_own ?_ | refine np_str ?_ | refine np_bl ?_)
local macro_rules | `(tactic| wtm_at "A") => `(tactic| repeat' first | wtm_at "v" | wtm_at "f4" | wtm_at "dE" | wtm_at "dO" | wtm_at "dT" | wtm_at "sP" | wtm_at "s3" | wtm_at "dS" | wtm_at "d2" | wtm_at "f3" | wtm_at "i" | wtm_at "l" | wtm_at "x" | wtm_at "o2" | wtm_at "h" | wtm_at "h2" | wtm_at "sz" | wtm_at "p3" | wtm_at "g4" | wtm_at "b" | fail)
local macro_rules | `(tactic| wtm_at "E") => `(tactic| repeat' first | wtm_at "v" | wtm_at "f4" | wtm_at "dE" | wtm_at "dO" | wtm_at "dT" | wtm_at "d2" | wtm_at "f3" | wtm_at "i" | wtm_at "l" | wtm_at "x" | wtm_at "o2" | wtm_at "h" | wtm_at "h2" | wtm_at "sz" | wtm_at "p3" | wtm_at "g4" | wtm_at "b" | fail)
local macro_rules | `(tactic| wtm_at "s5") => `(tactic| with_reducible (first | refine q_par3 ?_ | refine ds_par3 ?_ | refine three_i ?_ | refine di_range2W ?_))
local macro_rules | `(tactic| wtm_at "o5") => `(tactic| first | refine ro_eqNI ?_ | fail)
local macro_rules | `(tactic| wtm_at "A") => `(tactic| repeat' first | wtm_at "v" | wtm_at "f4" | wtm_at "dE" | wtm_at "dO" | wtm_at "dT" | wtm_at "s5" | wtm_at "sP" | wtm_at "s3" | wtm_at "dS" | wtm_at "d2" | wtm_at "f3" | wtm_at "i" | wtm_at "l" | wtm_at "x" | wtm_at "o2" | wtm_at "o5" | wtm_at "h" | wtm_at "h2" | wtm_at "sz" | wtm_at "p3" | wtm_at "g4" | wtm_at "b" | fail)
local macro_rules | `(tactic| wtm_at "E") => `(tactic| repeat' first | wtm_at "v" | wtm_at "f4" | wtm_at "dE" | wtm_at "dO" | wtm_at "dT" | wtm_at "d2" | wtm_at "f3" | wtm_at "i" | wtm_at "l" | wtm_at "x" | wtm_at "o2" | wtm_at "o5" | wtm_at "h" | wtm_at "h2" | wtm_at "sz" | wtm_at "p3" | wtm_at "g4" | wtm_at "b" | fail)
local macro_rules | `(tactic| wtm_at "d6") => `(tactic| with_reducible (first | refine de_dget ?_ | refine de_din ?_ | refine de_dnin ?_ | refine rc_abs ?_))
local macro_rules | `(tactic| wtm_at "g6") => `(tactic| first | refine dgp_s (.own (by assumption)) (by rfl) ?_ | refine dgp_s (.dct _) (by rfl) ?_)
local macro_rules | `(tactic| wtm_at "A") => `(tactic| repeat' first | wtm_at "v" | wtm_at "f4" | wtm_at "dE" | wtm_at "d6" | wtm_at "dO" | wtm_at "dT" | wtm_at "s5" | wtm_at "sP" | wtm_at "s3" | wtm_at "dS" | wtm_at "d2" | wtm_at "f3" | wtm_at "i" | wtm_at "l" | wtm_at "x" | wtm_at "o2" | wtm_at "o5" | wtm_at "h" | wtm_at "h2" | wtm_at "sz" | wtm_at "g6" | wtm_at "p3" | wtm_at "g4" | wtm_at "b" | fail)
local macro_rules | `(tactic| wtm_at "E") => `(tactic| repeat' first | wtm_at "v" | wtm_at "f4" | wtm_at "dE" | wtm_at "d6" | wtm_at "dO" | wtm_at "dT" | wtm_at "d2" | wtm_at "f3" | wtm_at "i" | wtm_at "l" | wtm_at "x" | wtm_at "o2" | wtm_at "o5" | wtm_at "h" | wtm_at "h2" | wtm_at "sz" | wtm_at "g6" | wtm_at "p3" | wtm_at "g4" | wtm_at "b" | fail)
section
variable {K : PySem.W.Frag}
theorem d_law_long : ∀ ds μ P PX, c_law_long K ds μ P PX → MuCl μ μ.length → clL ds μ.length = true → ∀ B E, XAg K B (RetX μ.length PX) E → DS K B (t_law_long K E) (startD ["_law_sections_here", "_law_first", "_law_end", "_law_one"] ds) μ (fnE μ.length P) := by
  intro ds μ P PX h hm hc B E hE
  obtain ⟨ss, f, e, rfl, hl, h0, h1, h2, h⟩ := h
  show DS K B _ [some (secsD ss), some (.int f), some (.int e), none] μ _
  unfold t_law_long
  wtm_at "A"
  refine lc_map secN (gw_name (by simp)) ?_
  wtm_at "A"
  have hcut : cutD (ss.map secD) (some f) (some e) = ((ss.drop f.toNat).take (e - f).toNat).map secD := by
    rw [cut_nat (by omega) (by omega) (by rw [List.length_map]; omega), List.map_take, List.map_drop]
  rw [hcut]
  refine ⟨_, _, .lst _, trivial, by simp; omega, fun j d hj => ?_, fun out ho => ?_⟩
  · obtain ⟨s, _, rfl⟩ := secs_get hj
    wtm_at "A"
    refine ⟨rfl, ?_⟩
    unfold secD
    wtm_at "A"
    exact ⟨rfl, rfl⟩
  wtm_at "A"
  refine rc_sum (ns := ((ss.drop f.toNat).take (e - f).toNat).map (·.1)) ?_ ?_
  · rw [← ho, List.map_map, List.map_map]
    exact .lst _
  wtm_at "r"
  exact h
theorem find_drop {α : Type} {p : α → Bool} {xs : List α} {i : Nat} {x : α} (h : xs[i]? = some x) : (xs.drop i).find? p = if p x then some x else (xs.drop (i + 1)).find? p := by
  rw [drop_cons' h, List.find?_cons]
  cases p x <;> simp
theorem d_first_too_long : ∀ ds μ P PX, c_first_too_long K ds μ P PX → MuCl μ μ.length → clL ds μ.length = true → ∀ B E, XAg K B (RetX μ.length PX) E → DS K B (t_first_too_long K E) (startD ["book", "limit", "first", "end"] ds) μ (fnE μ.length P) := by
  intro ds μ P PX h hm hc B E hE
  obtain ⟨ss, limit, rfl, hg, h⟩ := h
  show DS K B _ [some (bookD K ss), some (.int limit), none, none] μ _
  unfold t_first_too_long
  have hmost := hg.most
  have hch := blkCh hg
  refine q_for ?_
  wtm_at "A"
  refine ⟨ss, rfl, hmost, .inl ?_⟩
  refine ⟨_, _, .lst _, fun i ρ μ' => ∃ y2 y3, ρ = [some (bookD K ss), some (.int limit), y2, y3] ∧ μ = μ' ∧ (((blocks ss).drop i).find? fun p => decide (limit < longOf ss p.1 p.2)).map (·.1) = tooLong ss limit,
    ⟨none, none, rfl, rfl, rfl⟩, fun _ _ _ _ _ => trivial, ?_, ?_⟩
  · rintro i d ρ μ' hd ⟨y2, y3, rfl, rfl, he⟩
    obtain ⟨⟨f, e⟩, hp, rfl⟩ := pairs_get hd
    have hb := hch.mem _ (List.mem_of_getElem? hp)
    have hb1 : 0 ≤ f ∧ f < e ∧ e ≤ ss.length := hb
    rw [find_drop hp] at he
    unfold pairD
    wtm_at "A"
    refine ⟨ss, f, e, rfl, hmost, fun _ => ?_, fun hn => absurd (by omega) hn⟩
    wtm_at "A"
    · rename_i hlt
      rw [if_pos (by simpa using hlt)] at he
      wtm_at "r"
      rw [← he] at h
      exact h
    · rename_i hlt
      rw [if_neg (by simpa using hlt)] at he
      exact ⟨_, _, rfl, rfl, he⟩
  · rintro ρ μ' ⟨y2, y3, rfl, rfl, he⟩
    rw [List.length_map, List.drop_length] at he
    wtm_at "A"
    wtm_at "r"
    rw [← he] at h
    exact h
theorem fewFrom_len (ss : List Sec) (limit : Int) : ∀ (bs : List (Int × Int)) (a b : Int), (fewFrom ss limit a b bs).length ≤ bs.length + 1
  | [], a, b => by simp [fewFrom]
  | (f, e) :: r, a, b => by
    unfold fewFrom
    split
    · have := fewFrom_len ss limit r f e; simp; omega
    · have := fewFrom_len ss limit r a e; simp; omega
theorem d_fewest : ∀ ds μ P PX, c_fewest K ds μ P PX → MuCl μ μ.length → clL ds μ.length = true → ∀ B E, XAg K B (RetX μ.length PX) E → DS K B (t_fewest K E) (startD ["book", "limit", "tight", "pieces", "at", "behind", "first", "end"] ds) μ (fnE μ.length P) := by
  intro ds μ P PX h hm hc B E hE
  obtain ⟨ss, limit, rfl, hg, hx1, hx2, h⟩ := h
  show DS K B _ [some (bookD K ss), some (.int limit), none, none, none, none, none, none] μ _
  unfold t_fewest
  have hmost := hg.most
  have hch := blkCh hg
  have hbl : (blocks ss).length ≤ ss.length := blocksFrom_len ss 0 0
  wtm_at "A"
  · exact ds_raise0 hE (retx_same0 hm rfl (hx1 ‹_›))
  rename_i hl0
  refine ⟨ss, limit, rfl, hg, ?_⟩
  cases ht : tooLong ss limit with
  | some f =>
    unfold optI
    wtm_at "A"
    refine ds_raiseO hE ?_
    wtm_at "A"
    exact ⟨rfl, by decide, retx_same0 hm (by simp [fsOf, clF, D.cl]) (hx2 (by omega) f ht)⟩
  | none =>
    unfold optI
    wtm_at "A"
    refine de_lstOZ ?_
    wtm_at "A"
    refine q_for ?_
    wtm_at "A"
    refine ⟨ss, rfl, hmost, .inl ?_⟩
    refine ⟨_, _, .lst _, fun i ρ μ' => ∃ (a b : Int) (fnd : List (Int × Int)) (y6 y7 : Option D), ρ = [some (bookD K ss), some (.int limit), some .non, some (.own μ.length), some (.int a), some (.int b), y6, y7] ∧ μ' = μ ++ [.lst (fnd.map pairD)] ∧
        fnd ++ fewFrom ss limit a b ((blocks ss).drop i) = fewestOf ss limit ∧ fnd.length ≤ i ∧ 0 ≤ a ∧ a ≤ b ∧ BlkCh ss.length b ((blocks ss).drop i),
      ⟨0, 0, [], none, none, rfl, rfl, rfl, by simp, by omega, by omega, hch⟩, fun _ _ _ _ _ => trivial, ?_, ?_⟩
    · rintro i d ρ μ' hd ⟨a, b, fnd, y6, y7, rfl, rfl, he, hfl, ha0, hab, hb⟩
      obtain ⟨⟨f, e⟩, hp, rfl⟩ := pairs_get hd
      have hi : i < (blocks ss).length := (List.getElem?_eq_some_iff.mp hp).1
      rw [drop_cons' hp] at he hb
      obtain ⟨h1, h2, h3⟩ := hb
      have h4 := h3.le
      unfold fewFrom at he
      unfold pairD
      wtm_at "A"
      refine ⟨ss, a, e, rfl, hmost, fun _ => ?_, fun hn => absurd (by omega) hn⟩
      wtm_at "A"
      · rename_i hlt
        rw [if_pos hlt] at he
        wtm_at "m"
        wtm_at "A"
        refine rm_app mu_last (by simp; omega) ?_
        rw [set_last]
        wtm_at "A"
        refine ⟨f, e, fnd ++ [(a, b)], _, _, rfl, by simp [pairD], by simpa using he, by simp; omega, by omega, by omega, h3⟩
      · rename_i hlt
        rw [if_neg (by omega)] at he
        exact ⟨a, e, fnd, _, _, rfl, rfl, he, by omega, by omega, by omega, h3⟩
    · rintro ρ μ' ⟨a, b, fnd, y6, y7, rfl, rfl, he, hfl, ha0, hab, hb⟩
      rw [List.length_map, List.drop_length] at he
      rw [List.length_map] at hfl
      unfold fewFrom at he
      wtm_at "A"
      wtm_at "m"
      wtm_at "A"
      refine rm_app mu_last (by simp; omega) ?_
      rw [set_last, show fnd.map pairD ++ [.tup [.int a, .int b]] = (fewestOf ss limit).map pairD by rw [← he]; simp [pairD]]
      rcases h (by omega) ht with h | h
      · refine ds_ret (de_frz ?_)
        wtm_at "v"
        refine ⟨_, _, rfl, mu_last, ?_⟩
        rw [set_last]
        exact ret_same (Nat.le_refl _) hm (by simp [D.cl, clL_pairs]) h
      · wtm_at "A"
        exact ret_same0 (by simp) (hm.app (by simp [MO.cl, clL_pairs])) (by simp [D.cl]) h
end
end Dl

set_option Elab.async false
set_option linter.all false
set_option maxRecDepth 100000
namespace Dl
open PySem L2 PyProof.Rows
/-! ### the greedy way, plainly: marks 0..k, L i j how long it is from mark i to mark j -/
def grS (L : Nat → Nat → Int) (m : Int) : Nat → Nat × Nat
  | 0 => (0, 0)
  | j + 1 => if j = 0 ∨ m < L (grS L m j).1 (j + 1) then (j, (grS L m j).2 + 1) else grS L m j
def grC (L : Nat → Nat → Int) (m : Int) (j : Nat) : Nat := (grS L m j).2
structure GrL (L : Nat → Nat → Int) (k : Nat) : Prop where
  mono : ∀ i i' j j', i ≤ i' → i' ≤ j → j ≤ j' → j' ≤ k → L i' j ≤ L i j'
section
variable {L : Nat → Nat → Int} {m : Int} {k : Nat}
theorem grS_inv (h : GrL L k) (hb : ∀ j, j < k → L j (j + 1) ≤ m) : ∀ j, 1 ≤ j → j ≤ k → (grS L m j).1 < j ∧ L (grS L m j).1 j ≤ m ∧ grC L m j = grC L m (grS L m j).1 + 1 ∧ (∀ i, (grS L m j).1 < i → i ≤ j → grC L m i = grC L m j) ∧ ∀ i, i < j → L i j ≤ m → grC L m j ≤ grC L m i + 1
  | 0, h1, _ => by omega
  | j + 1, _, hk => by
    by_cases hj : j = 0
    · subst hj
      have e : grS L m 1 = (0, 1) := by simp [grS]
      have e0 : grC L m 0 = 0 := rfl
      have e1 : grC L m 1 = 1 := by unfold grC; rw [e]
      rw [e]
      refine ⟨by simp, hb 0 (by omega), by simp [e0, e1], fun i h1 h2 => ?_, fun i h1 h2 => ?_⟩
      · have : i = 1 := by simp at h1; omega
        rw [this]
      · have : i = 0 := by omega
        rw [this, e0, e1]
        omega
    · obtain ⟨a1, a2, a3, a4, a5⟩ := grS_inv h hb j (by omega) (by omega)
      by_cases hlt : m < L (grS L m j).1 (j + 1)
      · have e : grS L m (j + 1) = (j, (grS L m j).2 + 1) := by
          rw [grS, if_pos (.inr hlt)]
        have ec : grC L m (j + 1) = grC L m j + 1 := by unfold grC; rw [e]
        rw [e]
        refine ⟨by simp, hb j (by omega), ec, fun i h1 h2 => ?_, fun i h1 h2 => ?_⟩
        · have : i = j + 1 := by simp at h1; omega
          rw [this]
        · have hi : (grS L m j).1 < i := by
            refine Nat.lt_of_not_le fun hle => ?_
            have := h.mono i (grS L m j).1 (j + 1) (j + 1) hle (by omega) (by omega) hk
            omega
          have := a4 i hi (by omega)
          omega
      · have e : grS L m (j + 1) = grS L m j := by
          rw [grS, if_neg (by omega)]
        have ec : grC L m (j + 1) = grC L m j := by unfold grC; rw [e]
        rw [e, ec]
        refine ⟨by omega, by omega, a3, fun i h1 h2 => ?_, fun i h1 h2 => ?_⟩
        · by_cases hi : i = j + 1
          · rw [hi, ec]
          · exact a4 i h1 (by omega)
        · by_cases hi : i = j
          · subst hi; omega
          · refine a5 i (by omega) ?_
            have := h.mono i i j (j + 1) (by omega) (by omega) (by omega) hk
            omega
/-- no way to the mark j is better -/
theorem gr_min (h : GrL L k) (hb : ∀ j, j < k → L j (j + 1) ≤ m) {i j : Nat} (hj : j ≤ k) (hi : i < j) (hl : L i j ≤ m) : grC L m j ≤ grC L m i + 1 := (grS_inv h hb j (by omega) hj).2.2.2.2 i hi hl
theorem gr_ex (h : GrL L k) (hb : ∀ j, j < k → L j (j + 1) ≤ m) {j : Nat} (hj : j ≤ k) (h1 : 1 ≤ j) : ∃ i, i < j ∧ L i j ≤ m ∧ grC L m j = grC L m i + 1 :=
  have q := grS_inv h hb j h1 hj
  ⟨_, q.1, q.2.1, q.2.2.1⟩
/-- a greater limit needs no more pieces -/
theorem gr_anti (h : GrL L k) {m' : Int} (hm : m ≤ m') (hb : ∀ j, j < k → L j (j + 1) ≤ m) : ∀ j, j ≤ k → grC L m' j ≤ grC L m j := by
  intro j
  induction j using Nat.strongRecOn with
  | _ j ih =>
    intro hj
    by_cases h1 : 1 ≤ j
    · obtain ⟨i, hi, hl, e⟩ := gr_ex h hb hj h1
      have q := ih i hi (by omega)
      have := gr_min (m := m') h (fun j hj => Int.le_trans (hb j hj) hm) hj hi (Int.le_trans hl hm)
      omega
    · have : j = 0 := by omega
      subst this
      simp [grC, grS]
end
/-! the marks of a book -/
def marksOf (ss : List Sec) : List Int := 0 :: endsOf ss
def markAt (ss : List Sec) (i : Nat) : Int := (marksOf ss).getD i 0
def LB (ss : List Sec) (i j : Nat) : Int := longOf ss (markAt ss i) (markAt ss j)
theorem BlkCh.marks {n : Int} : ∀ {bs : List (Int × Int)} {a : Int}, BlkCh n a bs → ∀ i p, bs[i]? = some p → p.1 = (a :: bs.map (·.2)).getD i 0 ∧ p.2 = (a :: bs.map (·.2)).getD (i + 1) 0
  | [], _, _, i, p, h => by simp at h
  | (f, e) :: r, a, ⟨h1, h2, h3⟩, 0, p, h => by
    simp at h; subst h
    simp [h1]
  | (f, e) :: r, a, ⟨h1, h2, h3⟩, i + 1, p, h => by
    simp at h
    have := h3.marks i p h
    simpa using this
theorem BlkCh.mono {n : Int} : ∀ {bs : List (Int × Int)} {a : Int}, BlkCh n a bs → ∀ i j, i ≤ j → j ≤ bs.length → a ≤ (a :: bs.map (·.2)).getD i 0 ∧ (a :: bs.map (·.2)).getD i 0 ≤ (a :: bs.map (·.2)).getD j 0 ∧ (a :: bs.map (·.2)).getD j 0 ≤ n
  | [], a, h, i, j, h1, h2 => by
    have : i = 0 ∧ j = 0 := by simp at h2; omega
    obtain ⟨rfl, rfl⟩ := this
    have : a = n := h
    simp; omega
  | (f, e) :: r, a, ⟨h1, h2, h3⟩, i, j, hi, hj => by
    have q0 := h3.le
    cases j with
    | zero =>
      have : i = 0 := by omega
      subst this
      simp; omega
    | succ j =>
      simp at hj
      cases i with
      | zero =>
        have := h3.mono 0 j (by omega) hj
        simp at this ⊢
        omega
      | succ i =>
        have := h3.mono i j (by omega) hj
        simp at this ⊢
        omega
theorem endsOf_len (ss : List Sec) : (endsOf ss).length = (blocks ss).length := by simp [endsOf]
theorem marks_block {ss : List Sec} (hg : Good ss) {i : Nat} {p : Int × Int} (h : (blocks ss)[i]? = some p) : p.1 = markAt ss i ∧ p.2 = markAt ss (i + 1) := (blkCh hg).marks i p h
theorem marks_mono {ss : List Sec} (hg : Good ss) {i j : Nat} (h : i ≤ j) (hj : j ≤ (blocks ss).length) : 0 ≤ markAt ss i ∧ markAt ss i ≤ markAt ss j ∧ markAt ss j ≤ ss.length := (blkCh hg).mono i j h hj
theorem grL_book {ss : List Sec} (hg : Good ss) : GrL (LB ss) (blocks ss).length := ⟨fun i i' j j' h1 h2 h3 h4 => by
  have a := marks_mono hg h1 (by omega)
  have b := marks_mono hg h2 (by omega)
  have c := marks_mono hg h3 (by omega)
  unfold LB
  rw [longOf_add (a := markAt ss i) (b := markAt ss i') (c := markAt ss j') (by omega) (by omega) (by omega), longOf_add (a := markAt ss i') (b := markAt ss j) (c := markAt ss j') (by omega) (by omega) (by omega)]
  have := longOf_nn hg (markAt ss i) (markAt ss i')
  have := longOf_nn hg (markAt ss j) (markAt ss j')
  omega⟩
theorem fits_book {ss : List Sec} (hg : Good ss) {m : Int} (ht : tooLong ss m = none) : ∀ j, j < (blocks ss).length → LB ss j (j + 1) ≤ m := fun j hj => by
  have e := List.getElem?_eq_getElem hj
  have q := marks_block hg e
  unfold LB
  rw [← q.1, ← q.2]
  exact tooLong_none.mp ht _ (List.mem_of_getElem? e)
theorem few_gr {ss : List Sec} (hg : Good ss) {m : Int} (ht : tooLong ss m = none) : ∀ n j, (blocks ss).length = j + n → 1 ≤ j → (fewFrom ss m (markAt ss (grS (LB ss) m j).1) (markAt ss j) ((blocks ss).drop j)).length + grC (LB ss) m j = grC (LB ss) m (blocks ss).length + 1
  | 0, j, hn, h1 => by
    rw [List.drop_of_length_le (by omega), show (blocks ss).length = j by omega]
    simp [fewFrom]
    omega
  | n + 1, j, hn, h1 => by
    have hj : j < (blocks ss).length := by omega
    have e := List.getElem?_eq_getElem hj
    obtain ⟨q1, q2⟩ := marks_block hg e
    have ih := few_gr hg ht n (j + 1) (by omega) (by omega)
    rw [drop_cons' e]
    obtain ⟨f, g, hp⟩ : ∃ f g, (blocks ss)[j] = (f, g) := ⟨_, _, rfl⟩
    rw [hp] at q1 q2 ⊢
    simp only at q1 q2
    subst q1 q2
    unfold fewFrom
    have hs : grS (LB ss) m (j + 1) = if j = 0 ∨ m < LB ss (grS (LB ss) m j).1 (j + 1) then (j, (grS (LB ss) m j).2 + 1) else grS (LB ss) m j := by rw [grS]
    by_cases hlt : m < longOf ss (markAt ss (grS (LB ss) m j).1) (markAt ss (j + 1))
    · rw [if_pos hlt]
      have e2 : grS (LB ss) m (j + 1) = (j, (grS (LB ss) m j).2 + 1) := by rw [hs, if_pos (.inr hlt)]
      have ec : grC (LB ss) m (j + 1) = grC (LB ss) m j + 1 := by unfold grC; rw [e2]
      rw [e2] at ih
      dsimp only at ih
      simp only [List.length_cons]
      omega
    · rw [if_neg hlt]
      have e2 : grS (LB ss) m (j + 1) = grS (LB ss) m j := by rw [hs, if_neg]; intro z; rcases z with z | z; omega; exact hlt z
      have ec : grC (LB ss) m (j + 1) = grC (LB ss) m j := by unfold grC; rw [e2]
      rw [e2] at ih
      omega
theorem few_len {ss : List Sec} (hg : Good ss) {m : Int} (ht : tooLong ss m = none) : (fewestOf ss m).length = grC (LB ss) m (blocks ss).length := by
  have hne := blocks_ne hg
  have hp : 0 < (blocks ss).length := List.length_pos_iff.mpr hne
  have q := few_gr hg ht ((blocks ss).length - 1) 1 (by omega) (by omega)
  have e := List.getElem?_eq_getElem hp
  obtain ⟨q1, q2⟩ := marks_block hg e
  have hf := fits_book hg ht 0 hp
  unfold fewestOf
  have hd := drop_cons' e
  rw [List.drop_zero] at hd
  rw [show fewFrom ss m 0 0 (blocks ss) = fewFrom ss m 0 0 ((blocks ss)[0] :: List.drop (0 + 1) (blocks ss)) from congrArg (fewFrom ss m 0 0) hd]
  obtain ⟨f, g, hpp⟩ : ∃ f g, (blocks ss)[0] = (f, g) := ⟨_, _, rfl⟩
  rw [hpp] at q1 q2 ⊢
  simp only at q1 q2
  subst q1 q2
  unfold fewFrom
  have m0 : markAt ss 0 = 0 := rfl
  unfold LB at hf
  rw [m0] at hf
  rw [if_neg (by simpa using hf)]
  have e1 : grS (LB ss) m 1 = (0, 1) := by simp [grS]
  have e2 : grC (LB ss) m 1 = 1 := by unfold grC; rw [e1]
  rw [e1, e2] at q
  simp only [m0] at q
  simp only [Nat.zero_add] at q ⊢
  omega
/-- by a greater limit there are no more pieces -/
theorem few_anti {ss : List Sec} (hg : Good ss) {m m' : Int} (hm : m ≤ m') (ht : tooLong ss m = none) : tooLong ss m' = none ∧ (fewestOf ss m').length ≤ (fewestOf ss m).length := by
  have ht' : tooLong ss m' = none := tooLong_none.mpr fun p hp => Int.le_trans (tooLong_none.mp ht p hp) hm
  refine ⟨ht', ?_⟩
  rw [few_len hg ht, few_len hg ht']
  exact gr_anti (grL_book hg) hm (fits_book hg ht) _ (Nat.le_refl _)
theorem tooLong_total {ss : List Sec} (hg : Good ss) : tooLong ss (longOf ss 0 ss.length) = none := tooLong_none.mpr fun p hp => by
  have := (blkCh hg).mem p hp
  rw [longOf_add (a := 0) (b := p.1) (c := ss.length) (by omega) (by omega) (by omega), longOf_add (a := p.1) (b := p.2) (c := ss.length) (by omega) (by omega) (by omega)]
  have := longOf_nn hg 0 p.1
  have := longOf_nn hg p.2 ss.length
  omega
theorem few_total {ss : List Sec} (hg : Good ss) {m : Int} (hm : longOf ss 0 ss.length ≤ m) : fewestOf ss m = [(0, (ss.length : Int))] := by
  have key : ∀ (bs : List (Int × Int)) (b : Int), BlkCh ss.length b bs → 0 ≤ b → fewFrom ss m 0 b bs = [(0, (ss.length : Int))] := by
    intro bs
    induction bs with
    | nil => intro b h _; have : b = ss.length := h; subst this; simp [fewFrom]
    | cons p r ih =>
      intro b h hb
      obtain ⟨f, e⟩ := p
      obtain ⟨h1, h2, h3⟩ := h
      unfold fewFrom
      have h4 := h3.le
      have := longOf_add (ss := ss) (a := 0) (b := e) (c := ss.length) (by omega) (by omega) (by omega)
      have := longOf_nn hg e ss.length
      rw [if_neg (by omega)]
      exact ih e h3 (by omega)
  exact key _ 0 (blkCh hg) (by omega)
end Dl

set_option Elab.async false
set_option linter.all false
set_option maxRecDepth 100000
namespace Dl
open PySem L2 PyProof.Rows
local macro_rules | `(tactic| wtm_at "dS") => `(tactic| with_reducible (show DS _ _ _ _ _ _; first
  | refine q_set ?_
  | refine q_when ?_
  | refine ds_ret ?_
  | refine ds_set ?_
  | refine q_drop ?_
  | refine q_if ?_
  | refine q_asg ?_
  | refine q_par ?_
  | refine q_fld ?_
  | refine ds_drop ?_
  | refine s_when ?_
  | refine ds_if ?_
  | refine ds_asg ?_
  | refine ds_next ?_
  | refine ds_par ?_
  | refine ds_fld ?_
  | refine ds_retN ?_))
local macro_rules | `(tactic| wtm_at "dE") => `(tactic| with_reducible (show DE _ _ _ _ _ _; first
  | refine de_op ?_
  | refine de_int ?_
  | refine de_cb ?_
  | refine de_bl ?_
  | refine de_non ?_
  | refine de_str ?_
  | refine de_ty ?_
  | refine de_loc ?_
  | refine de_un ?_
  | refine de_andV ?_
  | refine de_orV ?_
  | refine de_notV ?_
  | refine de_if ?_
  | refine de_chain ?_
  | refine de_chain3 ?_
  | refine de_isN ?_
  | refine de_notN ?_
  | refine de_sl ?_
  | refine de_bm ?_
  | refine de_bm0 ?_))
local macro_rules | `(tactic| wtm_at "dT") => `(tactic| with_reducible (show DT _ _ _ _ _ _; first
  | refine dt_test ?_
  | refine dt_truth ?_
  | refine dt_and ?_
  | refine dt_or ?_
  | refine dt_not ?_
  | refine dt_B ?_
  | refine dt_yes ?_))
local macro_rules | `(tactic| wtm_at "dO") => `(tactic| with_reducible (first
  | refine da_cons ?_
  | refine da_nil ?_
  | refine ro_i ?_
  | refine ro_b ?_
  | refine ro_addI ?_
  | refine ro_eqI ?_
  | refine ro_neI ?_
  | refine ru_i ?_
  | refine ro_ip ?_
  | refine rc_max2' ?_
  | refine rc_min2' ?_
  | refine ro_eqB ?_
  | refine ro_neB ?_
  | refine ro_isB ?_
  | refine ro_notB ?_
  | refine do_no ?_
  | refine do_part ?_
  | refine dg_name ?_
  | refine dgs_cons ?_
  | refine dgs_nil ?_
  | refine dg_sub ?_
  | refine di_range1 ?_
  | refine di_range2 ?_
  | refine di_any ?_
  | refine di_enum' ?_))
local macro_rules | `(tactic| wtm_at "v") => `(tactic| ((with_reducible show DE _ _ (tVar _) _ _ _); refine de_var (by first | rfl | assumption) ?_))
local macro_rules | `(tactic| wtm_at "h") => `(tactic| with_reducible refine ⟨_, rfl, ?_⟩)
local macro_rules | `(tactic| wtm_at "b") => `(tactic| ((first | refine ⟨_, rfl, br ?_ ?_⟩ | refine ⟨_, rfl, br' ?_ ?_⟩ | refine br ?_ ?_ | refine br' ?_ ?_ | fail) <;> intro hb <;> (try contradiction) <;> (try (simp only [decide_eq_true_eq, decide_eq_false_iff_not, Bool.not_eq_true', Bool.not_eq_false', Bool.not_true, Bool.not_false, Bool.not_eq_eq_eq_not, reduceCtorEq, List.length_map] at hb)) <;> (try (exfalso; omega; done))))
local macro_rules | `(tactic| wtm_at "i") => `(tactic| first | refine rc_isiD (by assumption) (by decide) ?_ | refine rc_isiB rfl (by first | rfl | decide +kernel) ?_)
local macro_rules | `(tactic| wtm_at "r") => `(tactic| refine ret_same0 (Nat.le_refl _) (by assumption) (by first | rfl | simp [D.cl, clL]) ?_)
local macro_rules | `(tactic| wtm_at "g") => `(tactic| repeat' first | wtm_at "v" | wtm_at "dE" | wtm_at "dO" | wtm_at "dT" | wtm_at "dS" | fail)
local macro_rules | `(tactic| wtm_at "a") => `(tactic| repeat' first | wtm_at "v" | wtm_at "dE" | wtm_at "dO" | wtm_at "dT" | wtm_at "dS" | wtm_at "i" | wtm_at "l" | wtm_at "x" | wtm_at "h" | wtm_at "b" | fail)
local macro_rules | `(tactic| wtm_at "l") => `(tactic| first | refine rc_lenL (.lst _) ?_ | refine rc_lenT' (.tup _) ?_ | refine rc_lenL (.rdl _) ?_ | refine rc_lenL (.own (by first | assumption | exact mu_last)) ?_)
local macro_rules | `(tactic| wtm_at "x") => `(tactic| refine ro_ixT (.tup _) rfl ?_)
local macro_rules | `(tactic| wtm_at "ow") => `(tactic| first | assumption | exact mu_last | exact mu_old (by assumption) | (simp; done) | fail)
local macro_rules | `(tactic| wtm_at "m") => `(tactic| refine ⟨ty_list (.own (by wtm_at "ow")), ?_⟩)
local macro_rules | `(tactic| wtm_at "e") => `(tactic| repeat' first | wtm_at "v" | wtm_at "dE" | wtm_at "dO" | wtm_at "dT" | wtm_at "i" | wtm_at "l" | wtm_at "x" | wtm_at "h" | wtm_at "b" | fail)
local macro_rules | `(tactic| wtm_at "sz") => `(tactic| ((with_reducible show Sz _ ∧ _); refine And.intro (by unfold Sz; first | decide | (simp; done) | (simp; omega) | omega) ?_))
local macro_rules | `(tactic| wtm_at "d2") => `(tactic| with_reducible (first
  | refine de_tupZ ?_
  | refine de_revL ?_
  | refine de_call (by assumption) ?_))
local macro_rules | `(tactic| wtm_at "o2") => `(tactic| first
  | refine ro_mod (by first | decide | omega) ?_
  | refine ro_pow ⟨by decide, by decide, by decide⟩ ?_
  | refine rs_anyL (.lst _) ?_
  | refine ro_mulI (by first | exact .inl ⟨by omega, by omega⟩ | exact .inr ⟨by omega, by omega⟩) ?_
  | refine rc_list (.lst _) ?_
  | refine dg_tup rfl ?_
  | fail)
local macro_rules | `(tactic| wtm_at "h2") => `(tactic| with_reducible (first | refine two_i ?_ | refine ⟨_, Ls.lst _, ?_⟩))
local macro_rules | `(tactic| wtm_at "sP") => `(tactic| with_reducible (first | refine q_parZ ?_ | refine ds_parZ ?_))
local macro_rules | `(tactic| wtm_at "A") => `(tactic| repeat' first | wtm_at "v" | wtm_at "dE" | wtm_at "dO" | wtm_at "dT" | wtm_at "sP" | wtm_at "dS" | wtm_at "d2" | wtm_at "i" | wtm_at "l" | wtm_at "x" | wtm_at "o2" | wtm_at "h" | wtm_at "h2" | wtm_at "sz" | wtm_at "b" | fail)
local macro_rules | `(tactic| wtm_at "E") => `(tactic| repeat' first | wtm_at "v" | wtm_at "dE" | wtm_at "dO" | wtm_at "dT" | wtm_at "d2" | wtm_at "i" | wtm_at "l" | wtm_at "x" | wtm_at "o2" | wtm_at "h" | wtm_at "h2" | wtm_at "sz" | wtm_at "b" | fail)
local macro_rules | `(tactic| wtm_at "f3") => `(tactic| with_reducible (first
  | refine de_fldZ ?_
  | refine de_methZ (by assumption) ?_))
local macro_rules | `(tactic| wtm_at "p3") => `(tactic| first
  | refine fp_obj (by assumption) (by assumption) (by rfl) ?_
  | refine fp_own (by assumption) (by assumption) (by assumption) (by rfl) ?_
  | refine mp_obj (by rfl) ?_
  | refine mp_own (by assumption) (by rfl) ?_)
local macro_rules | `(tactic| wtm_at "s3") => `(tactic| with_reducible (first | refine q_fldZ ?_ | refine ds_fldZ ?_))
local macro_rules | `(tactic| wtm_at "A") => `(tactic| repeat' first | wtm_at "v" | wtm_at "dE" | wtm_at "dO" | wtm_at "dT" | wtm_at "sP" | wtm_at "s3" | wtm_at "dS" | wtm_at "d2" | wtm_at "f3" | wtm_at "i" | wtm_at "l" | wtm_at "x" | wtm_at "o2" | wtm_at "h" | wtm_at "h2" | wtm_at "sz" | wtm_at "p3" | wtm_at "b" | fail)
local macro_rules | `(tactic| wtm_at "E") => `(tactic| repeat' first | wtm_at "v" | wtm_at "dE" | wtm_at "dO" | wtm_at "dT" | wtm_at "d2" | wtm_at "f3" | wtm_at "i" | wtm_at "l" | wtm_at "x" | wtm_at "o2" | wtm_at "h" | wtm_at "h2" | wtm_at "sz" | wtm_at "p3" | wtm_at "b" | fail)
local macro_rules | `(tactic| wtm_at "f4") => `(tactic| with_reducible (first | refine de_isNZ ?_ | refine de_notNZ ?_ | refine np_t ?_))
local macro_rules | `(tactic| wtm_at "g4") => `(tactic| first | refine np_int ?_ | refine np_lst ?_ | refine np_tup ?_ | refine np_obj ?_ | refine np_own ?_ | refine np_str ?_ | refine np_bl ?_)
local macro_rules | `(tactic| wtm_at "A") => `(tactic| repeat' first | wtm_at "v" | wtm_at "f4" | wtm_at "dE" | wtm_at "dO" | wtm_at "dT" | wtm_at "sP" | wtm_at "s3" | wtm_at "dS" | wtm_at "d2" | wtm_at "f3" | wtm_at "i" | wtm_at "l" | wtm_at "x" | wtm_at "o2" | wtm_at "h" | wtm_at "h2" | wtm_at "sz" | wtm_at "p3" | wtm_at "g4" | wtm_at "b" | fail)
local macro_rules | `(tactic| wtm_at "E") => `(tactic| repeat' first | wtm_at "v" | wtm_at "f4" | wtm_at "dE" | wtm_at "dO" | wtm_at "dT" | wtm_at "d2" | wtm_at "f3" | wtm_at "i" | wtm_at "l" | wtm_at "x" | wtm_at "o2" | wtm_at "h" | wtm_at "h2" | wtm_at "sz" | wtm_at "p3" | wtm_at "g4" | wtm_at "b" | fail)
local macro_rules | `(tactic| wtm_at "s5") => `(tactic| with_reducible (first | refine q_par3 ?_ | refine ds_par3 ?_ | refine three_i ?_ | refine di_range2W ?_))
local macro_rules | `(tactic| wtm_at "o5") => `(tactic| first | refine ro_eqNI ?_ | fail)
local macro_rules | `(tactic| wtm_at "A") => `(tactic| repeat' first | wtm_at "v" | wtm_at "f4" | wtm_at "dE" | wtm_at "dO" | wtm_at "dT" | wtm_at "s5" | wtm_at "sP" | wtm_at "s3" | wtm_at "dS" | wtm_at "d2" | wtm_at "f3" | wtm_at "i" | wtm_at "l" | wtm_at "x" | wtm_at "o2" | wtm_at "o5" | wtm_at "h" | wtm_at "h2" | wtm_at "sz" | wtm_at "p3" | wtm_at "g4" | wtm_at "b" | fail)
local macro_rules | `(tactic| wtm_at "E") => `(tactic| repeat' first | wtm_at "v" | wtm_at "f4" | wtm_at "dE" | wtm_at "dO" | wtm_at "dT" | wtm_at "d2" | wtm_at "f3" | wtm_at "i" | wtm_at "l" | wtm_at "x" | wtm_at "o2" | wtm_at "o5" | wtm_at "h" | wtm_at "h2" | wtm_at "sz" | wtm_at "p3" | wtm_at "g4" | wtm_at "b" | fail)
local macro_rules | `(tactic| wtm_at "d6") => `(tactic| with_reducible (first | refine de_dget ?_ | refine de_din ?_ | refine de_dnin ?_ | refine rc_abs ?_))
local macro_rules | `(tactic| wtm_at "g6") => `(tactic| first | refine dgp_s (.own (by assumption)) (by rfl) ?_ | refine dgp_s (.dct _) (by rfl) ?_)
local macro_rules | `(tactic| wtm_at "A") => `(tactic| repeat' first | wtm_at "v" | wtm_at "f4" | wtm_at "dE" | wtm_at "d6" | wtm_at "dO" | wtm_at "dT" | wtm_at "s5" | wtm_at "sP" | wtm_at "s3" | wtm_at "dS" | wtm_at "d2" | wtm_at "f3" | wtm_at "i" | wtm_at "l" | wtm_at "x" | wtm_at "o2" | wtm_at "o5" | wtm_at "h" | wtm_at "h2" | wtm_at "sz" | wtm_at "g6" | wtm_at "p3" | wtm_at "g4" | wtm_at "b" | fail)
local macro_rules | `(tactic| wtm_at "E") => `(tactic| repeat' first | wtm_at "v" | wtm_at "f4" | wtm_at "dE" | wtm_at "d6" | wtm_at "dO" | wtm_at "dT" | wtm_at "d2" | wtm_at "f3" | wtm_at "i" | wtm_at "l" | wtm_at "x" | wtm_at "o2" | wtm_at "o5" | wtm_at "h" | wtm_at "h2" | wtm_at "sz" | wtm_at "g6" | wtm_at "p3" | wtm_at "g4" | wtm_at "b" | fail)
theorem shp_pairs (ps : List (Int × Int)) : shpL (ps.map pairD) 1 = true := shpL_map fun x _ => by simp [pairD, D.shp, shpL]
section
variable {K : PySem.W.Frag}
theorem d_longest_block : ∀ ds μ P PX, c_longest_block K ds μ P PX → MuCl μ μ.length → clL ds μ.length = true → ∀ B E, XAg K B (RetX μ.length PX) E → DS K B (t_longest_block K E) (startD ["book", "first", "end"] ds) μ (fnE μ.length P) := by
  intro ds μ P PX h hm hc B E hE
  obtain ⟨ss, rfl, hg, h⟩ := h
  show DS K B _ [some (bookD K ss), none, none] μ _
  unfold t_longest_block
  have hmost := hg.most
  have hch := blkCh hg
  have hbl : (blocks ss).length ≤ ss.length := blocksFrom_len ss 0 0
  wtm_at "A"
  refine lc_map (fun d => match d with | .tup [.int f, .int e] => .int (longOf ss f e) | _ => .non) (gw_tup (gws_cons (i := 1) (vs := [1, 2]) (by simp) (gws_cons (i := 2) (by simp) gws_nil))) ?_
  wtm_at "A"
  refine ⟨ss, rfl, hmost, .inl ?_⟩
  refine ⟨_, _, .lst _, trivial, by simp; omega, fun j d hj => ?_, fun out ho => ?_⟩
  · obtain ⟨⟨f, e⟩, hp, rfl⟩ := pairs_get hj
    have hb := hch.mem _ (List.mem_of_getElem? hp)
    have hb1 : 0 ≤ f ∧ f < e ∧ e ≤ ss.length := hb
    unfold pairD
    wtm_at "A"
    refine ⟨rfl, ?_⟩
    refine de_methZ XAg.none ?_
    wtm_at "A"
    exact ⟨ss, f, e, rfl, hmost, fun _ => ⟨rfl, rfl⟩, fun hn => absurd (by omega) hn⟩
  have ho' : out = (sizesOf ss).map D.int := by
    rw [← ho, sizesOf, List.map_map, List.map_map]
    rfl
  subst ho'
  wtm_at "A"
  refine rc_max' (.lst _) ?_ fun m h1 h2 => ?_
  · have := List.length_pos_iff.mpr (blocks_ne hg)
    simpa [sizesOf] using this
  · wtm_at "r"
    exact h m h1 h2
theorem d_least_limit : ∀ ds μ P PX, c_least_limit K ds μ P PX → MuCl μ μ.length → clL ds μ.length = true → ∀ B E, XAg K B (RetX μ.length PX) E → DS K B (t_least_limit K E) (startD ["book", "many", "low", "high", "middle"] ds) μ (fnE μ.length P) := by
  intro ds μ P PX h hm hc B E hE
  obtain ⟨ss, many, rfl, hg, hx, h⟩ := h
  show DS K B _ [some (bookD K ss), some (.int many), none, none, none] μ _
  unfold t_least_limit
  have hmost := hg.most
  have hpos := hg.pos
  wtm_at "A"
  · exact ds_raise0 hE (retx_same0 hm rfl (hx ‹_›))
  rename_i hm1
  refine ⟨ss, rfl, hg, fun lo hlo1 hlo2 => ?_⟩
  have lo0 : 0 ≤ lo := by
    obtain ⟨p, _, rfl⟩ := List.mem_map.mp hlo1
    exact longOf_nn hg _ _
  have lot : ∀ m', lo ≤ m' → tooLong ss m' = none := fun m' hm' => tooLong_none_sizes.mpr fun y hy => Int.le_trans (hlo2 y hy) hm'
  have lon : ∀ m', m' < lo → ¬ fewOk ss many m' := fun m' hm' q => by
    have := tooLong_none_sizes.mp q.1 lo hlo1
    omega
  wtm_at "A"
  refine ⟨ss, rfl, ?_⟩
  wtm_at "A"
  refine ⟨ss, 0, ss.length, rfl, hmost, fun _ => ?_, fun hn => absurd (by omega) hn⟩
  have htot : tooLong ss (longOf ss 0 ss.length) = none := tooLong_total hg
  have lotot : lo ≤ longOf ss 0 ss.length := tooLong_none_sizes.mp htot lo hlo1
  have ftot : fewOk ss many (longOf ss 0 ss.length) := ⟨htot, by rw [few_total hg (by omega)]; simp; omega⟩
  wtm_at "A"
  refine q_while (fun n ρ μ' => ∃ (l hh : Int) (y4 : Option D), ρ = [some (bookD K ss), some (.int many), some (.int l), some (.int hh), y4] ∧ μ = μ' ∧ lo ≤ l ∧ l ≤ hh ∧ (∀ m', m' < l → ¬ fewOk ss many m') ∧ fewOk ss many hh ∧ n = (hh - l).toNat)
    ⟨lo, longOf ss 0 ss.length, none, rfl, rfl, by omega, by omega, lon, ftot, rfl⟩ ?_
  rintro n ρ μ' ⟨l, hh, y4, rfl, rfl, h1, h2, h3, h4, rfl⟩
  wtm_at "A"
  · rename_i hlt
    refine ro_fdiv (i := l + hh) (j := 2) (by decide) (by decide) ?_
    have hmid : l ≤ (l + hh) / 2 ∧ (l + hh) / 2 < hh := by omega
    wtm_at "A"
    refine ⟨ss, (l + hh) / 2, rfl, hg, fun hn => absurd hn (by omega), fun _ f hf => absurd hf (by rw [lot _ (by omega)]; simp), fun _ _ => .inl ?_⟩
    wtm_at "A"
    · rename_i hle
      refine ⟨_, ?_, l, (l + hh) / 2, _, rfl, rfl, h1, by omega, h3, ⟨lot _ (by omega), by simpa using hle⟩, rfl⟩
      omega
    · rename_i hle
      refine ⟨_, ?_, (l + hh) / 2 + 1, hh, _, rfl, rfl, by omega, by omega, fun m' hm' q => ?_, h4, rfl⟩
      · omega
      · have q2 := (few_anti hg (m := m') (m' := (l + hh) / 2) (by omega) q.1).2
        have q3 := q.2
        omega
  · rename_i hlt
    have e : l = hh := by omega
    subst e
    wtm_at "r"
    exact h (by omega) l (by omega) h4 h3
theorem d_law_blocks : ∀ ds μ P PX, c_law_blocks K ds μ P PX → MuCl μ μ.length → clL ds μ.length = true → ∀ B E, XAg K B (RetX μ.length PX) E → DS K B (t_law_blocks K E) (startD ["_law_sections_here", "_law_found", "_law_first", "_law_at", "_law_one"] ds) μ (fnE μ.length P) := by
  intro ds μ P PX h hm hc B E hE
  obtain ⟨ss, rfl, hl, h⟩ := h
  show DS K B _ [some (secsD ss), none, none, none, none] μ _
  unfold t_law_blocks
  wtm_at "A"
  refine de_lstOZ ?_
  wtm_at "A"
  refine q_for ?_
  wtm_at "A"
  refine ⟨_, _, _, rfl, .lst _, .lst _, fun i ρ μ' => ∃ fnd first y3 y4, ρ = [some (secsD ss), some (.own μ.length), some (.int first), y3, y4] ∧ μ' = μ ++ [.lst (fnd.map pairD)] ∧ fnd ++ blocksFrom first i (ss.drop i) = blocks ss ∧ fnd.length ≤ i,
    ⟨[], 0, none, none, rfl, rfl, rfl, by simp⟩, fun _ _ _ _ _ => trivial, ?_, ?_⟩
  · rintro i d ρ μ' hd ⟨fnd, first, y3, y4, rfl, rfl, he, hfl⟩
    obtain ⟨x, hx, rfl⟩ := enumD_some hd
    obtain ⟨s, hs, rfl⟩ := secs_get hx
    have hi : i < ss.length := (List.getElem?_eq_some_iff.mp hs).1
    rw [drop_cons' hs] at he
    wtm_at "A"
    · rename_i hb
      simp only [hb, blocksFrom] at he
      wtm_at "m"
      wtm_at "A"
      refine rm_app mu_last (by simp; omega) ?_
      rw [set_last]
      wtm_at "A"
      refine ⟨fnd ++ [(first, (i : Int) + 1)], (i : Int) + 1, _, _, rfl, by simp [pairD], ?_, by simp; omega⟩
      rw [List.append_assoc]
      simpa using he
    · rename_i hb
      simp only [hb, blocksFrom] at he
      exact ⟨fnd, first, _, _, rfl, rfl, by simpa using he, by omega⟩
  · rintro ρ μ' ⟨fnd, first, y3, y4, rfl, rfl, he, hfl⟩
    rw [enumD_length, List.length_map, List.drop_length] at he
    simp only [blocksFrom, List.append_nil] at he
    subst he
    refine ds_ret (de_frz ?_)
    wtm_at "v"
    refine ⟨_, _, rfl, mu_last, ?_⟩
    rw [set_last]
    exact ret_same (by simp) hm (by simp [D.cl, clL_pairs]) h
theorem d_law_word (kx : KExc K excNames) : ∀ ds μ P PX, c_law_word K ds μ P PX → MuCl μ μ.length → clL ds μ.length = true → ∀ B E, XAg K B (RetX μ.length PX) E → DS K B (t_law_word K E) (startD ["_law_e", "_law_found", "_law_words", "_law_some", "_law_word_here", "_law_good"] ds) μ (fnE μ.length P) := by
  intro ds μ P PX h hm hc B E hE
  obtain ⟨x, gs, rfl, hx, h⟩ := h
  show DS K B _ [some (.exc (He.ga K x) gs), none, none, none, none, none] μ _
  unfold t_law_word
  have is : ∀ {y : Str} {Q : D → Mu → Prop}, y ∈ excNames → Q (.bl (decide (x = y))) μ → RC K (rIsX K) [.exc (He.ga K x) gs, .loc (He.ga K y)] μ Q := fun hy q => rc_isX (kx.ec x hx) (.loc _) (kx.is x hx _ hy) q
  have L4 : ∀ {a b c d : Str} {ρ : En} {Q : D → Mu → Prop}, ρ[0]? = some (some (.exc (He.ga K x) gs)) → a ∈ excNames → b ∈ excNames → c ∈ excNames → d ∈ excNames → Q (.lst [.bl (decide (x = a)), .bl (decide (x = b)), .bl (decide (x = c)), .bl (decide (x = d))]) μ →
      DE K B (tLst (tCons (tCB (rIsX K) (tCons (tVar 0) (tCons (tC (.ref (He.ga K a))) tNil))) (tCons (tCB (rIsX K) (tCons (tVar 0) (tCons (tC (.ref (He.ga K b))) tNil))) (tCons (tCB (rIsX K) (tCons (tVar 0) (tCons (tC (.ref (He.ga K c))) tNil))) (tCons (tCB (rIsX K) (tCons (tVar 0) (tCons (tC (.ref (He.ga K d))) tNil))) tNil))))) ρ μ Q := by
    intro a b c d ρ Q hρ ha hb hc hd q
    refine de_lstZ ?_
    wtm_at "A"
    refine is ha ?_
    wtm_at "A"
    refine is hb ?_
    wtm_at "A"
    refine is hc ?_
    wtm_at "A"
    refine is hd ?_
    wtm_at "A"
    exact q
  have L3 : ∀ {a b c : Str} {ρ : En} {Q : D → Mu → Prop}, ρ[0]? = some (some (.exc (He.ga K x) gs)) → a ∈ excNames → b ∈ excNames → c ∈ excNames → Q (.lst [.bl (decide (x = a)), .bl (decide (x = b)), .bl (decide (x = c))]) μ →
      DE K B (tLst (tCons (tCB (rIsX K) (tCons (tVar 0) (tCons (tC (.ref (He.ga K a))) tNil))) (tCons (tCB (rIsX K) (tCons (tVar 0) (tCons (tC (.ref (He.ga K b))) tNil))) (tCons (tCB (rIsX K) (tCons (tVar 0) (tCons (tC (.ref (He.ga K c))) tNil))) tNil)))) ρ μ Q := by
    intro a b c ρ Q hρ ha hb hc q
    refine de_lstZ ?_
    wtm_at "A"
    refine is ha ?_
    wtm_at "A"
    refine is hb ?_
    wtm_at "A"
    refine is hc ?_
    wtm_at "A"
    exact q
  wtm_at "A"
  refine L4 rfl (by simp [excNames]) (by simp [excNames]) (by simp [excNames]) (by simp [excNames]) ?_
  wtm_at "A"
  refine L4 rfl (by simp [excNames]) (by simp [excNames]) (by simp [excNames]) (by simp [excNames]) ?_
  wtm_at "A"
  refine ro_addL (.lst _) (.lst _) (by simp) ?_
  wtm_at "A"
  refine L3 rfl (by simp [excNames]) (by simp [excNames]) (by simp [excNames]) ?_
  wtm_at "A"
  refine ro_addL (.lst _) (.lst _) (by simp) ?_
  wtm_at "A"
  refine L3 rfl (by simp [excNames]) (by simp [excNames]) (by simp [excNames]) ?_
  wtm_at "A"
  refine ro_addL (.lst _) (.lst _) (by simp) ?_
  wtm_at "A"
  refine de_lstZ ?_
  wtm_at "A"
  refine de_lstZ ?_
  wtm_at "A"
  refine ro_addL (.lst _) (.lst _) (by simp) ?_
  wtm_at "A"
  refine lc_filt (fun d => match d with | .tup [_, .bl b] => b | _ => false) (fun d => match d with | .tup [.str s, _] => .str s | _ => .non) (gw_tup (gws_cons (i := 4) (vs := [4, 5]) (by simp) (gws_cons (i := 5) (by simp) gws_nil))) ?_
  refine di_zip ?_
  wtm_at "A"
  refine ⟨_, _, rfl, trivial, by simp [zipD], fun j d hj => ?_, fun out ho => ?_⟩
  · obtain ⟨a, b, ha, hb, rfl⟩ := zipD_some hj
    have hb' : ∃ v, b = .bl v := by
      have := List.mem_of_getElem? hb
      simp at this
      rcases this with h | h | h | h | h | h | h | h | h | h | h | h | h | h <;> exact ⟨_, h⟩
    have ha' : ∃ v, a = .str v := by
      have := List.mem_of_getElem? ha
      simp at this
      rcases this with h | h | h | h | h | h | h | h | h | h | h | h | h | h <;> exact ⟨_, h⟩
    obtain ⟨v, rfl⟩ := hb'
    obtain ⟨u, rfl⟩ := ha'
    wtm_at "A"
    refine ⟨rfl, ?_⟩
    wtm_at "A"
    refine ⟨rfl, rfl, fun hv => ?_⟩
    wtm_at "A"
    exact ⟨rfl, rfl⟩
  have ho' : out = [.str x] := by
    rw [← ho]
    simp only [excNames, List.mem_cons, List.not_mem_nil, or_false] at hx
    rcases hx with h | h | h | h | h | h | h | h | h | h | h | h | h | h <;> subst h <;> kernel_rfl
  subst ho'
  wtm_at "A"
  refine rc_isX (kx.ec x hx) (.ty _) (kx.ve x hx) ?_
  wtm_at "A"
  refine ro_ixL (.lst _) rfl ?_
  wtm_at "r"
  exact h
end
end Dl

set_option Elab.async false
set_option linter.all false
set_option maxRecDepth 100000
namespace Dl
open PySem L2 PyProof.Rows
def t_law_tried (K : PySem.W.Frag) (E : XK) (td : WX → TE) : TS :=
    (tSeq (tAsg (tC .non) (gName 1))
      (tSeq (tTry K (.ref (He.ga K "ReadError")) 2 (fun W => (tDrop (td W))) (tAsg (tVar 2) (gName 1)) (fun _ _ _ _ => False))
      (tRet (tIf (tB (tIsN (tVar 1))) (tC (.str "")) (tCall (spD K (c_law_word K)) [] E (tCons (tVar 1) tNil))))))

local macro_rules | `(tactic| wtm_at "dS") => `(tactic| with_reducible (show DS _ _ _ _ _ _; first
  | refine q_set ?_
  | refine q_when ?_
  | refine ds_ret ?_
  | refine ds_set ?_
  | refine q_drop ?_
  | refine q_if ?_
  | refine q_asg ?_
  | refine q_par ?_
  | refine q_fld ?_
  | refine ds_drop ?_
  | refine s_when ?_
  | refine ds_if ?_
  | refine ds_asg ?_
  | refine ds_next ?_
  | refine ds_par ?_
  | refine ds_fld ?_
  | refine ds_retN ?_))
local macro_rules | `(tactic| wtm_at "dE") => `(tactic| with_reducible (show DE _ _ _ _ _ _; first
  | refine de_op ?_
  | refine de_int ?_
  | refine de_cb ?_
  | refine de_bl ?_
  | refine de_non ?_
  | refine de_str ?_
  | refine de_ty ?_
  | refine de_loc ?_
  | refine de_un ?_
  | refine de_andV ?_
  | refine de_orV ?_
  | refine de_notV ?_
  | refine de_if ?_
  | refine de_chain ?_
  | refine de_chain3 ?_
  | refine de_isN ?_
  | refine de_notN ?_
  | refine de_sl ?_
  | refine de_bm ?_
  | refine de_bm0 ?_))
local macro_rules | `(tactic| wtm_at "dT") => `(tactic| with_reducible (show DT _ _ _ _ _ _; first
  | refine dt_test ?_
  | refine dt_truth ?_
  | refine dt_and ?_
  | refine dt_or ?_
  | refine dt_not ?_
  | refine dt_B ?_
  | refine dt_yes ?_))
local macro_rules | `(tactic| wtm_at "dO") => `(tactic| with_reducible (first
  | refine da_cons ?_
  | refine da_nil ?_
  | refine ro_i ?_
  | refine ro_b ?_
  | refine ro_addI ?_
  | refine ro_eqI ?_
  | refine ro_neI ?_
  | refine ru_i ?_
  | refine ro_ip ?_
  | refine rc_max2' ?_
  | refine rc_min2' ?_
  | refine ro_eqB ?_
  | refine ro_neB ?_
  | refine ro_isB ?_
  | refine ro_notB ?_
  | refine do_no ?_
  | refine do_part ?_
  | refine dg_name ?_
  | refine dgs_cons ?_
  | refine dgs_nil ?_
  | refine dg_sub ?_
  | refine di_range1 ?_
  | refine di_range2 ?_
  | refine di_any ?_
  | refine di_enum' ?_))
local macro_rules | `(tactic| wtm_at "v") => `(tactic| ((with_reducible show DE _ _ (tVar _) _ _ _); refine de_var (by first | rfl | assumption) ?_))
local macro_rules | `(tactic| wtm_at "h") => `(tactic| with_reducible refine ⟨_, rfl, ?_⟩)
local macro_rules | `(tactic| wtm_at "b") => `(tactic| ((first | refine ⟨_, rfl, br ?_ ?_⟩ | refine ⟨_, rfl, br' ?_ ?_⟩ | refine br ?_ ?_ | refine br' ?_ ?_ | fail) <;> intro hb <;> (try contradiction) <;> (try (simp only [decide_eq_true_eq, decide_eq_false_iff_not, Bool.not_eq_true', Bool.not_eq_false', Bool.not_true, Bool.not_false, Bool.not_eq_eq_eq_not, reduceCtorEq, List.length_map] at hb)) <;> (try (exfalso; omega; done))))
local macro_rules | `(tactic| wtm_at "i") => `(tactic| first | refine rc_isiD (by assumption) (by decide) ?_ | refine rc_isiB rfl (by first | rfl | decide +kernel) ?_)
local macro_rules | `(tactic| wtm_at "r") => `(tactic| refine ret_same0 (Nat.le_refl _) (by assumption) (by first | rfl | simp [D.cl, clL]) ?_)
local macro_rules | `(tactic| wtm_at "g") => `(tactic| repeat' first | wtm_at "v" | wtm_at "dE" | wtm_at "dO" | wtm_at "dT" | wtm_at "dS" | fail)
local macro_rules | `(tactic| wtm_at "a") => `(tactic| repeat' first | wtm_at "v" | wtm_at "dE" | wtm_at "dO" | wtm_at "dT" | wtm_at "dS" | wtm_at "i" | wtm_at "l" | wtm_at "x" | wtm_at "h" | wtm_at "b" | fail)
local macro_rules | `(tactic| wtm_at "l") => `(tactic| first | refine rc_lenL (.lst _) ?_ | refine rc_lenT' (.tup _) ?_ | refine rc_lenL (.rdl _) ?_ | refine rc_lenL (.own (by first | assumption | exact mu_last)) ?_)
local macro_rules | `(tactic| wtm_at "x") => `(tactic| refine ro_ixT (.tup _) rfl ?_)
local macro_rules | `(tactic| wtm_at "ow") => `(tactic| first | assumption | exact mu_last | exact mu_old (by assumption) | (simp; done) | fail)
local macro_rules | `(tactic| wtm_at "m") => `(tactic| refine ⟨ty_list (.own (by wtm_at "ow")), ?_⟩)
local macro_rules | `(tactic| wtm_at "e") => `(tactic| repeat' first | wtm_at "v" | wtm_at "dE" | wtm_at "dO" | wtm_at "dT" | wtm_at "i" | wtm_at "l" | wtm_at "x" | wtm_at "h" | wtm_at "b" | fail)
local macro_rules | `(tactic| wtm_at "sz") => `(tactic| ((with_reducible show Sz _ ∧ _); refine And.intro (by unfold Sz; first | decide | (simp; done) | (simp; omega) | omega) ?_))
local macro_rules | `(tactic| wtm_at "d2") => `(tactic| with_reducible (first
  | refine de_tupZ ?_
  | refine de_revL ?_
  | refine de_call (by assumption) ?_))
local macro_rules | `(tactic| wtm_at "o2") => `(tactic| first
  | refine ro_mod (by first | decide | omega) ?_
  | refine ro_pow ⟨by decide, by decide, by decide⟩ ?_
  | refine rs_anyL (.lst _) ?_
  | refine ro_mulI (by first | exact .inl ⟨by omega, by omega⟩ | exact .inr ⟨by omega, by omega⟩) ?_
  | refine rc_list (.lst _) ?_
  | refine dg_tup rfl ?_
  | fail)
local macro_rules | `(tactic| wtm_at "h2") => `(tactic| with_reducible (first | refine two_i ?_ | refine ⟨_, Ls.lst _, ?_⟩))
local macro_rules | `(tactic| wtm_at "sP") => `(tactic| with_reducible (first | refine q_parZ ?_ | refine ds_parZ ?_))
local macro_rules | `(tactic| wtm_at "A") => `(tactic| repeat' first | wtm_at "v" | wtm_at "dE" | wtm_at "dO" | wtm_at "dT" | wtm_at "sP" | wtm_at "dS" | wtm_at "d2" | wtm_at "i" | wtm_at "l" | wtm_at "x" | wtm_at "o2" | wtm_at "h" | wtm_at "h2" | wtm_at "sz" | wtm_at "b" | fail)
local macro_rules | `(tactic| wtm_at "E") => `(tactic| repeat' first | wtm_at "v" | wtm_at "dE" | wtm_at "dO" | wtm_at "dT" | wtm_at "d2" | wtm_at "i" | wtm_at "l" | wtm_at "x" | wtm_at "o2" | wtm_at "h" | wtm_at "h2" | wtm_at "sz" | wtm_at "b" | fail)
local macro_rules | `(tactic| wtm_at "f3") => `(tactic| with_reducible (first
  | refine de_fldZ ?_
  | refine de_methZ (by assumption) ?_))
local macro_rules | `(tactic| wtm_at "p3") => `(tactic| first
  | refine fp_obj (by assumption) (by assumption) (by rfl) ?_
  | refine fp_own (by assumption) (by assumption) (by assumption) (by rfl) ?_
  | refine mp_obj (by rfl) ?_
  | refine mp_own (by assumption) (by rfl) ?_)
local macro_rules | `(tactic| wtm_at "s3") => `(tactic| with_reducible (first | refine q_fldZ ?_ | refine ds_fldZ ?_))
local macro_rules | `(tactic| wtm_at "A") => `(tactic| repeat' first | wtm_at "v" | wtm_at "dE" | wtm_at "dO" | wtm_at "dT" | wtm_at "sP" | wtm_at "s3" | wtm_at "dS" | wtm_at "d2" | wtm_at "f3" | wtm_at "i" | wtm_at "l" | wtm_at "x" | wtm_at "o2" | wtm_at "h" | wtm_at "h2" | wtm_at "sz" | wtm_at "p3" | wtm_at "b" | fail)
local macro_rules | `(tactic| wtm_at "E") => `(tactic| repeat' first | wtm_at "v" | wtm_at "dE" | wtm_at "dO" | wtm_at "dT" | wtm_at "d2" | wtm_at "f3" | wtm_at "i" | wtm_at "l" | wtm_at "x" | wtm_at "o2" | wtm_at "h" | wtm_at "h2" | wtm_at "sz" | wtm_at "p3" | wtm_at "b" | fail)
local macro_rules | `(tactic| wtm_at "f4") => `(tactic| with_reducible (first | refine de_isNZ ?_ | refine de_notNZ ?_ | refine np_t ?_))
local macro_rules | `(tactic| wtm_at "g4") => `(tactic| first | refine np_int ?_ | refine np_lst ?_ | refine np_tup ?_ | refine np_obj ?_ | refine np_own ?_ | refine np_str ?_ | refine np_bl ?_)
local macro_rules | `(tactic| wtm_at "A") => `(tactic| repeat' first | wtm_at "v" | wtm_at "f4" | wtm_at "dE" | wtm_at "dO" | wtm_at "dT" | wtm_at "sP" | wtm_at "s3" | wtm_at "dS" | wtm_at "d2" | wtm_at "f3" | wtm_at "i" | wtm_at "l" | wtm_at "x" | wtm_at "o2" | wtm_at "h" | wtm_at "h2" | wtm_at "sz" | wtm_at "p3" | wtm_at "g4" | wtm_at "b" | fail)
local macro_rules | `(tactic| wtm_at "E") => `(tactic| repeat' first | wtm_at "v" | wtm_at "f4" | wtm_at "dE" | wtm_at "dO" | wtm_at "dT" | wtm_at "d2" | wtm_at "f3" | wtm_at "i" | wtm_at "l" | wtm_at "x" | wtm_at "o2" | wtm_at "h" | wtm_at "h2" | wtm_at "sz" | wtm_at "p3" | wtm_at "g4" | wtm_at "b" | fail)
local macro_rules | `(tactic| wtm_at "s5") => `(tactic| with_reducible (first | refine q_par3 ?_ | refine ds_par3 ?_ | refine three_i ?_ | refine di_range2W ?_))
local macro_rules | `(tactic| wtm_at "o5") => `(tactic| first | refine ro_eqNI ?_ | fail)
local macro_rules | `(tactic| wtm_at "A") => `(tactic| repeat' first | wtm_at "v" | wtm_at "f4" | wtm_at "dE" | wtm_at "dO" | wtm_at "dT" | wtm_at "s5" | wtm_at "sP" | wtm_at "s3" | wtm_at "dS" | wtm_at "d2" | wtm_at "f3" | wtm_at "i" | wtm_at "l" | wtm_at "x" | wtm_at "o2" | wtm_at "o5" | wtm_at "h" | wtm_at "h2" | wtm_at "sz" | wtm_at "p3" | wtm_at "g4" | wtm_at "b" | fail)
local macro_rules | `(tactic| wtm_at "E") => `(tactic| repeat' first | wtm_at "v" | wtm_at "f4" | wtm_at "dE" | wtm_at "dO" | wtm_at "dT" | wtm_at "d2" | wtm_at "f3" | wtm_at "i" | wtm_at "l" | wtm_at "x" | wtm_at "o2" | wtm_at "o5" | wtm_at "h" | wtm_at "h2" | wtm_at "sz" | wtm_at "p3" | wtm_at "g4" | wtm_at "b" | fail)
local macro_rules | `(tactic| wtm_at "d6") => `(tactic| with_reducible (first | refine de_dget ?_ | refine de_din ?_ | refine de_dnin ?_ | refine rc_abs ?_))
local macro_rules | `(tactic| wtm_at "g6") => `(tactic| first | refine dgp_s (.own (by assumption)) (by rfl) ?_ | refine dgp_s (.dct _) (by rfl) ?_)
local macro_rules | `(tactic| wtm_at "A") => `(tactic| repeat' first | wtm_at "v" | wtm_at "f4" | wtm_at "dE" | wtm_at "d6" | wtm_at "dO" | wtm_at "dT" | wtm_at "s5" | wtm_at "sP" | wtm_at "s3" | wtm_at "dS" | wtm_at "d2" | wtm_at "f3" | wtm_at "i" | wtm_at "l" | wtm_at "x" | wtm_at "o2" | wtm_at "o5" | wtm_at "h" | wtm_at "h2" | wtm_at "sz" | wtm_at "g6" | wtm_at "p3" | wtm_at "g4" | wtm_at "b" | fail)
local macro_rules | `(tactic| wtm_at "E") => `(tactic| repeat' first | wtm_at "v" | wtm_at "f4" | wtm_at "dE" | wtm_at "d6" | wtm_at "dO" | wtm_at "dT" | wtm_at "d2" | wtm_at "f3" | wtm_at "i" | wtm_at "l" | wtm_at "x" | wtm_at "o2" | wtm_at "o5" | wtm_at "h" | wtm_at "h2" | wtm_at "sz" | wtm_at "g6" | wtm_at "p3" | wtm_at "g4" | wtm_at "b" | fail)
local macro_rules | `(tactic| wtm_at "d7") => `(tactic| with_reducible (first | refine de_xfZ ?_ | refine np_exc ?_))
local macro_rules | `(tactic| wtm_at "g7") => `(tactic| first | refine xf_i (by assumption) (by simp) (by rfl) ?_ | refine ro_eqSS (by decide +kernel) ?_ | refine ro_neSS (by decide +kernel) ?_ | refine ro_eqSd (by decide +kernel) (by decide +kernel) (by decide +kernel) ?_ | refine ro_neSd (by decide +kernel) (by decide +kernel) (by decide +kernel) ?_)
local macro_rules | `(tactic| wtm_at "A") => `(tactic| repeat' first | wtm_at "v" | wtm_at "f4" | wtm_at "d7" | wtm_at "dE" | wtm_at "d6" | wtm_at "dO" | wtm_at "dT" | wtm_at "s5" | wtm_at "sP" | wtm_at "s3" | wtm_at "dS" | wtm_at "d2" | wtm_at "f3" | wtm_at "i" | wtm_at "l" | wtm_at "x" | wtm_at "o2" | wtm_at "o5" | wtm_at "h" | wtm_at "h2" | wtm_at "sz" | wtm_at "g6" | wtm_at "p3" | wtm_at "g4" | wtm_at "g7" | wtm_at "b" | fail)
local macro_rules | `(tactic| wtm_at "E") => `(tactic| repeat' first | wtm_at "v" | wtm_at "f4" | wtm_at "d7" | wtm_at "dE" | wtm_at "d6" | wtm_at "dO" | wtm_at "dT" | wtm_at "d2" | wtm_at "f3" | wtm_at "i" | wtm_at "l" | wtm_at "x" | wtm_at "o2" | wtm_at "o5" | wtm_at "h" | wtm_at "h2" | wtm_at "sz" | wtm_at "g6" | wtm_at "p3" | wtm_at "g4" | wtm_at "g7" | wtm_at "b" | fail)
section
variable {K : PySem.W.Frag} {B : Bs} {ρ : En} {μ : Mu} {P : D → Mu → Prop}
theorem xag_imp {PX PX' : PXT} {E : XK} (h : XAg K B PX E) (i : ∀ C fs μ', PX' C fs μ' → PX C fs μ') : XAg K B PX' E := fun C fs dd μ' G' H' al' n A xr p => h C fs dd μ' G' H' al' n A xr (i C fs μ' p)
theorem de_tried {k : Nat} {p : Addr} {q : Str} {t : XK → TE} (kx : KExc K excNames) (hk : μ[k]? = some (.tab p q))
    (h : ∀ B' : Bs, ∀ E', XAg K B' (fun C _ μ' => ∃ x ∈ excNames, C = He.ga K x ∧ P (.str x) μ') E' → DE K B' (t E') ρ μ (fun _ μ' => P (.str "") μ')) : DE K B (tLm p q (TTd ["_law_deed", "_law_caught", "_law_e"] q (t_law_tried K NoX)) t) ρ μ P := by
  refine de_lm hk (by simp) fun B' hB f td hd => ?_
  show DS K B' _ [some (.loc f), none, none] μ _
  unfold t_law_tried
  wtm_at "A"
  refine ds_cut (M := fun ρ1 μ1 => (∃ y, ρ1 = [y, some .non, none] ∧ P (.str "") μ1) ∨ ∃ x gs, x ∈ excNames ∧ ρ1 = [none, some (.exc (He.ga K x) gs), none] ∧ P (.str x) μ1) ?_ ?_
  · refine ds_try fun B2 hB2 W hW => ?_
    refine ds_drop (hd B2 W _ _ μ _ hB2 hW rfl fun E' hE' => ?_)
    refine (h B2 E' (xag_imp hE' ?_)).imp fun d μ' hp => .inl ⟨_, rfl, hp⟩
    rintro C fs μ' ⟨x, hx, rfl, hp⟩
    refine ⟨kx.re x hx, ?_⟩
    show DS K B2 _ [none, none, some (.exc (He.ga K x) fs)] μ' _
    wtm_at "A"
    exact .inr ⟨x, fs, hx, rfl, hp⟩
  · rintro ρ1 μ1 (⟨y, rfl, hp⟩ | ⟨x, gs, hx, rfl, hp⟩)
    · wtm_at "A"
      exact hp
    · have hE : XAg K B' (fun _ _ _ => False) NoX := fun _ _ _ _ _ _ _ _ _ _ p => p
      wtm_at "A"
      exact ⟨x, gs, rfl, hx, hp⟩
end
end Dl

set_option Elab.async false
set_option linter.all false
set_option maxRecDepth 100000
namespace Dl
open PySem L2 PyProof.Rows
def tabR (K : PySem.W.Frag) : MO := .tab (He.cT K ("_law_right", none)).2 "_law_right.<locals>.<lambda>"
def c_law_pairs (K : PySem.W.Frag) : CT := fun ds μ P PX => ∃ (k : Nat) (n many : Int), ds = [.own k, .int many] ∧ μ[k]? = some (.lst [.int n]) ∧ 0 ≤ many ∧ many ≤ 60 ∧ ∀ (ps : List (Int × Int)) (n' : Int), ps.length ≤ 200 → P (.lst (ps.map pairD)) (μ.set k (.lst [.int n']))
def c_law_right (K : PySem.W.Frag) : CT := fun ds μ P PX => ∃ (ss : List Sec) (f e : Int), ds = [bookD K ss, secsD ss, .int f, .int e] ∧ Good ss ∧ (∃ k : Nat, μ[k]? = some (tabR K)) ∧ P (.bl true) μ
def c_law (K : PySem.W.Frag) : CT := fun ds μ P PX => ∃ ns : List Int, ds = [.rdl (ns.map D.int)] ∧ ns.length ≤ 63 ∧ (∃ k : Nat, μ[k]? = some (tabR K)) ∧ ∀ μ', P (.bl true) μ'
theorem sum_step {ss : List Sec} {f : Int} {i : Nat} (h0 : 0 ≤ f) (hi : f + i + 1 ≤ ss.length) {s : Sec} (hs : ss[(f + i).toNat]? = some s) : longOf ss f (f + i) + s.1 = longOf ss f (f + (i + 1 : Nat)) := by
  rw [longOf_add (a := f) (b := f + i) (c := f + (i + 1 : Nat)) h0 (by omega) (by omega)]
  congr 1
  unfold longOf
  have e : (f + ((i + 1 : Nat) : Int) - (f + i)).toNat = 1 := by omega
  have hlt := (List.getElem?_eq_some_iff.mp hs).1
  have e2 := (List.getElem?_eq_some_iff.mp hs).2
  rw [e, List.drop_eq_getElem_cons hlt, e2, List.take_succ_cons, List.take_zero]
  simp
def t_law_pairs (K : PySem.W.Frag) (E : XK) : TS :=
    (tSeq (tIfS (tTest (tOp (rI0 fun i j => .bl (decide (i < j))) (tVar 1) (tC (.int 9)))) (tRet (tLc (iRng1 (tCons (tOp rMulA (tOp (rAddA K) (tVar 1) (tC (.int 5))) (tOp (rAddA K) (tVar 1) (tC (.int 5)))) tNil)) (gName 2) tYes (tTup (tCons (tOp (rI0 fun i j => .int (i - j)) (tOp rFdivA (tVar 2) (tOp (rAddA K) (tVar 1) (tC (.int 5)))) (tC (.int 2))) (tCons (tOp (rI0 fun i j => .int (i - j)) (tOp rModA (tVar 2) (tOp (rAddA K) (tVar 1) (tC (.int 5)))) (tC (.int 2))) tNil))) [2])) tNext)
      (tSeq (tAsg (tLst (tCons (tTup (tCons (tC (.int 0)) (tCons (tVar 1) tNil))) (tCons (tTup (tCons (tVar 1) (tCons (tVar 1) tNil))) (tCons (tTup (tCons (tC (.int 0)) (tCons (tC (.int 0)) tNil))) (tCons (tTup (tCons (tVar 1) (tCons (tOp (rAddA K) (tVar 1) (tC (.int 1))) tNil))) (tCons (tTup (tCons (tUn (rU fun i => .int (-i)) (tC (.int 1))) (tCons (tC (.int 0)) tNil))) (tCons (tTup (tCons (tOp (rAddA K) (tVar 1) (tC (.int 1))) (tCons (tOp (rAddA K) (tVar 1) (tC (.int 1))) tNil))) tNil))))))) (gName 3))
      (tSeq (tFor (iRng1 (tCons (tC (.int 24)) tNil)) (gName 4) (tDrop (tBM K "list" rAppend (tVar 3) (tCons (tTup (tCons (tCall (spD K (c_law_next K)) [] E (tCons (tVar 0) (tCons (tOp (rAddA K) (tVar 1) (tC (.int 1))) tNil))) (tCons (tCall (spD K (c_law_next K)) [] E (tCons (tVar 0) (tCons (tOp (rAddA K) (tVar 1) (tC (.int 1))) tNil))) tNil))) tNil))))
      (tRet (tVar 3)))))

def t_law_right (K : PySem.W.Frag) (E : XK) : TS :=
    (tSeq (tAsg (tCB (rLen K) (tCons (tVar 1) tNil)) (gName 4))
      (tSeq (tIfS (tNot (tTest (tChain3 (rI0 fun i j => .bl (decide (i ≤ j))) (rI0 fun i j => .bl (decide (i ≤ j))) (rI0 fun i j => .bl (decide (i ≤ j))) (tC (.int 0)) (tVar 2) (tVar 3) (tVar 4)))) (tRet (tOp (rEqD K) (tLm (He.cT K ("_law_right", none)).2 "_law_right.<locals>.<lambda>" (TTd ["_law_deed", "_law_caught", "_law_e"] "_law_right.<locals>.<lambda>" (t_law_tried K NoX)) (fun E => (tMeth (He.ga K "Book") "long" (spD K (c_Book_long K)) [] E (tVar 0) (tCons (tVar 2) (tCons (tVar 3) tNil))))) (tC (.str "BadNumber")))) tNext)
      (tSeq (tAsg (tMeth (He.ga K "Book") "long" (spD K (c_Book_long K)) [] E (tVar 0) (tCons (tVar 2) (tCons (tVar 3) tNil))) (gName 5))
      (tSeq (tAsg (tC (.int 0)) (gName 6))
      (tSeq (tFor (iRng2W (tCons (tVar 2) (tCons (tVar 3) tNil))) (gName 7) (tAsg (tOp (rAddA K) (tVar 6) (tOp (rIx K) (tOp (rIx K) (tVar 1) (tVar 7)) (tC (.int 0)))) (gName 6)))
      (tRet (tAndV (tCB (rIsi K) (tCons (tVar 5) (tCons (tC (.ty "int")) tNil))) (tAndV (tNotV (tCB (rIsi K) (tCons (tVar 5) (tCons (tC (.ty "bool")) tNil)))) (tOp (rEqD K) (tVar 5) (tVar 6))))))))))

def t_law (K : PySem.W.Frag) (E : XK) : TS :=
    (tSeq (tFor (iRng1 (tCons (tCB (rMaxA K) (tCons (tC (.int 1)) (tCons (tCB (rMinA K) (tCons (tC (.int 16)) (tCons (tCB (rLen K) (tCons (tVar 0) tNil)) tNil))) tNil))) tNil)) (gName 1) (tSeq (tAsg (tCall (spD K (c_law_state K)) [] E (tCons (tVar 0) (tCons (tVar 1) tNil))) (gName 2))
      (tSeq (tAsg (tOp (rAddA K) (tC (.int 1)) (tCall (spD K (c_law_next K)) [] E (tCons (tVar 2) (tCons (tOp (rI CPow fun i j => .int (i ^ j.toNat)) (tC (.int 10)) (tC (.int 20))) tNil)))) (gName 3))
      (tSeq (tAsg (tCall (spD K (c_law_sections K)) [] E (tCons (tVar 2) (tCons (tIf (tTest (tOp (rEqD K) (tOp rModA (tVar 1) (tC (.int 8))) (tC (.int 0)))) (tC (.int 60)) (tC (.int 10))) tNil))) (gName 4))
      (tSeq (tAsg (tCB (rLen K) (tCons (tVar 4) tNil)) (gName 5))
      (tSeq (tAsg (tMake (He.ga K "Book") (spD K (c_Book_init K)) [] E (tCons (tCB (rListOf K) (tCons (tVar 4) tNil)) tNil)) (gName 6))
      (tSeq (tFor (iAny K (tOp (rAddA K) (tCall (spD K (c_law_pairs K)) [] E (tCons (tVar 2) (tCons (tVar 5) tNil))) (tLst (tCons (tTup (tCons (tUn (rU fun i => .int (-i)) (tVar 3)) (tCons (tVar 5) tNil))) (tCons (tTup (tCons (tC (.int 0)) (tCons (tOp (rAddA K) (tVar 5) (tVar 3)) tNil))) (tCons (tTup (tCons (tOp (rAddA K) (tVar 3) (tVar 5)) (tCons (tVar 5) tNil))) (tCons (tTup (tCons (tVar 5) (tCons (tUn (rU fun i => .int (-i)) (tVar 3)) tNil))) tNil))))))) (gTup K 2 (gCons (gName 7) (gCons (gName 8) gNil))) (tIfS (tNot (tTruth K (tCall (spD K (c_law_right K)) [] E (tCons (tVar 6) (tCons (tVar 4) (tCons (tVar 7) (tCons (tVar 8) tNil))))))) (tRet (tC (.bl false))) tNext))
      (tIfS (tOr (tTest (tOp (rNeD K) (tMeth (He.ga K "Book") "sections" (spD K (c_Book_sections K)) [] E (tVar 6) tNil) (tVar 4))) (tTest (tOp (rNeD K) (tMeth (He.ga K "Book") "many" (spD K (c_Book_many K)) [] E (tVar 6) tNil) (tVar 5)))) (tRet (tC (.bl false))) tNext))))))))
      (tRet (tC (.bl true))))

local macro_rules | `(tactic| wtm_at "dS") => `(tactic| with_reducible (show DS _ _ _ _ _ _; first
  | refine q_set ?_
  | refine q_when ?_
  | refine ds_ret ?_
  | refine ds_set ?_
  | refine q_drop ?_
  | refine q_if ?_
  | refine q_asg ?_
  | refine q_par ?_
  | refine q_fld ?_
  | refine ds_drop ?_
  | refine s_when ?_
  | refine ds_if ?_
  | refine ds_asg ?_
  | refine ds_next ?_
  | refine ds_par ?_
  | refine ds_fld ?_
  | refine ds_retN ?_))
local macro_rules | `(tactic| wtm_at "dE") => `(tactic| with_reducible (show DE _ _ _ _ _ _; first
  | refine de_op ?_
  | refine de_int ?_
  | refine de_cb ?_
  | refine de_bl ?_
  | refine de_non ?_
  | refine de_str ?_
  | refine de_ty ?_
  | refine de_loc ?_
  | refine de_un ?_
  | refine de_andV ?_
  | refine de_orV ?_
  | refine de_notV ?_
  | refine de_if ?_
  | refine de_chain ?_
  | refine de_chain3 ?_
  | refine de_isN ?_
  | refine de_notN ?_
  | refine de_sl ?_
  | refine de_bm ?_
  | refine de_bm0 ?_))
local macro_rules | `(tactic| wtm_at "dT") => `(tactic| with_reducible (show DT _ _ _ _ _ _; first
  | refine dt_test ?_
  | refine dt_truth ?_
  | refine dt_and ?_
  | refine dt_or ?_
  | refine dt_not ?_
  | refine dt_B ?_
  | refine dt_yes ?_))
local macro_rules | `(tactic| wtm_at "dO") => `(tactic| with_reducible (first
  | refine da_cons ?_
  | refine da_nil ?_
  | refine ro_i ?_
  | refine ro_b ?_
  | refine ro_addI ?_
  | refine ro_eqI ?_
  | refine ro_neI ?_
  | refine ru_i ?_
  | refine ro_ip ?_
  | refine rc_max2' ?_
  | refine rc_min2' ?_
  | refine ro_eqB ?_
  | refine ro_neB ?_
  | refine ro_isB ?_
  | refine ro_notB ?_
  | refine do_no ?_
  | refine do_part ?_
  | refine dg_name ?_
  | refine dgs_cons ?_
  | refine dgs_nil ?_
  | refine dg_sub ?_
  | refine di_range1 ?_
  | refine di_range2 ?_
  | refine di_any ?_
  | refine di_enum' ?_))
local macro_rules | `(tactic| wtm_at "v") => `(tactic| ((with_reducible show DE _ _ (tVar _) _ _ _); refine de_var (by first | rfl | assumption) ?_))
local macro_rules | `(tactic| wtm_at "h") => `(tactic| with_reducible refine ⟨_, rfl, ?_⟩)
local macro_rules | `(tactic| wtm_at "b") => `(tactic| ((first | refine ⟨_, rfl, br ?_ ?_⟩ | refine ⟨_, rfl, br' ?_ ?_⟩ | refine br ?_ ?_ | refine br' ?_ ?_ | fail) <;> intro hb <;> (try contradiction) <;> (try (simp only [decide_eq_true_eq, decide_eq_false_iff_not, Bool.not_eq_true', Bool.not_eq_false', Bool.not_true, Bool.not_false, Bool.not_eq_eq_eq_not, reduceCtorEq, List.length_map] at hb)) <;> (try (exfalso; omega; done))))
local macro_rules | `(tactic| wtm_at "i") => `(tactic| first | refine rc_isiD (by assumption) (by decide) ?_ | refine rc_isiB rfl (by first | rfl | decide +kernel) ?_)
local macro_rules | `(tactic| wtm_at "r") => `(tactic| refine ret_same0 (Nat.le_refl _) (by assumption) (by first | rfl | simp [D.cl, clL]) ?_)
local macro_rules | `(tactic| wtm_at "g") => `(tactic| repeat' first | wtm_at "v" | wtm_at "dE" | wtm_at "dO" | wtm_at "dT" | wtm_at "dS" | fail)
local macro_rules | `(tactic| wtm_at "a") => `(tactic| repeat' first | wtm_at "v" | wtm_at "dE" | wtm_at "dO" | wtm_at "dT" | wtm_at "dS" | wtm_at "i" | wtm_at "l" | wtm_at "x" | wtm_at "h" | wtm_at "b" | fail)
local macro_rules | `(tactic| wtm_at "l") => `(tactic| first | refine rc_lenL (.lst _) ?_ | refine rc_lenT' (.tup _) ?_ | refine rc_lenL (.rdl _) ?_ | refine rc_lenL (.own (by first | assumption | exact mu_last)) ?_)
local macro_rules | `(tactic| wtm_at "x") => `(tactic| refine ro_ixT (.tup _) rfl ?_)
local macro_rules | `(tactic| wtm_at "ow") => `(tactic| first | assumption | exact mu_last | exact mu_old (by assumption) | (simp; done) | fail)
local macro_rules | `(tactic| wtm_at "m") => `(tactic| refine ⟨ty_list (.own (by wtm_at "ow")), ?_⟩)
local macro_rules | `(tactic| wtm_at "e") => `(tactic| repeat' first | wtm_at "v" | wtm_at "dE" | wtm_at "dO" | wtm_at "dT" | wtm_at "i" | wtm_at "l" | wtm_at "x" | wtm_at "h" | wtm_at "b" | fail)
local macro_rules | `(tactic| wtm_at "sz") => `(tactic| ((with_reducible show Sz _ ∧ _); refine And.intro (by unfold Sz; first | decide | (simp; done) | (simp; omega) | omega) ?_))
local macro_rules | `(tactic| wtm_at "d2") => `(tactic| with_reducible (first
  | refine de_tupZ ?_
  | refine de_revL ?_
  | refine de_call (by assumption) ?_))
local macro_rules | `(tactic| wtm_at "o2") => `(tactic| first
  | refine ro_mod (by first | decide | omega) ?_
  | refine ro_pow ⟨by decide, by decide, by decide⟩ ?_
  | refine rs_anyL (.lst _) ?_
  | refine ro_mulI (by first | exact .inl ⟨by omega, by omega⟩ | exact .inr ⟨by omega, by omega⟩) ?_
  | refine rc_list (.lst _) ?_
  | refine dg_tup rfl ?_
  | fail)
local macro_rules | `(tactic| wtm_at "h2") => `(tactic| with_reducible (first | refine two_i ?_ | refine ⟨_, Ls.lst _, ?_⟩))
local macro_rules | `(tactic| wtm_at "sP") => `(tactic| with_reducible (first | refine q_parZ ?_ | refine ds_parZ ?_))
local macro_rules | `(tactic| wtm_at "A") => `(tactic| repeat' first | wtm_at "v" | wtm_at "dE" | wtm_at "dO" | wtm_at "dT" | wtm_at "sP" | wtm_at "dS" | wtm_at "d2" | wtm_at "i" | wtm_at "l" | wtm_at "x" | wtm_at "o2" | wtm_at "h" | wtm_at "h2" | wtm_at "sz" | wtm_at "b" | fail)
local macro_rules | `(tactic| wtm_at "E") => `(tactic| repeat' first | wtm_at "v" | wtm_at "dE" | wtm_at "dO" | wtm_at "dT" | wtm_at "d2" | wtm_at "i" | wtm_at "l" | wtm_at "x" | wtm_at "o2" | wtm_at "h" | wtm_at "h2" | wtm_at "sz" | wtm_at "b" | fail)
local macro_rules | `(tactic| wtm_at "f3") => `(tactic| with_reducible (first
  | refine de_fldZ ?_
  | refine de_methZ (by assumption) ?_))
local macro_rules | `(tactic| wtm_at "p3") => `(tactic| first
  | refine fp_obj (by assumption) (by assumption) (by rfl) ?_
  | refine fp_own (by assumption) (by assumption) (by assumption) (by rfl) ?_
  | refine mp_obj (by rfl) ?_
  | refine mp_own (by assumption) (by rfl) ?_)
local macro_rules | `(tactic| wtm_at "s3") => `(tactic| with_reducible (first | refine q_fldZ ?_ | refine ds_fldZ ?_))
local macro_rules | `(tactic| wtm_at "A") => `(tactic| repeat' first | wtm_at "v" | wtm_at "dE" | wtm_at "dO" | wtm_at "dT" | wtm_at "sP" | wtm_at "s3" | wtm_at "dS" | wtm_at "d2" | wtm_at "f3" | wtm_at "i" | wtm_at "l" | wtm_at "x" | wtm_at "o2" | wtm_at "h" | wtm_at "h2" | wtm_at "sz" | wtm_at "p3" | wtm_at "b" | fail)
local macro_rules | `(tactic| wtm_at "E") => `(tactic| repeat' first | wtm_at "v" | wtm_at "dE" | wtm_at "dO" | wtm_at "dT" | wtm_at "d2" | wtm_at "f3" | wtm_at "i" | wtm_at "l" | wtm_at "x" | wtm_at "o2" | wtm_at "h" | wtm_at "h2" | wtm_at "sz" | wtm_at "p3" | wtm_at "b" | fail)
local macro_rules | `(tactic| wtm_at "f4") => `(tactic| with_reducible (first | refine de_isNZ ?_ | refine de_notNZ ?_ | refine np_t ?_))
local macro_rules | `(tactic| wtm_at "g4") => `(tactic| first | refine np_int ?_ | refine np_lst ?_ | refine np_tup ?_ | refine np_obj ?_ | refine np_own ?_ | refine np_str ?_ | refine np_bl ?_)
local macro_rules | `(tactic| wtm_at "A") => `(tactic| repeat' first | wtm_at "v" | wtm_at "f4" | wtm_at "dE" | wtm_at "dO" | wtm_at "dT" | wtm_at "sP" | wtm_at "s3" | wtm_at "dS" | wtm_at "d2" | wtm_at "f3" | wtm_at "i" | wtm_at "l" | wtm_at "x" | wtm_at "o2" | wtm_at "h" | wtm_at "h2" | wtm_at "sz" | wtm_at "p3" | wtm_at "g4" | wtm_at "b" | fail)
local macro_rules | `(tactic| wtm_at "E") => `(tactic| repeat' first | wtm_at "v" | wtm_at "f4" | wtm_at "dE" | wtm_at "dO" | wtm_at "dT" | wtm_at "d2" | wtm_at "f3" | wtm_at "i" | wtm_at "l" | wtm_at "x" | wtm_at "o2" | wtm_at "h" | wtm_at "h2" | wtm_at "sz" | wtm_at "p3" | wtm_at "g4" | wtm_at "b" | fail)
local macro_rules | `(tactic| wtm_at "s5") => `(tactic| with_reducible (first | refine q_par3 ?_ | refine ds_par3 ?_ | refine three_i ?_ | refine di_range2W ?_))
local macro_rules | `(tactic| wtm_at "o5") => `(tactic| first | refine ro_eqNI ?_ | fail)
local macro_rules | `(tactic| wtm_at "A") => `(tactic| repeat' first | wtm_at "v" | wtm_at "f4" | wtm_at "dE" | wtm_at "dO" | wtm_at "dT" | wtm_at "s5" | wtm_at "sP" | wtm_at "s3" | wtm_at "dS" | wtm_at "d2" | wtm_at "f3" | wtm_at "i" | wtm_at "l" | wtm_at "x" | wtm_at "o2" | wtm_at "o5" | wtm_at "h" | wtm_at "h2" | wtm_at "sz" | wtm_at "p3" | wtm_at "g4" | wtm_at "b" | fail)
local macro_rules | `(tactic| wtm_at "E") => `(tactic| repeat' first | wtm_at "v" | wtm_at "f4" | wtm_at "dE" | wtm_at "dO" | wtm_at "dT" | wtm_at "d2" | wtm_at "f3" | wtm_at "i" | wtm_at "l" | wtm_at "x" | wtm_at "o2" | wtm_at "o5" | wtm_at "h" | wtm_at "h2" | wtm_at "sz" | wtm_at "p3" | wtm_at "g4" | wtm_at "b" | fail)
local macro_rules | `(tactic| wtm_at "d6") => `(tactic| with_reducible (first | refine de_dget ?_ | refine de_din ?_ | refine de_dnin ?_ | refine rc_abs ?_))
local macro_rules | `(tactic| wtm_at "g6") => `(tactic| first | refine dgp_s (.own (by assumption)) (by rfl) ?_ | refine dgp_s (.dct _) (by rfl) ?_)
local macro_rules | `(tactic| wtm_at "A") => `(tactic| repeat' first | wtm_at "v" | wtm_at "f4" | wtm_at "dE" | wtm_at "d6" | wtm_at "dO" | wtm_at "dT" | wtm_at "s5" | wtm_at "sP" | wtm_at "s3" | wtm_at "dS" | wtm_at "d2" | wtm_at "f3" | wtm_at "i" | wtm_at "l" | wtm_at "x" | wtm_at "o2" | wtm_at "o5" | wtm_at "h" | wtm_at "h2" | wtm_at "sz" | wtm_at "g6" | wtm_at "p3" | wtm_at "g4" | wtm_at "b" | fail)
local macro_rules | `(tactic| wtm_at "E") => `(tactic| repeat' first | wtm_at "v" | wtm_at "f4" | wtm_at "dE" | wtm_at "d6" | wtm_at "dO" | wtm_at "dT" | wtm_at "d2" | wtm_at "f3" | wtm_at "i" | wtm_at "l" | wtm_at "x" | wtm_at "o2" | wtm_at "o5" | wtm_at "h" | wtm_at "h2" | wtm_at "sz" | wtm_at "g6" | wtm_at "p3" | wtm_at "g4" | wtm_at "b" | fail)
local macro_rules | `(tactic| wtm_at "d7") => `(tactic| with_reducible (first | refine de_xfZ ?_ | refine np_exc ?_))
local macro_rules | `(tactic| wtm_at "g7") => `(tactic| first | refine xf_i (by assumption) (by simp) (by rfl) ?_ | refine ro_eqSS (by decide +kernel) ?_ | refine ro_neSS (by decide +kernel) ?_ | refine ro_eqSd (by decide +kernel) (by decide +kernel) (by decide +kernel) ?_ | refine ro_neSd (by decide +kernel) (by decide +kernel) (by decide +kernel) ?_)
local macro_rules | `(tactic| wtm_at "A") => `(tactic| repeat' first | wtm_at "v" | wtm_at "f4" | wtm_at "d7" | wtm_at "dE" | wtm_at "d6" | wtm_at "dO" | wtm_at "dT" | wtm_at "s5" | wtm_at "sP" | wtm_at "s3" | wtm_at "dS" | wtm_at "d2" | wtm_at "f3" | wtm_at "i" | wtm_at "l" | wtm_at "x" | wtm_at "o2" | wtm_at "o5" | wtm_at "h" | wtm_at "h2" | wtm_at "sz" | wtm_at "g6" | wtm_at "p3" | wtm_at "g4" | wtm_at "g7" | wtm_at "b" | fail)
local macro_rules | `(tactic| wtm_at "E") => `(tactic| repeat' first | wtm_at "v" | wtm_at "f4" | wtm_at "d7" | wtm_at "dE" | wtm_at "d6" | wtm_at "dO" | wtm_at "dT" | wtm_at "d2" | wtm_at "f3" | wtm_at "i" | wtm_at "l" | wtm_at "x" | wtm_at "o2" | wtm_at "o5" | wtm_at "h" | wtm_at "h2" | wtm_at "sz" | wtm_at "g6" | wtm_at "p3" | wtm_at "g4" | wtm_at "g7" | wtm_at "b" | fail)
section
variable {K : PySem.W.Frag}
theorem d_law_pairs : ∀ ds μ P PX, c_law_pairs K ds μ P PX → MuCl μ μ.length → clL ds μ.length = true → ∀ B E, XAg K B (RetX μ.length PX) E → DS K B (t_law_pairs K E) (startD ["_law_draw", "_law_many", "_law_one", "_law_found", "_law_k"] ds) μ (fnE μ.length P) := by
  intro ds μ P PX h hm hc B E hE
  obtain ⟨k, n, many, rfl, hk, h0, h1, h⟩ := h
  show DS K B _ [some (.own k), some (.int many), none, none, none] μ _
  unfold t_law_pairs
  have hset : ∀ z : Int, (μ.set k (.lst [.int z]))[k]? = some (.lst [.int z]) := fun z => set_get hk
  have hlen : ∀ z : MO, (List.set μ k z).length = μ.length := fun z => by simp
  have hlast : ∀ z : Int, ∀ o : MO, (μ.set k (.lst [.int z]) ++ [o])[μ.length]? = some o := fun z o => by rw [← hlen (.lst [.int z])]; exact mu_last
  have hsetl : ∀ z : Int, ∀ o o' : MO, (μ.set k (.lst [.int z]) ++ [o]).set μ.length o' = μ.set k (.lst [.int z]) ++ [o'] := fun z o o' => by rw [← hlen (.lst [.int z])]; exact set_last
  have hcl : ∀ z : Int, MuCl (μ.set k (.lst [.int z])) μ.length := fun z => hm.set (by simp [MO.cl, clL, D.cl])
  have hself : μ.set k (.lst [.int n]) = μ := set_same hk
  refine q_when ?_
  wtm_at "E"
  · rename_i hlt
    have hsq : (many + 5) * (many + 5) ≤ 169 := by
      have : many + 5 ≤ 13 := by omega
      calc (many + 5) * (many + 5) ≤ 13 * (many + 5) := Int.mul_le_mul_of_nonneg_right this (by omega)
        _ ≤ 13 * 13 := by omega
    have hsq0 : 0 ≤ (many + 5) * (many + 5) := Int.mul_nonneg (by omega) (by omega)
    wtm_at "A"
    refine lc_map (fun d => match d with | .int z => pairD (z / (many + 5) - 2, z % (many + 5) - 2) | _ => .non) (gw_name (by simp)) ?_
    wtm_at "A"
    generalize hN : (many + 5) * (many + 5) = N at *
    refine ⟨by omega, by omega, trivial, by rw [rangeD_length]; omega, fun j d hj => ?_, fun out ho => ?_⟩
    · obtain ⟨_, rfl⟩ := rangeD_some hj
      wtm_at "A"
      refine ⟨rfl, ?_⟩
      wtm_at "A"
      refine ro_fdiv (j := many + 5) (by omega) (Nat.lt_of_le_of_lt (Nat.log2_le_self _) (by omega)) ?_
      wtm_at "A"
      exact ⟨rfl, rfl⟩
    have ho' : ∃ ps : List (Int × Int), out = ps.map pairD ∧ ps.length ≤ 200 := by
      refine ⟨(List.range N.toNat).map fun i : Nat => (((0 : Int) + i) / (many + 5) - 2, ((0 : Int) + i) % (many + 5) - 2), ?_, by simp; omega⟩
      rw [← ho, rangeD, List.map_map, List.map_map]
      rfl
    obtain ⟨ps, rfl, hpl⟩ := ho'
    have := h ps n hpl
    rw [hself] at this
    exact ret_same0 (Nat.le_refl _) hm (by simp [D.cl]; exact clL_map fun x _ => by simp [pairD, D.cl, clL]) this
  · wtm_at "A"
    refine de_lstOZ ?_
    wtm_at "A"
    refine q_for ?_
    wtm_at "A"
    refine ⟨by omega, by omega, fun i ρ μ' => ∃ (ps : List (Int × Int)) (z : Int) (y4 : Option D), ρ = [some (.own k), some (.int many), none, some (.own μ.length), y4] ∧ μ' = μ.set k (.lst [.int z]) ++ [.lst (ps.map pairD)] ∧ ps.length = 6 + i, ⟨[(0, many), (many, many), (0, 0), (many, many + 1), (-1, 0), (many + 1, many + 1)], n, none, rfl, by rw [hself]; rfl, rfl⟩, fun _ _ _ _ _ => trivial, ?_, ?_⟩
    · rintro i d ρ μ' hd ⟨ps, z, y4, rfl, rfl, hpl⟩
      obtain ⟨hi, rfl⟩ := rangeD_some hd
      wtm_at "A"
      refine ⟨ty_list (.own (hlast _ _)), ?_⟩
      wtm_at "A"
      refine ⟨k, z, many + 1, rfl, mu_old (hset z), by omega, by omega, fun r1 z1 hr0 hr1 => ?_⟩
      rw [set_old (hset z), set_set']
      wtm_at "A"
      refine ⟨k, z1, many + 1, rfl, mu_old (hset z1), by omega, by omega, fun r2 z2 hr2 hr3 => ?_⟩
      rw [set_old (hset z1), set_set']
      wtm_at "A"
      refine rm_app (hlast _ _) (by simp; omega) ?_
      rw [hsetl]
      exact ⟨ps ++ [(r1, r2)], z2, _, rfl, by rw [List.map_append]; rfl, by simp [hpl]; omega⟩
    · rintro ρ μ' ⟨ps, z, y4, rfl, rfl, hpl⟩
      rw [rangeD_length] at hpl
      refine ds_ret (de_frz ?_)
      wtm_at "v"
      refine ⟨_, _, rfl, hlast _ _, ?_⟩
      rw [hsetl]
      exact ret_same (by simp) (by rw [hlen]; exact hcl z) (by simp [D.cl]; exact clL_map fun x _ => by simp [pairD, D.cl, clL]) (h ps z (by omega))
theorem d_law_right (kx : KExc K excNames) : ∀ ds μ P PX, c_law_right K ds μ P PX → MuCl μ μ.length → clL ds μ.length = true → ∀ B E, XAg K B (RetX μ.length PX) E → DS K B (t_law_right K E) (startD ["_law_book", "_law_sections_here", "_law_first", "_law_end", "_law_many", "_law_found", "_law_due", "_law_at"] ds) μ (fnE μ.length P) := by
  intro ds μ P PX h hm hc B E hE
  obtain ⟨ss, f, e, rfl, hg, ⟨k, hk⟩, h⟩ := h
  show DS K B _ [some (bookD K ss), some (secsD ss), some (.int f), some (.int e), none, none, none, none] μ _
  unfold t_law_right
  have hmost := hg.most
  wtm_at "A"
  all_goals first
    | (refine de_tried kx hk fun B' E' hE' => ?_
       wtm_at "E"
       refine ⟨ss, f, e, rfl, hmost, fun hh => absurd hh (by simp only [List.length_map] at *; omega), fun _ => ⟨"BadNumber", by simp [excNames], rfl, ?_⟩⟩
       wtm_at "E"
       exact ret_same0 (Nat.le_refl _) hm (by simp [D.cl]) h)
    | skip
  refine ⟨ss, f, e, rfl, hmost, fun hh => ?_, fun hn => absurd (by first | omega | (simp only [List.length_map] at *; omega)) hn⟩
  wtm_at "A"
  refine q_for ?_
  wtm_at "A"
  refine ⟨f, _, rfl, fun i ρ μ' => ∃ y7, ρ = [some (bookD K ss), some (secsD ss), some (.int f), some (.int e), some (.int ss.length), some (.int (longOf ss f e)), some (.int (longOf ss f (f + i))), y7] ∧ μ = μ', ⟨none, by simp [longOf], rfl⟩, fun _ _ _ _ _ => trivial, ?_, ?_⟩
  · rintro i d ρ μ' hd ⟨y7, rfl, rfl⟩
    obtain ⟨hi, rfl⟩ := rangeD_some hd
    have hlt : (f + i).toNat < ss.length := by omega
    obtain ⟨x, hx, hx2⟩ := atI_nn (xs := ss.map secD) (i := f + i) (by omega) (by rw [List.length_map]; omega)
    obtain ⟨s, hs, rfl⟩ := secs_get hx2
    have est := sum_step (f := f) (i := i) (by omega) (by omega) hs
    wtm_at "A"
    refine ro_ixL (.lst _) hx ?_
    unfold secD
    wtm_at "A"
    exact ⟨_, by rw [est]; rfl, rfl⟩
  · rintro ρ μ' ⟨y7, rfl, rfl⟩
    rw [rangeD_length, show f + (((e - f).toNat : Nat) : Int) = e by omega]
    wtm_at "A"
    refine ret_same0 (Nat.le_refl _) hm (by simp [D.cl]) ?_
    simpa using h
end
section
variable {K : PySem.W.Frag}
theorem d_law : ∀ ds μ P PX, c_law K ds μ P PX → MuCl μ μ.length → clL ds μ.length = true → ∀ B E, XAg K B (RetX μ.length PX) E → DS K B (t_law K E) (startD ["_law_script", "_law_k", "_law_draw", "_law_far", "_law_sections_here", "_law_many", "_law_book", "_law_first", "_law_end"] ds) μ (fnE μ.length P) := by
  intro ds μ P PX h hm hc B E hE
  obtain ⟨ns, rfl, hl, ⟨kt, hkt⟩, h⟩ := h
  show DS K B _ [some (.rdl (ns.map D.int)), none, none, none, none, none, none, none, none] μ _
  unfold t_law
  refine q_for ?_
  wtm_at "E"
  refine ⟨by rw [List.length_map]; omega, by rw [List.length_map]; omega, fun i ρ μ' => ∃ y1 y2 y3 y4 y5 y6 y7 y8, ρ = [some (.rdl (ns.map D.int)), y1, y2, y3, y4, y5, y6, y7, y8] ∧ μ.length ≤ μ'.length ∧ MuCl μ' μ'.length ∧ μ'[kt]? = some (tabR K), ⟨none, none, none, none, none, none, none, none, rfl, by simp, hm, hkt⟩, fun _ _ _ _ _ => trivial, ?_, ?_⟩
  · rintro i d ρ μ' hd ⟨y1, y2, y3, y4, y5, y6, y7, y8, rfl, hle, hm', hkt'⟩
    obtain ⟨hi, rfl⟩ := rangeD_some hd
    have hcl : ∀ z : Int, MuCl (μ' ++ [MO.lst [.int z]]) (μ' ++ [MO.lst [.int z]]).length := fun z => hm'.app (by simp [MO.cl, clL, D.cl])
    have hi8 : 0 ≤ (i : Int) := by omega
    wtm_at "A"
    refine ⟨ns, _, rfl, by omega, by omega, fun n => ?_⟩
    wtm_at "A"
    refine ⟨_, n, _, rfl, mu_last, by decide, by decide, fun far n1 hf0 hf1 => ?_⟩
    rw [set_last]
    wtm_at "E"
    have mo : DE K B (tIf (tTest (tOp (rEqD K) (tOp rModA (tVar 1) (tC (.int 8))) (tC (.int 0)))) (tC (.int 60)) (tC (.int 10))) [some (.rdl (ns.map D.int)), some (.int (0 + (i : Int))), some (.own μ'.length), some (.int (1 + far)), y4, y5, y6, y7, y8] (μ' ++ [MO.lst [.int n1]]) (fun d μ1 => ∃ m, d = .int m ∧ 1 ≤ m ∧ m ≤ 60 ∧ μ1 = μ' ++ [MO.lst [.int n1]]) := by
      wtm_at "A"
      · exact ⟨by omega, by omega, rfl⟩
      · exact ⟨by omega, by omega, rfl⟩
    wtm_at "dS"
    refine de_call hE ?_
    refine da_cons ?_
    wtm_at "v"
    refine da_cons ?_
    refine mo.imp ?_
    rintro d μ1 ⟨m, rfl, hm1, hm2, rfl⟩
    wtm_at "E"
    refine ⟨_, n1, m, rfl, mu_last, hm1, hm2, fun ss n2 hg _ => .inl ?_⟩
    rw [set_last]
    have hs60 := hg.most
    wtm_at "A"
    refine de_book hE hg ?_
    wtm_at "A"
    refine ⟨rfl, ?_⟩
    wtm_at "A"
    refine q_for ?_
    wtm_at "A"
    refine ⟨_, n2, _, rfl, mu_last, by simp, by simp; omega, fun ps n3 hps => ?_⟩
    rw [set_last]
    wtm_at "A"
    refine de_lstZ ?_
    wtm_at "A"
    refine ro_addL (.lst _) (.lst _) (by simp; omega) ?_
    refine ⟨_, _, .lst _, fun j ρ μ1 => ∃ y7 y8, ρ = [some (.rdl (ns.map D.int)), some (.int (0 + (i : Int))), some (.own μ'.length), some (.int (1 + far)), some (secsD ss), some (.int ss.length), some (bookD K ss), y7, y8] ∧ μ1 = μ' ++ [MO.lst [.int n3]], ⟨y7, y8, by simp [secsD], rfl⟩, fun _ _ _ _ _ => trivial, ?_, ?_⟩
    · rintro j d ρ μ1 hd ⟨y7, y8, rfl, rfl⟩
      have hp : ∃ f e : Int, d = pairD (f, e) := by
        have hmem := List.mem_of_getElem? hd
        rcases List.mem_append.mp hmem with q | q
        · obtain ⟨p, _, rfl⟩ := List.mem_map.mp q
          exact ⟨p.1, p.2, rfl⟩
        · simp only [List.mem_cons, List.not_mem_nil, or_false] at q
          rcases q with q | q | q | q <;> exact ⟨_, _, q⟩
      obtain ⟨f, e, rfl⟩ := hp
      unfold pairD
      wtm_at "A"
      refine ⟨ss, f, e, rfl, hg, ⟨kt, mu_old hkt'⟩, ?_⟩
      wtm_at "A"
      exact ⟨_, _, rfl, rfl⟩
    · rintro ρ μ1 ⟨y7, y8, rfl, rfl⟩
      wtm_at "A"
      refine ⟨ss, rfl, .inl ?_⟩
      wtm_at "A"
      refine ro_neD (n := 2) (m := 2) (.id _) (.id _) (by simpa [D.shp] using shp_secs ss) (by simpa [D.shp, secsD] using shp_secs ss) ?_
      rw [show secsD ss = .lst (ss.map secD) from rfl, eqvD_lst, eqvL_refl (shp_secs ss)]
      wtm_at "A"
      refine ⟨ss, rfl, ?_⟩
      wtm_at "A"
      all_goals first
        | (rename_i hx; first | exact absurd trivial hx | exact absurd rfl hx | (simp at hx; done))
        | exact ⟨_, _, _, _, _, _, _, _, rfl, by simp; omega, hcl n3, mu_old hkt'⟩
  · rintro ρ μ' ⟨y1, y2, y3, y4, y5, y6, y7, y8, rfl, hle, hm', _⟩
    wtm_at "A"
    exact ret_same0 hle hm' (by simp [D.cl]) (h _)
end
end Dl

set_option Elab.async false
set_option linter.all false
set_option maxRecDepth 100000
namespace Dl
open PySem L2 PyProof.Rows
/-! ### the text, def by def -/
def topS (i : Nat) : Stmt := PySem.Challenge.pw_readround_k02_sections_long.main.body.getD i (.Pass ⟨0, 0, 0, 0⟩)
abbrev s_law_state : Stmt := topS 26
abbrev N_law_state : List Str := ["_law_script", "_law_k", "_law_cell", "_law_found", "_law_j", "_law_one"]
theorem sc_law_state : FnScope N_law_state ["_law_script", "_law_k"] (defScope s_law_state) := ⟨rfl, rfl, rfl, by decide +kernel, rfl, by decide +kernel, by decide +kernel⟩
set_option maxHeartbeats 1000000 in
theorem ok_law_state {P : Program} {w : World} {K : PySem.W.Frag} {mg : Str → Option Value} {base : Heap} {f : Addr} {fd : FuncData}  (F : FunD K "_law_state" "_law_state" (defArgs s_law_state) (defBody s_law_state) (defScope s_law_state) [] [] f fd) (n_len : mg "len" = none) (n_range : mg "range" = none) :
    FnOk P w K mg base (L2.CX P w) 1 f fd ["_law_script", "_law_k"] (spD K (c_law_state K)) :=
  fn_DD (t := t_law_state K) F sc_law_state (fun ds μ P PX h => by unfold c_law_state at h; first | (obtain ⟨_, rfl, _⟩ := h; rfl) | (obtain ⟨_, _, rfl, _⟩ := h; rfl) | (obtain ⟨_, _, _, rfl, _⟩ := h; rfl) | (obtain ⟨_, _, _, _, rfl, _⟩ := h; rfl) | (obtain ⟨_, _, _, _, _, rfl, _⟩ := h; rfl) | (obtain ⟨_, _, _, _, _, _, rfl, _⟩ := h; rfl) | (obtain ⟨_, _, _, _, _, _, _, rfl, _⟩ := h; rfl) | (obtain ⟨_, _, _, _, _, _, _, _, rfl, _⟩ := h; rfl)) (by decide)
    (fun cdv A outer s H E hr => by exact
      (pss_cons (ps_set (i := 2) sc_law_state.nd rfl (by first | exact Or.inl rfl | exact Or.inr rfl) (pe_ifExp (pt_cmpR op_lt (pv 1) (pe_callB call_len (by rfl) n_len (by decide +kernel) (pa_cons (pv 0) pa_nil)) (nomark _)) (pe_ix ix_seq (pv 0) (pv 1) (fun _ _ => rfl)) (pe_op op_mulA pe_int (pv 1))))
      (pss_cons (ps_if (pt_cmpR op_ge (pv 2) (pe_op op_pow pe_int pe_int) (nomark _)) (pss_one (ps_ret (pe_lst (pa_cons (pe_op op_sub (pv 2) (pe_op op_pow pe_int pe_int)) pa_nil)))) pss_nil)
      (pss_cons (ps_set (i := 3) sc_law_state.nd rfl (by first | exact Or.inl rfl | exact Or.inr rfl) pe_int)
      (pss_cons (ps_for (passes_of rfl) rfl (pi_range1 (by rfl) n_range (pa_cons pe_int pa_nil)) (pg_name (i := 4) sc_law_state.nd rfl (by first | exact Or.inl rfl | exact Or.inr rfl)) (pss_cons (ps_set (i := 5) sc_law_state.nd rfl (by first | exact Or.inl rfl | exact Or.inr rfl) (pe_op op_modA (pe_op op_mulA (pe_op op_addA (pv 2) (pe_op op_mulA pe_int (pe_op op_addA (pe_op op_addA (pe_op op_mulA pe_int (pv 1)) (pv 4)) pe_int))) pe_int) pe_int))
      (pss_one (ps_set (i := 3) sc_law_state.nd rfl (by first | exact Or.inl rfl | exact Or.inr rfl) (pe_op op_addA (pe_op op_mulA (pv 3) pe_int) (pe_op op_modA (pe_op op_mulA (pv 5) (pe_op op_addA (pe_op op_addA (pv 5) (pe_op op_mulA pe_int (pv 4))) pe_int)) pe_int))))))
      (pss_one (ps_ret (pe_lst (pa_cons (pv 3) pa_nil)))))))))
    (d_law_state)
abbrev s_law_next : Stmt := topS 27
abbrev N_law_next : List Str := ["_law_draw", "_law_amount", "_law_found"]
theorem sc_law_next : FnScope N_law_next ["_law_draw", "_law_amount"] (defScope s_law_next) := ⟨rfl, rfl, rfl, by decide +kernel, rfl, by decide +kernel, by decide +kernel⟩
set_option maxHeartbeats 1000000 in
theorem ok_law_next {P : Program} {w : World} {K : PySem.W.Frag} {mg : Str → Option Value} {base : Heap} {f : Addr} {fd : FuncData}  (F : FunD K "_law_next" "_law_next" (defArgs s_law_next) (defBody s_law_next) (defScope s_law_next) [] [] f fd)  :
    FnOk P w K mg base (L2.CX P w) 1 f fd ["_law_draw", "_law_amount"] (spD K (c_law_next K)) :=
  fn_DD (t := t_law_next K) F sc_law_next (fun ds μ P PX h => by unfold c_law_next at h; first | (obtain ⟨_, rfl, _⟩ := h; rfl) | (obtain ⟨_, _, rfl, _⟩ := h; rfl) | (obtain ⟨_, _, _, rfl, _⟩ := h; rfl) | (obtain ⟨_, _, _, _, rfl, _⟩ := h; rfl) | (obtain ⟨_, _, _, _, _, rfl, _⟩ := h; rfl) | (obtain ⟨_, _, _, _, _, _, rfl, _⟩ := h; rfl) | (obtain ⟨_, _, _, _, _, _, _, rfl, _⟩ := h; rfl) | (obtain ⟨_, _, _, _, _, _, _, _, rfl, _⟩ := h; rfl)) (by decide)
    (fun cdv A outer s H E hr => by exact
      (pss_cons (ps_set (i := 2) sc_law_next.nd rfl (by first | exact Or.inl rfl | exact Or.inr rfl) (pe_op op_modA (pe_ix ix_seq (pv 0) pe_int (fun _ _ => rfl)) (pv 1)))
      (pss_cons (ps_asg (pe_op op_fdivA (pe_ix ix_seq (pv 0) pe_int (fun _ _ => rfl)) (pv 1)) (pg_sub (pv 0) pe_int set_list))
      (pss_one (ps_ret (pv 2))))))
    (d_law_next)
abbrev s_law_pick : Stmt := topS 28
abbrev N_law_pick : List Str := ["_law_draw", "_law_some"]
theorem sc_law_pick : FnScope N_law_pick ["_law_draw", "_law_some"] (defScope s_law_pick) := ⟨rfl, rfl, rfl, by decide +kernel, rfl, by decide +kernel, by decide +kernel⟩
set_option maxHeartbeats 1000000 in
theorem ok_law_pick {P : Program} {w : World} {K : PySem.W.Frag} {mg : Str → Option Value} {base : Heap} {f : Addr} {fd : FuncData} {f_law_next : Addr} {fd_law_next : FuncData} (F : FunD K "_law_pick" "_law_pick" (defArgs s_law_pick) (defBody s_law_pick) (defScope s_law_pick) [] [] f fd) (F_law_next : FnOk P w K mg base (L2.CX P w) 1 f_law_next fd_law_next ["_law_draw", "_law_amount"] (spD K (c_law_next K))) (B_law_next : Binds K fd_law_next ["_law_draw", "_law_amount"] []) (m_law_next : mg "_law_next" = some (.ref f_law_next)) (k_law_next : PySem.W.keepIn K (.ref f_law_next) = true) (n_len : mg "len" = none) :
    FnOk P w K mg base (L2.CX P w) 2 f fd ["_law_draw", "_law_some"] (spD K (c_law_pick K)) :=
  fn_DD (t := t_law_pick K) F sc_law_pick (fun ds μ P PX h => by unfold c_law_pick at h; first | (obtain ⟨_, rfl, _⟩ := h; rfl) | (obtain ⟨_, _, rfl, _⟩ := h; rfl) | (obtain ⟨_, _, _, rfl, _⟩ := h; rfl) | (obtain ⟨_, _, _, _, rfl, _⟩ := h; rfl) | (obtain ⟨_, _, _, _, _, rfl, _⟩ := h; rfl) | (obtain ⟨_, _, _, _, _, _, rfl, _⟩ := h; rfl) | (obtain ⟨_, _, _, _, _, _, _, rfl, _⟩ := h; rfl) | (obtain ⟨_, _, _, _, _, _, _, _, rfl, _⟩ := h; rfl)) (by decide)
    (fun cdv A outer s H E hr => by exact
      (pss_one (ps_ret (pe_ix ix_seq (pv 1) (pe_call F_law_next (hr.mono (by decide)) (by rfl) m_law_next k_law_next B_law_next .nil (passes_call (takes_of rfl rfl rfl rfl) (fun _ _ _ _ h => h)) (pa_cons (pv 0) (pa_cons (pe_callB call_len (by rfl) n_len (by decide +kernel) (pa_cons (pv 1) pa_nil)) pa_nil))) (fun _ _ => rfl)))))
    (d_law_pick)
abbrev s_law_sections : Stmt := topS 31
abbrev N_law_sections : List Str := ["_law_draw", "_law_most", "_law_size", "_law_top", "_law_share", "_law_many", "_law_found", "_law_k", "_law_at"]
theorem sc_law_sections : FnScope N_law_sections ["_law_draw", "_law_most"] (defScope s_law_sections) := ⟨rfl, rfl, rfl, by decide +kernel, rfl, by decide +kernel, by decide +kernel⟩
set_option maxHeartbeats 1000000 in
theorem ok_law_sections {P : Program} {w : World} {K : PySem.W.Frag} {mg : Str → Option Value} {base : Heap} {f : Addr} {fd : FuncData} {f_law_pick : Addr} {fd_law_pick : FuncData} {f_law_next : Addr} {fd_law_next : FuncData} (F : FunD K "_law_sections" "_law_sections" (defArgs s_law_sections) (defBody s_law_sections) (defScope s_law_sections) [] [] f fd) (F_law_pick : FnOk P w K mg base (L2.CX P w) 2 f_law_pick fd_law_pick ["_law_draw", "_law_some"] (spD K (c_law_pick K))) (B_law_pick : Binds K fd_law_pick ["_law_draw", "_law_some"] []) (m_law_pick : mg "_law_pick" = some (.ref f_law_pick)) (k_law_pick : PySem.W.keepIn K (.ref f_law_pick) = true) (F_law_next : FnOk P w K mg base (L2.CX P w) 1 f_law_next fd_law_next ["_law_draw", "_law_amount"] (spD K (c_law_next K))) (B_law_next : Binds K fd_law_next ["_law_draw", "_law_amount"] []) (m_law_next : mg "_law_next" = some (.ref f_law_next)) (k_law_next : PySem.W.keepIn K (.ref f_law_next) = true) (n_range : mg "range" = none) :
    FnOk P w K mg base (L2.CX P w) 3 f fd ["_law_draw", "_law_most"] (spD K (c_law_sections K)) :=
  fn_DD (t := t_law_sections K) F sc_law_sections (fun ds μ P PX h => by unfold c_law_sections at h; first | (obtain ⟨_, rfl, _⟩ := h; rfl) | (obtain ⟨_, _, rfl, _⟩ := h; rfl) | (obtain ⟨_, _, _, rfl, _⟩ := h; rfl) | (obtain ⟨_, _, _, _, rfl, _⟩ := h; rfl) | (obtain ⟨_, _, _, _, _, rfl, _⟩ := h; rfl) | (obtain ⟨_, _, _, _, _, _, rfl, _⟩ := h; rfl) | (obtain ⟨_, _, _, _, _, _, _, rfl, _⟩ := h; rfl) | (obtain ⟨_, _, _, _, _, _, _, _, rfl, _⟩ := h; rfl)) (by decide)
    (fun cdv A outer s H E hr => by exact
      (pss_cons (ps_set (i := 2) sc_law_sections.nd rfl (by first | exact Or.inl rfl | exact Or.inr rfl) (pe_call F_law_pick (hr.mono (by decide)) (by rfl) m_law_pick k_law_pick B_law_pick .nil (passes_call (takes_of rfl rfl rfl rfl) (fun _ _ _ _ h => h)) (pa_cons (pv 0) (pa_cons (pe_lst (pa_cons pe_int (pa_cons pe_int (pa_cons pe_int (pa_cons (pv 1) (pa_cons (pv 1) pa_nil)))))) pa_nil))))
      (pss_cons (ps_set (i := 3) sc_law_sections.nd rfl (by first | exact Or.inl rfl | exact Or.inr rfl) (pe_call F_law_pick (hr.mono (by decide)) (by rfl) m_law_pick k_law_pick B_law_pick .nil (passes_call (takes_of rfl rfl rfl rfl) (fun _ _ _ _ h => h)) (pa_cons (pv 0) (pa_cons (pe_lst (pa_cons pe_int (pa_cons pe_int (pa_cons pe_int (pa_cons pe_int (pa_cons (pe_op op_pow pe_int pe_int) pa_nil)))))) pa_nil))))
      (pss_cons (ps_set (i := 4) sc_law_sections.nd rfl (by first | exact Or.inl rfl | exact Or.inr rfl) (pe_call F_law_pick (hr.mono (by decide)) (by rfl) m_law_pick k_law_pick B_law_pick .nil (passes_call (takes_of rfl rfl rfl rfl) (fun _ _ _ _ h => h)) (pa_cons (pv 0) (pa_cons (pe_lst (pa_cons pe_int (pa_cons pe_int (pa_cons pe_int (pa_cons pe_int pa_nil))))) pa_nil))))
      (pss_cons (ps_set (i := 5) sc_law_sections.nd rfl (by first | exact Or.inl rfl | exact Or.inr rfl) (pe_op op_addA pe_int (pe_call F_law_next (hr.mono (by decide)) (by rfl) m_law_next k_law_next B_law_next .nil (passes_call (takes_of rfl rfl rfl rfl) (fun _ _ _ _ h => h)) (pa_cons (pv 0) (pa_cons (pv 2) pa_nil)))))
      (pss_cons (ps_if (PW.pt (pw_and (pt_cmpR (op_eqD hr.units) (pv 2) (pv 1) (nomark _)) (pw_and1 (pt_cmpR (op_eqD hr.units) (pe_op op_modA (pv 5) pe_int) pe_int (nomark _))))) (pss_one (ps_set (i := 5) sc_law_sections.nd rfl (by first | exact Or.inl rfl | exact Or.inr rfl) (pv 1))) pss_nil)
      (pss_cons (ps_set (i := 6) sc_law_sections.nd rfl (by first | exact Or.inl rfl | exact Or.inr rfl) (pe_lst pa_nil))
      (pss_cons (ps_for (passes_of rfl) rfl (pi_range1 (by rfl) n_range (pa_cons (pv 5) pa_nil)) (pg_name (i := 7) sc_law_sections.nd rfl (by first | exact Or.inl rfl | exact Or.inr rfl)) (pss_one (ps_expr (pe_bm PySem.F.plainAttrs_list PySem.F.slot_list_append PySem.F.type_list_append mt_append (pv 6) (pa_cons (pe_tup (pa_cons (pe_op op_addA pe_int (pe_call F_law_next (hr.mono (by decide)) (by rfl) m_law_next k_law_next B_law_next .nil (passes_call (takes_of rfl rfl rfl rfl) (fun _ _ _ _ h => h)) (pa_cons (pv 0) (pa_cons (pv 3) pa_nil)))) (pa_cons (pe_cmpR op_lt (pe_call F_law_next (hr.mono (by decide)) (by rfl) m_law_next k_law_next B_law_next .nil (passes_call (takes_of rfl rfl rfl rfl) (fun _ _ _ _ h => h)) (pa_cons (pv 0) (pa_cons pe_int pa_nil))) (pv 4) (nomark _)) pa_nil))) pa_nil)))))
      (pss_cons (ps_if (PW.pt (pw_and (pt_cmpR (op_eqD hr.units) (pv 3) (pe_op op_pow pe_int pe_int) (nomark _)) (pw_and1 (pt_cmpR (op_eqD hr.units) (pe_call F_law_next (hr.mono (by decide)) (by rfl) m_law_next k_law_next B_law_next .nil (passes_call (takes_of rfl rfl rfl rfl) (fun _ _ _ _ h => h)) (pa_cons (pv 0) (pa_cons pe_int pa_nil))) pe_int (nomark _))))) (pss_cons (ps_set (i := 8) sc_law_sections.nd rfl (by first | exact Or.inl rfl | exact Or.inr rfl) (pe_call F_law_next (hr.mono (by decide)) (by rfl) m_law_next k_law_next B_law_next .nil (passes_call (takes_of rfl rfl rfl rfl) (fun _ _ _ _ h => h)) (pa_cons (pv 0) (pa_cons (pv 5) pa_nil))))
      (pss_one (ps_asg (pe_tup (pa_cons (pv 3) (pa_cons (pe_ix ix_seq (pe_ix ix_seq (pv 6) (pv 8) (fun _ _ => rfl)) pe_int (fun _ _ => rfl)) pa_nil))) (pg_sub (pv 6) (pv 8) set_list)))) pss_nil)
      (pss_cons (ps_asg (pe_tup (pa_cons (pe_ix ix_seq (pe_ix ix_seq (pv 6) (pe_un un_neg pe_int) (fun _ _ => rfl)) pe_int (fun _ _ => rfl)) (pa_cons pe_bl pa_nil))) (pg_sub (pv 6) (pe_un un_neg pe_int) set_list))
      (pss_one (ps_ret (pv 6)))))))))))))
    (d_law_sections)
abbrev s_is_number : Stmt := topS 18
abbrev N_is_number : List Str := ["thing", "least", "most"]
theorem sc_is_number : FnScope N_is_number ["thing", "least", "most"] (defScope s_is_number) := ⟨rfl, rfl, rfl, by decide +kernel, rfl, by decide +kernel, by decide +kernel⟩
set_option maxHeartbeats 1000000 in
theorem ok_is_number {P : Program} {w : World} {K : PySem.W.Frag} {mg : Str → Option Value} {base : Heap} {f : Addr} {fd : FuncData}  (F : FunD K "is_number" "is_number" (defArgs s_is_number) (defBody s_is_number) (defScope s_is_number) [] [] f fd) (n_int : mg "int" = none) (n_isinstance : mg "isinstance" = none) (n_bool : mg "bool" = none) :
    FnOk P w K mg base (L2.CX P w) 1 f fd ["thing", "least", "most"] (spD K (c_is_number K)) :=
  fn_DD (t := t_is_number K) F sc_is_number (fun ds μ P PX h => by unfold c_is_number at h; first | (obtain ⟨_, rfl, _⟩ := h; rfl) | (obtain ⟨_, _, rfl, _⟩ := h; rfl) | (obtain ⟨_, _, _, rfl, _⟩ := h; rfl) | (obtain ⟨_, _, _, _, rfl, _⟩ := h; rfl) | (obtain ⟨_, _, _, _, _, rfl, _⟩ := h; rfl) | (obtain ⟨_, _, _, _, _, _, rfl, _⟩ := h; rfl) | (obtain ⟨_, _, _, _, _, _, _, rfl, _⟩ := h; rfl) | (obtain ⟨_, _, _, _, _, _, _, _, rfl, _⟩ := h; rfl)) (by decide)
    (fun cdv A outer s H E hr => by exact
      (pss_one (ps_ret (pe_and (pe_callB call_isi (by rfl) n_isinstance (by decide +kernel) (pa_cons (pv 0) (pa_cons (pe_bltn (v := .ty "int") (by rfl) n_int (by decide +kernel) rfl) pa_nil))) (pe_and (pe_not (pe_callB call_isi (by rfl) n_isinstance (by decide +kernel) (pa_cons (pv 0) (pa_cons (pe_bltn (v := .ty "bool") (by rfl) n_bool (by decide +kernel) rfl) pa_nil)))) (pe_one (pe_chain op_le op_le (pv 1) (pv 0) (pv 2))))))))
    (d_is_number)
abbrev s_is_section : Stmt := topS 22
abbrev N_is_section : List Str := ["thing"]
theorem sc_is_section : FnScope N_is_section ["thing"] (defScope s_is_section) := ⟨rfl, rfl, rfl, by decide +kernel, rfl, by decide +kernel, by decide +kernel⟩
set_option maxHeartbeats 1000000 in
theorem ok_is_section {P : Program} {w : World} {K : PySem.W.Frag} {mg : Str → Option Value} {base : Heap} {f : Addr} {fd : FuncData} {f_is_number : Addr} {fd_is_number : FuncData} (F : FunD K "is_section" "is_section" (defArgs s_is_section) (defBody s_is_section) (defScope s_is_section) [] [] f fd) (F_is_number : FnOk P w K mg base (L2.CX P w) 1 f_is_number fd_is_number ["thing", "least", "most"] (spD K (c_is_number K))) (B_is_number : Binds K fd_is_number ["thing", "least", "most"] []) (m_is_number : mg "is_number" = some (.ref f_is_number)) (k_is_number : PySem.W.keepIn K (.ref f_is_number) = true) (n_tuple : mg "tuple" = none) (n_isinstance : mg "isinstance" = none) (n_len : mg "len" = none) (n_bool : mg "bool" = none) (k_LONGEST : ∃ t, mg "LONGEST" = some (.int 1000000000000 t)) :
    FnOk P w K mg base (L2.CX P w) 2 f fd ["thing"] (spD K (c_is_section K)) :=
  fn_DD (t := t_is_section K) F sc_is_section (fun ds μ P PX h => by unfold c_is_section at h; first | (obtain ⟨_, rfl, _⟩ := h; rfl) | (obtain ⟨_, _, rfl, _⟩ := h; rfl) | (obtain ⟨_, _, _, rfl, _⟩ := h; rfl) | (obtain ⟨_, _, _, _, rfl, _⟩ := h; rfl) | (obtain ⟨_, _, _, _, _, rfl, _⟩ := h; rfl) | (obtain ⟨_, _, _, _, _, _, rfl, _⟩ := h; rfl) | (obtain ⟨_, _, _, _, _, _, _, rfl, _⟩ := h; rfl) | (obtain ⟨_, _, _, _, _, _, _, _, rfl, _⟩ := h; rfl)) (by decide)
    (fun cdv A outer s H E hr => by exact
      (pss_cons (ps_if (PW.pt (pw_or (pt_not (pt_truth (pe_callB call_isi (by rfl) n_isinstance (by decide +kernel) (pa_cons (pv 0) (pa_cons (pe_bltn (v := .ty "tuple") (by rfl) n_tuple (by decide +kernel) rfl) pa_nil))) (by intro _; rfl))) (pw_or (pt_cmpR (op_neD hr.units) (pe_callB call_len (by rfl) n_len (by decide +kernel) (pa_cons (pv 0) pa_nil)) pe_int (nomark _)) (pw_or1 (pt_not (pt_truth (pe_callB call_isi (by rfl) n_isinstance (by decide +kernel) (pa_cons (pe_ix ix_seq (pv 0) pe_int (fun _ _ => rfl)) (pa_cons (pe_bltn (v := .ty "bool") (by rfl) n_bool (by decide +kernel) rfl) pa_nil))) (by intro _; rfl))))))) (pss_one (ps_ret pe_bl)) pss_nil)
      (pss_one (ps_ret (pe_call F_is_number (hr.mono (by decide)) (by rfl) m_is_number k_is_number B_is_number .nil (passes_call (takes_of rfl rfl rfl rfl) (fun _ _ _ _ h => h)) (pa_cons (pe_ix ix_seq (pv 0) pe_int (fun _ _ => rfl)) (pa_cons pe_int (pa_cons (pe_glob (v := .int 1000000000000) (by rfl) k_LONGEST.choose_spec ⟨_, rfl⟩) pa_nil))))))))
    (d_is_section)
abbrev s_are_sections : Stmt := topS 23
abbrev N_are_sections : List Str := ["thing", "one"]
theorem sc_are_sections : FnScope N_are_sections ["thing"] (defScope s_are_sections) := ⟨rfl, rfl, rfl, by decide +kernel, rfl, by decide +kernel, by decide +kernel⟩
set_option maxHeartbeats 1000000 in
theorem ok_are_sections {P : Program} {w : World} {K : PySem.W.Frag} {mg : Str → Option Value} {base : Heap} {f : Addr} {fd : FuncData} {f_is_section : Addr} {fd_is_section : FuncData} (F : FunD K "are_sections" "are_sections" (defArgs s_are_sections) (defBody s_are_sections) (defScope s_are_sections) [] [] f fd) (F_is_section : FnOk P w K mg base (L2.CX P w) 2 f_is_section fd_is_section ["thing"] (spD K (c_is_section K))) (B_is_section : Binds K fd_is_section ["thing"] []) (m_is_section : mg "is_section" = some (.ref f_is_section)) (k_is_section : PySem.W.keepIn K (.ref f_is_section) = true) (n_list : mg "list" = none) (n_isinstance : mg "isinstance" = none) (n_len : mg "len" = none) (k_MOST_SECTIONS : ∃ t, mg "MOST_SECTIONS" = some (.int 60 t)) (n_all : mg "all" = none) :
    FnOk P w K mg base (L2.CX P w) 3 f fd ["thing"] (spD K (c_are_sections K)) :=
  fn_DD (t := t_are_sections K) F sc_are_sections (fun ds μ P PX h => by unfold c_are_sections at h; first | (obtain ⟨_, rfl, _⟩ := h; rfl) | (obtain ⟨_, _, rfl, _⟩ := h; rfl) | (obtain ⟨_, _, _, rfl, _⟩ := h; rfl) | (obtain ⟨_, _, _, _, rfl, _⟩ := h; rfl) | (obtain ⟨_, _, _, _, _, rfl, _⟩ := h; rfl) | (obtain ⟨_, _, _, _, _, _, rfl, _⟩ := h; rfl) | (obtain ⟨_, _, _, _, _, _, _, rfl, _⟩ := h; rfl) | (obtain ⟨_, _, _, _, _, _, _, _, rfl, _⟩ := h; rfl)) (by decide)
    (fun cdv A outer s H E hr => by exact
      (pss_cons (ps_if (PW.pt (pw_or (pt_not (pt_truth (pe_callB call_isi (by rfl) n_isinstance (by decide +kernel) (pa_cons (pv 0) (pa_cons (pe_bltn (v := .ty "list") (by rfl) n_list (by decide +kernel) rfl) pa_nil))) (by intro _; rfl))) (pw_or1 (pt_not (pt_chain op_le op_le pe_int (pe_callB call_len (by rfl) n_len (by decide +kernel) (pa_cons (pv 0) pa_nil)) (pe_glob (v := .int 60) (by rfl) k_MOST_SECTIONS.choose_spec ⟨_, rfl⟩)))))) (pss_one (ps_ret pe_bl)) pss_nil)
      (pss_one (ps_ret (pe_and (pe_callB (cr_all rfl) (by rfl) n_all (by decide +kernel) (pa_cons (pe_lc (own := [("one", 1)]) (g := (gName 1)) (tt := tYes) (te := (tCall (spD K (c_is_section K)) [] E0 (tCons (tVar 1) tNil))) (by rfl) sc_are_sections.nd (pi_any (pv 0)) (blkOk_by (own := [("one", 1)]) (N := N_are_sections) (sc := defScope s_are_sections) (by decide +kernel)) (fun _ _ _ _ _ => by exact (pg_name (i := 1) sc_are_sections.nd rfl (by first | exact Or.inl rfl | exact Or.inr rfl))) (fun _ _ _ _ _ => by exact pts_nil) (fun _ _ _ _ _ => by exact (pe_call F_is_section (hr.mono (by decide)) (by rfl) m_is_section k_is_section B_is_section .nil passL (pa_cons (pv 1) pa_nil)))) pa_nil)) (pe_one (pe_not (pe_ix ix_seq (pe_ix ix_seq (pv 0) (pe_un un_neg pe_int) (fun _ _ => rfl)) pe_int (fun _ _ => rfl)))))))))
    (d_are_sections)
abbrev s_Book_init : Stmt := inClass (topS 24) 0
abbrev N_Book_init : List Str := ["self", "sections"]
theorem sc_Book_init : FnScope N_Book_init ["self", "sections"] (defScope s_Book_init) := ⟨rfl, rfl, rfl, by decide +kernel, rfl, by decide +kernel, by decide +kernel⟩
set_option maxHeartbeats 1000000 in
theorem ok_Book_init {P : Program} {w : World} {K : PySem.W.Frag} {mg : Str → Option Value} {base : Heap} {f : Addr} {fd : FuncData} {f_are_sections : Addr} {fd_are_sections : FuncData} (F : FunD K "__init__" "Book.__init__" (defArgs s_Book_init) (defBody s_Book_init) (defScope s_Book_init) [] [] f fd) (F_are_sections : FnOk P w K mg base (L2.CX P w) 3 f_are_sections fd_are_sections ["thing"] (spD K (c_are_sections K))) (B_are_sections : Binds K fd_are_sections ["thing"] []) (m_are_sections : mg "are_sections" = some (.ref f_are_sections)) (k_are_sections : PySem.W.keepIn K (.ref f_are_sections) = true) (x_BadBook : ExC K mg "BadBook") (n_list : mg "list" = none) (kb : KBook K) :
    FnOk P w K mg base (L2.CX P w) 4 f fd ["self", "sections"] (spD K (c_Book_init K)) :=
  fn_DD (t := t_Book_init K) F sc_Book_init (fun ds μ P PX h => by unfold c_Book_init at h; first | (obtain ⟨_, rfl, _⟩ := h; rfl) | (obtain ⟨_, _, rfl, _⟩ := h; rfl) | (obtain ⟨_, _, _, rfl, _⟩ := h; rfl) | (obtain ⟨_, _, _, _, rfl, _⟩ := h; rfl) | (obtain ⟨_, _, _, _, _, rfl, _⟩ := h; rfl) | (obtain ⟨_, _, _, _, _, _, rfl, _⟩ := h; rfl) | (obtain ⟨_, _, _, _, _, _, _, rfl, _⟩ := h; rfl) | (obtain ⟨_, _, _, _, _, _, _, _, rfl, _⟩ := h; rfl)) (by decide)
    (fun cdv A outer s H E hr => by exact
      (pss_cons (ps_if (pt_not (pt_truth (pe_call F_are_sections (hr.mono (by decide)) (by rfl) m_are_sections k_are_sections B_are_sections .nil (passes_call (takes_of rfl rfl rfl rfl) (fun _ _ _ _ h => h)) (pa_cons (pv 1) pa_nil)) (by intro _; rfl))) (pss_one (ps_raise rfl (takes_of rfl rfl rfl rfl) (pmk_own PySem.F.excBase_ValueError x_BadBook.xc x_BadBook.gc x_BadBook.kc (raises_own x_BadBook.bc x_BadBook.tc) (by rfl)))) pss_nil)
      (pss_one (ps_fld (pv 0) (pe_callTy call_list_of (by rfl) n_list (by decide +kernel) (pa_cons (pv 1) pa_nil)) rfl))))
    (d_Book_init kb)
abbrev s_law_pairs : Stmt := topS 32
abbrev N_law_pairs : List Str := ["_law_draw", "_law_many", "_law_one", "_law_found", "_law_k"]
theorem sc_law_pairs : FnScope N_law_pairs ["_law_draw", "_law_many"] (defScope s_law_pairs) := ⟨rfl, rfl, rfl, by decide +kernel, rfl, by decide +kernel, by decide +kernel⟩
set_option maxHeartbeats 1000000 in
theorem ok_law_pairs {P : Program} {w : World} {K : PySem.W.Frag} {mg : Str → Option Value} {base : Heap} {f : Addr} {fd : FuncData} {f_law_next : Addr} {fd_law_next : FuncData} (F : FunD K "_law_pairs" "_law_pairs" (defArgs s_law_pairs) (defBody s_law_pairs) (defScope s_law_pairs) [] [] f fd) (F_law_next : FnOk P w K mg base (L2.CX P w) 1 f_law_next fd_law_next ["_law_draw", "_law_amount"] (spD K (c_law_next K))) (B_law_next : Binds K fd_law_next ["_law_draw", "_law_amount"] []) (m_law_next : mg "_law_next" = some (.ref f_law_next)) (k_law_next : PySem.W.keepIn K (.ref f_law_next) = true) (n_range : mg "range" = none) :
    FnOk P w K mg base (L2.CX P w) 2 f fd ["_law_draw", "_law_many"] (spD K (c_law_pairs K)) :=
  fn_DD (t := t_law_pairs K) F sc_law_pairs (fun ds μ P PX h => by unfold c_law_pairs at h; first | (obtain ⟨_, rfl, _⟩ := h; rfl) | (obtain ⟨_, _, rfl, _⟩ := h; rfl) | (obtain ⟨_, _, _, rfl, _⟩ := h; rfl) | (obtain ⟨_, _, _, _, rfl, _⟩ := h; rfl) | (obtain ⟨_, _, _, _, _, rfl, _⟩ := h; rfl) | (obtain ⟨_, _, _, _, _, _, rfl, _⟩ := h; rfl) | (obtain ⟨_, _, _, _, _, _, _, rfl, _⟩ := h; rfl) | (obtain ⟨_, _, _, _, _, _, _, _, rfl, _⟩ := h; rfl)) (by decide)
    (fun cdv A outer s H E hr => by exact
      (pss_cons (ps_if (pt_cmpR op_lt (pv 1) pe_int (nomark _)) (pss_one (ps_ret (pe_lc (own := [("_law_one", 2)]) (g := (gName 2)) (tt := tYes) (te := (tTup (tCons (tOp (rI0 fun i j => .int (i - j)) (tOp rFdivA (tVar 2) (tOp (rAddA K) (tVar 1) (tC (.int 5)))) (tC (.int 2))) (tCons (tOp (rI0 fun i j => .int (i - j)) (tOp rModA (tVar 2) (tOp (rAddA K) (tVar 1) (tC (.int 5)))) (tC (.int 2))) tNil)))) (by rfl) sc_law_pairs.nd (pi_range1 (by rfl) n_range (pa_cons (pe_op op_mulA (pe_op op_addA (pv 1) pe_int) (pe_op op_addA (pv 1) pe_int)) pa_nil)) (blkOk_by (own := [("_law_one", 2)]) (N := N_law_pairs) (sc := defScope s_law_pairs) (by decide +kernel)) (fun _ _ _ _ _ => by exact (pg_name (i := 2) sc_law_pairs.nd rfl (by first | exact Or.inl rfl | exact Or.inr rfl))) (fun _ _ _ _ _ => by exact pts_nil) (fun _ _ _ _ _ => by exact (pe_tup (pa_cons (pe_op op_sub (pe_op op_fdivA (pv 2) (pe_op op_addA (pv 1) pe_int)) pe_int) (pa_cons (pe_op op_sub (pe_op op_modA (pv 2) (pe_op op_addA (pv 1) pe_int)) pe_int) pa_nil))))))) pss_nil)
      (pss_cons (ps_set (i := 3) sc_law_pairs.nd rfl (by first | exact Or.inl rfl | exact Or.inr rfl) (pe_lst (pa_cons (pe_tup (pa_cons pe_int (pa_cons (pv 1) pa_nil))) (pa_cons (pe_tup (pa_cons (pv 1) (pa_cons (pv 1) pa_nil))) (pa_cons (pe_tup (pa_cons pe_int (pa_cons pe_int pa_nil))) (pa_cons (pe_tup (pa_cons (pv 1) (pa_cons (pe_op op_addA (pv 1) pe_int) pa_nil))) (pa_cons (pe_tup (pa_cons (pe_un un_neg pe_int) (pa_cons pe_int pa_nil))) (pa_cons (pe_tup (pa_cons (pe_op op_addA (pv 1) pe_int) (pa_cons (pe_op op_addA (pv 1) pe_int) pa_nil))) pa_nil))))))))
      (pss_cons (ps_for (passes_of rfl) rfl (pi_range1 (by rfl) n_range (pa_cons pe_int pa_nil)) (pg_name (i := 4) sc_law_pairs.nd rfl (by first | exact Or.inl rfl | exact Or.inr rfl)) (pss_one (ps_expr (pe_bm PySem.F.plainAttrs_list PySem.F.slot_list_append PySem.F.type_list_append mt_append (pv 3) (pa_cons (pe_tup (pa_cons (pe_call F_law_next (hr.mono (by decide)) (by rfl) m_law_next k_law_next B_law_next .nil (passes_call (takes_of rfl rfl rfl rfl) (fun _ _ _ _ h => h)) (pa_cons (pv 0) (pa_cons (pe_op op_addA (pv 1) pe_int) pa_nil))) (pa_cons (pe_call F_law_next (hr.mono (by decide)) (by rfl) m_law_next k_law_next B_law_next .nil (passes_call (takes_of rfl rfl rfl rfl) (fun _ _ _ _ h => h)) (pa_cons (pv 0) (pa_cons (pe_op op_addA (pv 1) pe_int) pa_nil))) pa_nil))) pa_nil)))))
      (pss_one (ps_ret (pv 3)))))))
    (d_law_pairs)
abbrev s_Book_long : Stmt := inClass (topS 24) 5
abbrev N_Book_long : List Str := ["self", "first", "end", "one"]
theorem sc_Book_long : FnScope N_Book_long ["self", "first", "end"] (defScope s_Book_long) := ⟨rfl, rfl, rfl, by decide +kernel, rfl, by decide +kernel, by decide +kernel⟩
set_option maxHeartbeats 1000000 in
theorem ok_Book_long {P : Program} {w : World} {K : PySem.W.Frag} {mg : Str → Option Value} {base : Heap} {f : Addr} {fd : FuncData}  (F : FunD K "long" "Book.long" (defArgs s_Book_long) (defBody s_Book_long) (defScope s_Book_long) [] [] f fd) (n_len : mg "len" = none) (x_BadNumber : ExC K mg "BadNumber") (n_sum : mg "sum" = none) (kb : KBook K) :
    FnOk P w K mg base (L2.CX P w) 1 f fd ["self", "first", "end"] (spD K (c_Book_long K)) :=
  fn_DD (t := t_Book_long K) F sc_Book_long (fun ds μ P PX h => by unfold c_Book_long at h; first | (obtain ⟨_, rfl, _⟩ := h; rfl) | (obtain ⟨_, _, rfl, _⟩ := h; rfl) | (obtain ⟨_, _, _, rfl, _⟩ := h; rfl) | (obtain ⟨_, _, _, _, rfl, _⟩ := h; rfl) | (obtain ⟨_, _, _, _, _, rfl, _⟩ := h; rfl) | (obtain ⟨_, _, _, _, _, _, rfl, _⟩ := h; rfl) | (obtain ⟨_, _, _, _, _, _, _, rfl, _⟩ := h; rfl) | (obtain ⟨_, _, _, _, _, _, _, _, rfl, _⟩ := h; rfl)) (by decide)
    (fun cdv A outer s H E hr => by exact
      (pss_cons (ps_if (pt_not (pt_chain3 op_le op_le op_le pe_int (pv 1) (pv 2) (pe_callB call_len (by rfl) n_len (by decide +kernel) (pa_cons (pe_fld (pv 0) rfl) pa_nil)))) (pss_one (ps_raise rfl (takes_of rfl rfl rfl rfl) (pmk_own PySem.F.excBase_ValueError x_BadNumber.xc x_BadNumber.gc x_BadNumber.kc (raises_own x_BadNumber.bc x_BadNumber.tc) (by rfl)))) pss_nil)
      (pss_one (ps_ret (pe_callB (cr_sum rfl) (by rfl) n_sum (by decide +kernel) (pa_cons (pe_lc (own := [("one", 3)]) (g := (gName 3)) (tt := tYes) (te := (tOp (rIx K) (tVar 3) (tC (.int 0)))) (by rfl) sc_Book_long.nd (pi_any (pe_slice sl_any (pe_fld (pv 0) rfl) (po_some (pv 1)) (po_some (pv 2)))) (blkOk_by (own := [("one", 3)]) (N := N_Book_long) (sc := defScope s_Book_long) (by decide +kernel)) (fun _ _ _ _ _ => by exact (pg_name (i := 3) sc_Book_long.nd rfl (by first | exact Or.inl rfl | exact Or.inr rfl))) (fun _ _ _ _ _ => by exact pts_nil) (fun _ _ _ _ _ => by exact (pe_ix ix_seq (pv 3) pe_int (fun _ _ => rfl)))) pa_nil))))))
    (d_Book_long kb)
abbrev s_law_word : Stmt := topS 29
abbrev N_law_word : List Str := ["_law_e", "_law_found", "_law_words", "_law_some", "_law_word_here", "_law_good"]
theorem sc_law_word : FnScope N_law_word ["_law_e"] (defScope s_law_word) := ⟨rfl, rfl, rfl, by decide +kernel, rfl, by decide +kernel, by decide +kernel⟩
set_option maxHeartbeats 1000000 in
theorem ok_law_word {P : Program} {w : World} {K : PySem.W.Frag} {mg : Str → Option Value} {base : Heap} {f : Addr} {fd : FuncData}  (F : FunD K "_law_word" "_law_word" (defArgs s_law_word) (defBody s_law_word) (defScope s_law_word) [] [] f fd) (g_BadRow : mg "BadRow" = some (.ref (He.ga K "BadRow"))) (n_isinstance : mg "isinstance" = none) (g_BadFeast : mg "BadFeast" = some (.ref (He.ga K "BadFeast"))) (g_BadCalendar : mg "BadCalendar" = some (.ref (He.ga K "BadCalendar"))) (g_BadBook : mg "BadBook" = some (.ref (He.ga K "BadBook"))) (g_NoRow : mg "NoRow" = some (.ref (He.ga K "NoRow"))) (g_NoDay : mg "NoDay" = some (.ref (He.ga K "NoDay"))) (g_BadNumber : mg "BadNumber" = some (.ref (He.ga K "BadNumber"))) (g_BadHouse : mg "BadHouse" = some (.ref (He.ga K "BadHouse"))) (g_NeverDone : mg "NeverDone" = some (.ref (He.ga K "NeverDone"))) (g_TooTight : mg "TooTight" = some (.ref (He.ga K "TooTight"))) (g_NoPiece : mg "NoPiece" = some (.ref (He.ga K "NoPiece"))) (g_BadText : mg "BadText" = some (.ref (He.ga K "BadText"))) (g_NoDeed : mg "NoDeed" = some (.ref (He.ga K "NoDeed"))) (g_TooFar : mg "TooFar" = some (.ref (He.ga K "TooFar"))) (n_zip : mg "zip" = none) (n_len : mg "len" = none) (n_ValueError : mg "ValueError" = none) (kx : KExc K excNames) :
    FnOk P w K mg base (L2.CX P w) 1 f fd ["_law_e"] (spD K (c_law_word K)) :=
  fn_DD (t := t_law_word K) F sc_law_word (fun ds μ P PX h => by unfold c_law_word at h; first | (obtain ⟨_, rfl, _⟩ := h; rfl) | (obtain ⟨_, _, rfl, _⟩ := h; rfl) | (obtain ⟨_, _, _, rfl, _⟩ := h; rfl) | (obtain ⟨_, _, _, _, rfl, _⟩ := h; rfl) | (obtain ⟨_, _, _, _, _, rfl, _⟩ := h; rfl) | (obtain ⟨_, _, _, _, _, _, rfl, _⟩ := h; rfl) | (obtain ⟨_, _, _, _, _, _, _, rfl, _⟩ := h; rfl) | (obtain ⟨_, _, _, _, _, _, _, _, rfl, _⟩ := h; rfl)) (by decide)
    (fun cdv A outer s H E hr => by exact
      (pss_cons (ps_set (i := 1) sc_law_word.nd rfl (by first | exact Or.inl rfl | exact Or.inr rfl) (pe_lst (pa_cons (pe_callB call_isX (by rfl) n_isinstance (by decide +kernel) (pa_cons (pv 0) (pa_cons (pe_glob (v := .ref (He.ga K "BadBook")) (by rfl) g_BadBook rfl) pa_nil))) (pa_cons (pe_callB call_isX (by rfl) n_isinstance (by decide +kernel) (pa_cons (pv 0) (pa_cons (pe_glob (v := .ref (He.ga K "BadCalendar")) (by rfl) g_BadCalendar rfl) pa_nil))) (pa_cons (pe_callB call_isX (by rfl) n_isinstance (by decide +kernel) (pa_cons (pv 0) (pa_cons (pe_glob (v := .ref (He.ga K "BadFeast")) (by rfl) g_BadFeast rfl) pa_nil))) (pa_cons (pe_callB call_isX (by rfl) n_isinstance (by decide +kernel) (pa_cons (pv 0) (pa_cons (pe_glob (v := .ref (He.ga K "BadRow")) (by rfl) g_BadRow rfl) pa_nil))) pa_nil))))))
      (pss_cons (ps_set (i := 1) sc_law_word.nd rfl (by first | exact Or.inl rfl | exact Or.inr rfl) (pe_op op_addA (pv 1) (pe_lst (pa_cons (pe_callB call_isX (by rfl) n_isinstance (by decide +kernel) (pa_cons (pv 0) (pa_cons (pe_glob (v := .ref (He.ga K "BadHouse")) (by rfl) g_BadHouse rfl) pa_nil))) (pa_cons (pe_callB call_isX (by rfl) n_isinstance (by decide +kernel) (pa_cons (pv 0) (pa_cons (pe_glob (v := .ref (He.ga K "BadNumber")) (by rfl) g_BadNumber rfl) pa_nil))) (pa_cons (pe_callB call_isX (by rfl) n_isinstance (by decide +kernel) (pa_cons (pv 0) (pa_cons (pe_glob (v := .ref (He.ga K "NoDay")) (by rfl) g_NoDay rfl) pa_nil))) (pa_cons (pe_callB call_isX (by rfl) n_isinstance (by decide +kernel) (pa_cons (pv 0) (pa_cons (pe_glob (v := .ref (He.ga K "NoRow")) (by rfl) g_NoRow rfl) pa_nil))) pa_nil)))))))
      (pss_cons (ps_set (i := 1) sc_law_word.nd rfl (by first | exact Or.inl rfl | exact Or.inr rfl) (pe_op op_addA (pv 1) (pe_lst (pa_cons (pe_callB call_isX (by rfl) n_isinstance (by decide +kernel) (pa_cons (pv 0) (pa_cons (pe_glob (v := .ref (He.ga K "NoPiece")) (by rfl) g_NoPiece rfl) pa_nil))) (pa_cons (pe_callB call_isX (by rfl) n_isinstance (by decide +kernel) (pa_cons (pv 0) (pa_cons (pe_glob (v := .ref (He.ga K "TooTight")) (by rfl) g_TooTight rfl) pa_nil))) (pa_cons (pe_callB call_isX (by rfl) n_isinstance (by decide +kernel) (pa_cons (pv 0) (pa_cons (pe_glob (v := .ref (He.ga K "NeverDone")) (by rfl) g_NeverDone rfl) pa_nil))) pa_nil))))))
      (pss_cons (ps_set (i := 1) sc_law_word.nd rfl (by first | exact Or.inl rfl | exact Or.inr rfl) (pe_op op_addA (pv 1) (pe_lst (pa_cons (pe_callB call_isX (by rfl) n_isinstance (by decide +kernel) (pa_cons (pv 0) (pa_cons (pe_glob (v := .ref (He.ga K "TooFar")) (by rfl) g_TooFar rfl) pa_nil))) (pa_cons (pe_callB call_isX (by rfl) n_isinstance (by decide +kernel) (pa_cons (pv 0) (pa_cons (pe_glob (v := .ref (He.ga K "NoDeed")) (by rfl) g_NoDeed rfl) pa_nil))) (pa_cons (pe_callB call_isX (by rfl) n_isinstance (by decide +kernel) (pa_cons (pv 0) (pa_cons (pe_glob (v := .ref (He.ga K "BadText")) (by rfl) g_BadText rfl) pa_nil))) pa_nil))))))
      (pss_cons (ps_set (i := 2) sc_law_word.nd rfl (by first | exact Or.inl rfl | exact Or.inr rfl) (pe_lst (pa_cons pe_str (pa_cons pe_str (pa_cons pe_str (pa_cons pe_str (pa_cons pe_str (pa_cons pe_str (pa_cons pe_str (pa_cons pe_str (pa_cons pe_str pa_nil)))))))))))
      (pss_cons (ps_set (i := 2) sc_law_word.nd rfl (by first | exact Or.inl rfl | exact Or.inr rfl) (pe_op op_addA (pv 2) (pe_lst (pa_cons pe_str (pa_cons pe_str (pa_cons pe_str (pa_cons pe_str (pa_cons pe_str pa_nil))))))))
      (pss_cons (by first | exact ps_setLc (i := 3) (own := [("_law_word_here", 4), ("_law_good", 5)]) (g := (gTup K 2 (gCons (gName 4) (gCons (gName 5) gNil)))) (tt := (tTruth K (tVar 5))) (te := (tVar 4)) (by rfl) sc_law_word.nd rfl rfl (sw_true rfl rfl rfl (by decide +kernel)) (pi_zip (by rfl) n_zip (pa_cons (pv 2) (pa_cons (pv 1) pa_nil))) (blkOk_by (own := [("_law_word_here", 4), ("_law_good", 5)]) (N := N_law_word) (sc := defScope s_law_word) (by decide +kernel)) (fun _ _ _ _ _ => by exact (pg_tup rfl (pgs_cons (pg_name (i := 4) sc_law_word.nd rfl (by first | exact Or.inl rfl | exact Or.inr rfl)) (pgs_cons (pg_name (i := 5) sc_law_word.nd rfl (by first | exact Or.inl rfl | exact Or.inr rfl)) pgs_nil)))) (fun _ _ _ _ _ => by exact (pts_one (pt_truth (pv 5) (by intro _; rfl)))) (fun _ _ _ _ _ => by exact (pv 4)) | exact ps_set (i := 3) sc_law_word.nd rfl (by first | exact Or.inl rfl | exact Or.inr rfl) (pe_lc (own := [("_law_word_here", 4), ("_law_good", 5)]) (g := (gTup K 2 (gCons (gName 4) (gCons (gName 5) gNil)))) (tt := (tTruth K (tVar 5))) (te := (tVar 4)) (by rfl) sc_law_word.nd (pi_zip (by rfl) n_zip (pa_cons (pv 2) (pa_cons (pv 1) pa_nil))) (blkOk_by (own := [("_law_word_here", 4), ("_law_good", 5)]) (N := N_law_word) (sc := defScope s_law_word) (by decide +kernel)) (fun _ _ _ _ _ => by exact (pg_tup rfl (pgs_cons (pg_name (i := 4) sc_law_word.nd rfl (by first | exact Or.inl rfl | exact Or.inr rfl)) (pgs_cons (pg_name (i := 5) sc_law_word.nd rfl (by first | exact Or.inl rfl | exact Or.inr rfl)) pgs_nil)))) (fun _ _ _ _ _ => by exact (pts_one (pt_truth (pv 5) (by intro _; rfl)))) (fun _ _ _ _ _ => by exact (pv 4))))
      (pss_one (ps_ret (pe_ifExp (PW.pt (pw_and (pt_cmpR (op_eqD hr.units) (pe_callB call_len (by rfl) n_len (by decide +kernel) (pa_cons (pv 3) pa_nil)) pe_int (nomark _)) (pw_and1 (pt_truth (pe_callB call_isX (by rfl) n_isinstance (by decide +kernel) (pa_cons (pv 0) (pa_cons (pe_bltn (v := .ty "ValueError") (by rfl) n_ValueError (by decide +kernel) rfl) pa_nil))) (by intro _; rfl))))) (pe_ix ix_seq (pv 3) pe_int (fun _ _ => rfl)) pe_str)))))))))))
    (d_law_word kx)
abbrev s_law_tried : Stmt := topS 30
abbrev N_law_tried : List Str := ["_law_deed", "_law_caught", "_law_e"]
theorem sc_law_tried : FnScope N_law_tried ["_law_deed"] (defScope s_law_tried) := ⟨rfl, rfl, rfl, by decide +kernel, rfl, by decide +kernel, by decide +kernel⟩
theorem gives_law_tried {X : Cx} {g : Addr} {cdv : Value} {q : Str} {k : Nat} {f_law_word : Addr} {fd_law_word : FuncData} (hr : Room (k + 1) (X.A.deeper (envOfC "_law_tried" (defScope s_law_tried) 0 g cdv))) (F_law_word : FnOk X.prog X.w X.K X.mg X.base (L2.CX X.prog X.w) 1 f_law_word fd_law_word ["_law_e"] (spD X.K (c_law_word X.K))) (B_law_word : Binds X.K fd_law_word ["_law_e"] []) (m_law_word : X.mg "_law_word" = some (.ref f_law_word)) (k_law_word : PySem.W.keepIn X.K (.ref f_law_word) = true) (g_ReadError : X.mg "ReadError" = some (.ref (He.ga X.K "ReadError"))) :
    Gives X N_law_tried "_law_tried" (defScope s_law_tried) g cdv (defBody s_law_tried) "_law_deed" q (TTd N_law_tried q (t_law_tried X.K NoX)) :=
  gives_of (fun s H td act => by
    have hr : Room (k + 1) (X.A.deeper (envOfC "_law_tried" (defScope s_law_tried) s.heap.objs.size g cdv)) := ⟨hr.1, hr.2, hr.3⟩
    exact
      (pss_cons (ps_set (i := 1) sc_law_tried.nd rfl (by first | exact Or.inl rfl | exact Or.inr rfl) pe_non)
      (pss_cons (ps_try_kp (i := 2) rfl rfl rfl sc_law_tried.nd rfl rfl ⟨(by rfl), (by decide), .inl g_ReadError⟩ LamX.takes0 (fun W pn xe tk po => by exact (pss_one (ps_expr (act W pn xe _ _ tk)))) (fun a pn => by exact (pss_one (ps_set (i := 1) sc_law_tried.nd rfl (by first | exact Or.inl rfl | exact Or.inr rfl) (pv 2)))))
      (pss_one (ps_ret (pe_ifExp (pt_cmp (pc_isN (pv 1)) rfl) pe_str (pe_call F_law_word (hr.mono (by omega)) (by rfl) m_law_word k_law_word B_law_word .nil (passes_call (takes_of rfl rfl rfl rfl) (fun _ _ _ _ h => h)) (pa_cons (pv 1) pa_nil))))))))
abbrev s_law_right : Stmt := topS 33
abbrev N_law_right : List Str := ["_law_book", "_law_sections_here", "_law_first", "_law_end", "_law_many", "_law_found", "_law_due", "_law_at"]
theorem sc_law_right : FnScope N_law_right ["_law_book", "_law_sections_here", "_law_first", "_law_end"] (defScope s_law_right) := ⟨rfl, rfl, rfl, by decide +kernel, rfl, by decide +kernel, by decide +kernel⟩
set_option maxHeartbeats 1000000 in
theorem ok_law_right {P : Program} {w : World} {K : PySem.W.Frag} {mg : Str → Option Value} {base : Heap} {fd : FuncData} {f_Book_long : Addr} {fd_Book_long : FuncData} {f_law_word : Addr} {fd_law_word : FuncData} {f_law_tried : Addr} {fd_law_tried : FuncData} (F : FunD K "_law_right" "_law_right" (defArgs s_law_right) (defBody s_law_right) (defScope s_law_right) [] [] (He.fAd K ("_law_right", none)) fd) (F_Book_long : FnOk P w K mg base (L2.CX P w) 1 f_Book_long fd_Book_long ["self", "first", "end"] (spD K (c_Book_long K))) (B_Book_long : Binds K fd_Book_long ["self", "first", "end"] []) (F_law_word : FnOk P w K mg base (L2.CX P w) 1 f_law_word fd_law_word ["_law_e"] (spD K (c_law_word K))) (B_law_word : Binds K fd_law_word ["_law_e"] []) (m_law_word : mg "_law_word" = some (.ref f_law_word)) (k_law_word : PySem.W.keepIn K (.ref f_law_word) = true) (FT_law_tried : FunD K "_law_tried" "_law_tried" (defArgs s_law_tried) (defBody s_law_tried) (defScope s_law_tried) [] [] f_law_tried fd_law_tried) (B_law_tried : Binds K fd_law_tried ["_law_deed"] []) (m_law_tried : mg "_law_tried" = some (.ref f_law_tried)) (n_len : mg "len" = none) (cl_Book : Cls K (He.ga K "Book")) (mm_Book_long : Meth K (He.ga K "Book") "long" f_Book_long) (g_ReadError : mg "ReadError" = some (.ref (He.ga K "ReadError"))) (n_range : mg "range" = none) (n_int : mg "int" = none) (n_isinstance : mg "isinstance" = none) (n_bool : mg "bool" = none) (kx : KExc K excNames) (TB : LamX.TabB base mg (He.cT K ("_law_right", none)).1 (He.cT K ("_law_right", none)).2) :
    FnOk P w K mg base (L2.CX P w) 4 (He.fAd K ("_law_right", none)) fd ["_law_book", "_law_sections_here", "_law_first", "_law_end"] (spD K (c_law_right K)) :=
  fn_DDc (at_ := ("_law_right", none)) (t := t_law_right K) F sc_law_right (fun ds μ P PX h => by unfold c_law_right at h; first | (obtain ⟨_, rfl, _⟩ := h; rfl) | (obtain ⟨_, _, rfl, _⟩ := h; rfl) | (obtain ⟨_, _, _, rfl, _⟩ := h; rfl) | (obtain ⟨_, _, _, _, rfl, _⟩ := h; rfl) | (obtain ⟨_, _, _, _, _, rfl, _⟩ := h; rfl) | (obtain ⟨_, _, _, _, _, _, rfl, _⟩ := h; rfl) | (obtain ⟨_, _, _, _, _, _, _, rfl, _⟩ := h; rfl) | (obtain ⟨_, _, _, _, _, _, _, _, rfl, _⟩ := h; rfl)) (by decide)
    (fun A outer s H E hr => by exact
      (pss_cons (ps_set (i := 4) sc_law_right.nd rfl (by first | exact Or.inl rfl | exact Or.inr rfl) (pe_callB call_len (by rfl) n_len (by decide +kernel) (pa_cons (pv 1) pa_nil)))
      (pss_cons (ps_if (pt_not (pt_chain3 op_le op_le op_le pe_int (pv 2) (pv 3) (pv 4))) (pss_one (ps_ret (pe_cmpR (op_eqD hr.units) (pe_lm (k := 1) (c := (He.cT K ("_law_right", none)).1) (p := (He.cT K ("_law_right", none)).2) (q := "_law_right.<locals>.<lambda>") (by rfl) m_law_tried FT_law_tried B_law_tried sc_law_tried rfl (by first | exact Or.inl rfl | exact Or.inr (Or.inl rfl)) (by rfl) (fun cdv hr => gives_law_tried hr F_law_word B_law_word m_law_word k_law_word g_ReadError) TB rfl (hr.mono (by decide)) (LamX.lamS_by (by rfl)) (by rfl) (fun _ _ _ _ _ => by rfl) (fun A outer s H E f c1 hr => by exact (pe_meth (pv 0) cl_Book mm_Book_long F_Book_long (hr.mono (by decide)) B_Book_long .nil (passes_call (takes_of rfl rfl rfl rfl) (fun _ _ _ _ h => h)) (pa_cons (pv 2) (pa_cons (pv 3) pa_nil))))) pe_str (nomark _)))) pss_nil)
      (pss_cons (ps_set (i := 5) sc_law_right.nd rfl (by first | exact Or.inl rfl | exact Or.inr rfl) (pe_meth (pv 0) cl_Book mm_Book_long F_Book_long (hr.mono (by decide)) B_Book_long .nil (passes_call (takes_of rfl rfl rfl rfl) (fun _ _ _ _ h => h)) (pa_cons (pv 2) (pa_cons (pv 3) pa_nil))))
      (pss_cons (ps_set (i := 6) sc_law_right.nd rfl (by first | exact Or.inl rfl | exact Or.inr rfl) pe_int)
      (pss_cons (ps_for (passes_of rfl) rfl (pi_range2W (by rfl) n_range (pa_cons (pv 2) (pa_cons (pv 3) pa_nil))) (pg_name (i := 7) sc_law_right.nd rfl (by first | exact Or.inl rfl | exact Or.inr rfl)) (pss_one (ps_set (i := 6) sc_law_right.nd rfl (by first | exact Or.inl rfl | exact Or.inr rfl) (pe_op op_addA (pv 6) (pe_ix ix_seq (pe_ix ix_seq (pv 1) (pv 7) (fun _ _ => rfl)) pe_int (fun _ _ => rfl))))))
      (pss_one (ps_ret (pe_and (pe_callB call_isi (by rfl) n_isinstance (by decide +kernel) (pa_cons (pv 5) (pa_cons (pe_bltn (v := .ty "int") (by rfl) n_int (by decide +kernel) rfl) pa_nil))) (pe_and (pe_not (pe_callB call_isi (by rfl) n_isinstance (by decide +kernel) (pa_cons (pv 5) (pa_cons (pe_bltn (v := .ty "bool") (by rfl) n_bool (by decide +kernel) rfl) pa_nil)))) (pe_one (pe_cmpR (op_eqD hr.units) (pv 5) (pv 6) (nomark _)))))))))))))
    (d_law_right kx)
abbrev s_Book_sections : Stmt := inClass (topS 24) 4
abbrev N_Book_sections : List Str := ["self"]
theorem sc_Book_sections : FnScope N_Book_sections ["self"] (defScope s_Book_sections) := ⟨rfl, rfl, rfl, by decide +kernel, rfl, by decide +kernel, by decide +kernel⟩
set_option maxHeartbeats 1000000 in
theorem ok_Book_sections {P : Program} {w : World} {K : PySem.W.Frag} {mg : Str → Option Value} {base : Heap} {f : Addr} {fd : FuncData}  (F : FunD K "sections" "Book.sections" (defArgs s_Book_sections) (defBody s_Book_sections) (defScope s_Book_sections) [] [] f fd) (n_list : mg "list" = none) (kb : KBook K) :
    FnOk P w K mg base (L2.CX P w) 1 f fd ["self"] (spD K (c_Book_sections K)) :=
  fn_DD (t := t_Book_sections K) F sc_Book_sections (fun ds μ P PX h => by unfold c_Book_sections at h; first | (obtain ⟨_, rfl, _⟩ := h; rfl) | (obtain ⟨_, _, rfl, _⟩ := h; rfl) | (obtain ⟨_, _, _, rfl, _⟩ := h; rfl) | (obtain ⟨_, _, _, _, rfl, _⟩ := h; rfl) | (obtain ⟨_, _, _, _, _, rfl, _⟩ := h; rfl) | (obtain ⟨_, _, _, _, _, _, rfl, _⟩ := h; rfl) | (obtain ⟨_, _, _, _, _, _, _, rfl, _⟩ := h; rfl) | (obtain ⟨_, _, _, _, _, _, _, _, rfl, _⟩ := h; rfl)) (by decide)
    (fun cdv A outer s H E hr => by exact
      (pss_one (ps_ret (pe_callTy call_list_of (by rfl) n_list (by decide +kernel) (pa_cons (pe_fld (pv 0) rfl) pa_nil)))))
    (d_Book_sections kb)
abbrev s_Book_many : Stmt := inClass (topS 24) 3
abbrev N_Book_many : List Str := ["self"]
theorem sc_Book_many : FnScope N_Book_many ["self"] (defScope s_Book_many) := ⟨rfl, rfl, rfl, by decide +kernel, rfl, by decide +kernel, by decide +kernel⟩
set_option maxHeartbeats 1000000 in
theorem ok_Book_many {P : Program} {w : World} {K : PySem.W.Frag} {mg : Str → Option Value} {base : Heap} {f : Addr} {fd : FuncData}  (F : FunD K "many" "Book.many" (defArgs s_Book_many) (defBody s_Book_many) (defScope s_Book_many) [] [] f fd) (n_len : mg "len" = none) (kb : KBook K) :
    FnOk P w K mg base (L2.CX P w) 1 f fd ["self"] (spD K (c_Book_many K)) :=
  fn_DD (t := t_Book_many K) F sc_Book_many (fun ds μ P PX h => by unfold c_Book_many at h; first | (obtain ⟨_, rfl, _⟩ := h; rfl) | (obtain ⟨_, _, rfl, _⟩ := h; rfl) | (obtain ⟨_, _, _, rfl, _⟩ := h; rfl) | (obtain ⟨_, _, _, _, rfl, _⟩ := h; rfl) | (obtain ⟨_, _, _, _, _, rfl, _⟩ := h; rfl) | (obtain ⟨_, _, _, _, _, _, rfl, _⟩ := h; rfl) | (obtain ⟨_, _, _, _, _, _, _, rfl, _⟩ := h; rfl) | (obtain ⟨_, _, _, _, _, _, _, _, rfl, _⟩ := h; rfl)) (by decide)
    (fun cdv A outer s H E hr => by exact
      (pss_one (ps_ret (pe_callB call_len (by rfl) n_len (by decide +kernel) (pa_cons (pe_fld (pv 0) rfl) pa_nil)))))
    (d_Book_many kb)
abbrev s_law : Stmt := topS 34
abbrev N_law : List Str := ["_law_script", "_law_k", "_law_draw", "_law_far", "_law_sections_here", "_law_many", "_law_book", "_law_first", "_law_end"]
theorem sc_law : FnScope N_law ["_law_script"] (defScope s_law) := ⟨rfl, rfl, rfl, by decide +kernel, rfl, by decide +kernel, by decide +kernel⟩
set_option maxHeartbeats 1000000 in
theorem ok_law {P : Program} {w : World} {K : PySem.W.Frag} {mg : Str → Option Value} {base : Heap} {f : Addr} {fd : FuncData} {f_law_state : Addr} {fd_law_state : FuncData} {f_law_next : Addr} {fd_law_next : FuncData} {f_law_sections : Addr} {fd_law_sections : FuncData} {f_Book_init : Addr} {fd_Book_init : FuncData} {f_law_pairs : Addr} {fd_law_pairs : FuncData} {f_law_right : Addr} {fd_law_right : FuncData} {f_Book_sections : Addr} {fd_Book_sections : FuncData} {f_Book_many : Addr} {fd_Book_many : FuncData} (F : FunD K "law" "law" (defArgs s_law) (defBody s_law) (defScope s_law) [] [] f fd) (F_law_state : FnOk P w K mg base (L2.CX P w) 1 f_law_state fd_law_state ["_law_script", "_law_k"] (spD K (c_law_state K))) (B_law_state : Binds K fd_law_state ["_law_script", "_law_k"] []) (m_law_state : mg "_law_state" = some (.ref f_law_state)) (k_law_state : PySem.W.keepIn K (.ref f_law_state) = true) (F_law_next : FnOk P w K mg base (L2.CX P w) 1 f_law_next fd_law_next ["_law_draw", "_law_amount"] (spD K (c_law_next K))) (B_law_next : Binds K fd_law_next ["_law_draw", "_law_amount"] []) (m_law_next : mg "_law_next" = some (.ref f_law_next)) (k_law_next : PySem.W.keepIn K (.ref f_law_next) = true) (F_law_sections : FnOk P w K mg base (L2.CX P w) 3 f_law_sections fd_law_sections ["_law_draw", "_law_most"] (spD K (c_law_sections K))) (B_law_sections : Binds K fd_law_sections ["_law_draw", "_law_most"] []) (m_law_sections : mg "_law_sections" = some (.ref f_law_sections)) (k_law_sections : PySem.W.keepIn K (.ref f_law_sections) = true) (F_Book_init : FnOk P w K mg base (L2.CX P w) 4 f_Book_init fd_Book_init ["self", "sections"] (spD K (c_Book_init K))) (B_Book_init : Binds K fd_Book_init ["self", "sections"] []) (M_Book : Mk K (He.ga K "Book") f_Book_init) (F_law_pairs : FnOk P w K mg base (L2.CX P w) 2 f_law_pairs fd_law_pairs ["_law_draw", "_law_many"] (spD K (c_law_pairs K))) (B_law_pairs : Binds K fd_law_pairs ["_law_draw", "_law_many"] []) (m_law_pairs : mg "_law_pairs" = some (.ref f_law_pairs)) (k_law_pairs : PySem.W.keepIn K (.ref f_law_pairs) = true) (F_law_right : FnOk P w K mg base (L2.CX P w) 4 f_law_right fd_law_right ["_law_book", "_law_sections_here", "_law_first", "_law_end"] (spD K (c_law_right K))) (B_law_right : Binds K fd_law_right ["_law_book", "_law_sections_here", "_law_first", "_law_end"] []) (m_law_right : mg "_law_right" = some (.ref f_law_right)) (k_law_right : PySem.W.keepIn K (.ref f_law_right) = true) (F_Book_sections : FnOk P w K mg base (L2.CX P w) 1 f_Book_sections fd_Book_sections ["self"] (spD K (c_Book_sections K))) (B_Book_sections : Binds K fd_Book_sections ["self"] []) (F_Book_many : FnOk P w K mg base (L2.CX P w) 1 f_Book_many fd_Book_many ["self"] (spD K (c_Book_many K))) (B_Book_many : Binds K fd_Book_many ["self"] []) (n_len : mg "len" = none) (n_min : mg "min" = none) (n_max : mg "max" = none) (n_range : mg "range" = none) (n_list : mg "list" = none) (g_Book : mg "Book" = some (.ref (He.ga K "Book"))) (cl_Book : Cls K (He.ga K "Book")) (mm_Book_sections : Meth K (He.ga K "Book") "sections" f_Book_sections) (mm_Book_many : Meth K (He.ga K "Book") "many" f_Book_many) :
    FnOk P w K mg base (L2.CX P w) 6 f fd ["_law_script"] (spD K (c_law K)) :=
  fn_DD (t := t_law K) F sc_law (fun ds μ P PX h => by unfold c_law at h; first | (obtain ⟨_, rfl, _⟩ := h; rfl) | (obtain ⟨_, _, rfl, _⟩ := h; rfl) | (obtain ⟨_, _, _, rfl, _⟩ := h; rfl) | (obtain ⟨_, _, _, _, rfl, _⟩ := h; rfl) | (obtain ⟨_, _, _, _, _, rfl, _⟩ := h; rfl) | (obtain ⟨_, _, _, _, _, _, rfl, _⟩ := h; rfl) | (obtain ⟨_, _, _, _, _, _, _, rfl, _⟩ := h; rfl) | (obtain ⟨_, _, _, _, _, _, _, _, rfl, _⟩ := h; rfl)) (by decide)
    (fun cdv A outer s H E hr => by exact
      (pss_cons (ps_for (passes_of rfl) rfl (pi_range1 (by rfl) n_range (pa_cons (pe_callB (call_maxA rfl) (by rfl) n_max (by decide +kernel) (pa_cons pe_int (pa_cons (pe_callB (call_minA rfl) (by rfl) n_min (by decide +kernel) (pa_cons pe_int (pa_cons (pe_callB call_len (by rfl) n_len (by decide +kernel) (pa_cons (pv 0) pa_nil)) pa_nil))) pa_nil))) pa_nil)) (pg_name (i := 1) sc_law.nd rfl (by first | exact Or.inl rfl | exact Or.inr rfl)) (pss_cons (ps_set (i := 2) sc_law.nd rfl (by first | exact Or.inl rfl | exact Or.inr rfl) (pe_call F_law_state (hr.mono (by decide)) (by rfl) m_law_state k_law_state B_law_state .nil (passes_call (takes_of rfl rfl rfl rfl) (fun _ _ _ _ h => h)) (pa_cons (pv 0) (pa_cons (pv 1) pa_nil))))
      (pss_cons (ps_set (i := 3) sc_law.nd rfl (by first | exact Or.inl rfl | exact Or.inr rfl) (pe_op op_addA pe_int (pe_call F_law_next (hr.mono (by decide)) (by rfl) m_law_next k_law_next B_law_next .nil (passes_call (takes_of rfl rfl rfl rfl) (fun _ _ _ _ h => h)) (pa_cons (pv 2) (pa_cons (pe_op op_pow pe_int pe_int) pa_nil)))))
      (pss_cons (ps_set (i := 4) sc_law.nd rfl (by first | exact Or.inl rfl | exact Or.inr rfl) (pe_call F_law_sections (hr.mono (by decide)) (by rfl) m_law_sections k_law_sections B_law_sections .nil (passes_call (takes_of rfl rfl rfl rfl) (fun _ _ _ _ h => h)) (pa_cons (pv 2) (pa_cons (pe_ifExp (pt_cmpR (op_eqD hr.units) (pe_op op_modA (pv 1) pe_int) pe_int (nomark _)) pe_int pe_int) pa_nil))))
      (pss_cons (ps_set (i := 5) sc_law.nd rfl (by first | exact Or.inl rfl | exact Or.inr rfl) (pe_callB call_len (by rfl) n_len (by decide +kernel) (pa_cons (pv 4) pa_nil)))
      (pss_cons (ps_set (i := 6) sc_law.nd rfl (by first | exact Or.inl rfl | exact Or.inr rfl) (pe_make M_Book F_Book_init (hr.mono (by decide)) (by rfl) g_Book B_Book_init .nil (passes_call (takes_of rfl rfl rfl rfl) (fun _ _ _ _ h => h)) (pa_cons (pe_callTy call_list_of (by rfl) n_list (by decide +kernel) (pa_cons (pv 4) pa_nil)) pa_nil)))
      (pss_cons (ps_for (passes_of rfl) rfl (pi_any (pe_op op_addA (pe_call F_law_pairs (hr.mono (by decide)) (by rfl) m_law_pairs k_law_pairs B_law_pairs .nil (passes_call (takes_of rfl rfl rfl rfl) (fun _ _ _ _ h => h)) (pa_cons (pv 2) (pa_cons (pv 5) pa_nil))) (pe_lst (pa_cons (pe_tup (pa_cons (pe_un un_neg (pv 3)) (pa_cons (pv 5) pa_nil))) (pa_cons (pe_tup (pa_cons pe_int (pa_cons (pe_op op_addA (pv 5) (pv 3)) pa_nil))) (pa_cons (pe_tup (pa_cons (pe_op op_addA (pv 3) (pv 5)) (pa_cons (pv 5) pa_nil))) (pa_cons (pe_tup (pa_cons (pv 5) (pa_cons (pe_un un_neg (pv 3)) pa_nil))) pa_nil))))))) (pg_tup rfl (pgs_cons (pg_name (i := 7) sc_law.nd rfl (by first | exact Or.inl rfl | exact Or.inr rfl)) (pgs_cons (pg_name (i := 8) sc_law.nd rfl (by first | exact Or.inl rfl | exact Or.inr rfl)) pgs_nil))) (pss_one (ps_if (pt_not (pt_truth (pe_call F_law_right (hr.mono (by decide)) (by rfl) m_law_right k_law_right B_law_right .nil (passes_call (takes_of rfl rfl rfl rfl) (fun _ _ _ _ h => h)) (pa_cons (pv 6) (pa_cons (pv 4) (pa_cons (pv 7) (pa_cons (pv 8) pa_nil))))) (by intro _; rfl))) (pss_one (ps_ret pe_bl)) pss_nil)))
      (pss_one (ps_if (PW.pt (pw_or (pt_cmpR (op_neD hr.units) (pe_meth0 (pv 6) cl_Book mm_Book_sections F_Book_sections (hr.mono (by decide)) B_Book_sections .nil (passes_call (takes_of rfl rfl rfl rfl) (fun _ _ _ _ h => h))) (pv 4) (nomark _)) (pw_or1 (pt_cmpR (op_neD hr.units) (pe_meth0 (pv 6) cl_Book mm_Book_many F_Book_many (hr.mono (by decide)) B_Book_many .nil (passes_call (takes_of rfl rfl rfl rfl) (fun _ _ _ _ h => h))) (pv 5) (nomark _))))) (pss_one (ps_ret pe_bl)) pss_nil)))))))))
      (pss_one (ps_ret pe_bl))))
    (d_law)
/-! ### the end -/
def dd_law_state : He.DefD := ⟨("_law_state", none), "_law_state", "_law_state", defArgs s_law_state, defBody s_law_state, defScope s_law_state, [], []⟩
def dd_law_next : He.DefD := ⟨("_law_next", none), "_law_next", "_law_next", defArgs s_law_next, defBody s_law_next, defScope s_law_next, [], []⟩
def dd_law_pick : He.DefD := ⟨("_law_pick", none), "_law_pick", "_law_pick", defArgs s_law_pick, defBody s_law_pick, defScope s_law_pick, [], []⟩
def dd_law_sections : He.DefD := ⟨("_law_sections", none), "_law_sections", "_law_sections", defArgs s_law_sections, defBody s_law_sections, defScope s_law_sections, [], []⟩
def dd_is_number : He.DefD := ⟨("is_number", none), "is_number", "is_number", defArgs s_is_number, defBody s_is_number, defScope s_is_number, [], []⟩
def dd_is_section : He.DefD := ⟨("is_section", none), "is_section", "is_section", defArgs s_is_section, defBody s_is_section, defScope s_is_section, [], []⟩
def dd_are_sections : He.DefD := ⟨("are_sections", none), "are_sections", "are_sections", defArgs s_are_sections, defBody s_are_sections, defScope s_are_sections, [], []⟩
def dd_Book_init : He.DefD := ⟨("Book", some "__init__"), "__init__", "Book.__init__", defArgs s_Book_init, defBody s_Book_init, defScope s_Book_init, [], []⟩
def dd_law_pairs : He.DefD := ⟨("_law_pairs", none), "_law_pairs", "_law_pairs", defArgs s_law_pairs, defBody s_law_pairs, defScope s_law_pairs, [], []⟩
def dd_Book_long : He.DefD := ⟨("Book", some "long"), "long", "Book.long", defArgs s_Book_long, defBody s_Book_long, defScope s_Book_long, [], []⟩
def dd_law_word : He.DefD := ⟨("_law_word", none), "_law_word", "_law_word", defArgs s_law_word, defBody s_law_word, defScope s_law_word, [], []⟩
def dd_law_tried : He.DefD := ⟨("_law_tried", none), "_law_tried", "_law_tried", defArgs s_law_tried, defBody s_law_tried, defScope s_law_tried, [], []⟩
def dd_law_right : He.DefD := ⟨("_law_right", none), "_law_right", "_law_right", defArgs s_law_right, defBody s_law_right, defScope s_law_right, [], []⟩
def dd_Book_sections : He.DefD := ⟨("Book", some "sections"), "sections", "Book.sections", defArgs s_Book_sections, defBody s_Book_sections, defScope s_Book_sections, [], []⟩
def dd_Book_many : He.DefD := ⟨("Book", some "many"), "many", "Book.many", defArgs s_Book_many, defBody s_Book_many, defScope s_Book_many, [], []⟩
def dd_law : He.DefD := ⟨("law", none), "law", "law", defArgs s_law, defBody s_law, defScope s_law, [], []⟩
def fns : List He.DefD := [dd_law_state, dd_law_next, dd_law_pick, dd_law_sections, dd_is_number, dd_is_section, dd_are_sections, dd_Book_init, dd_law_pairs, dd_Book_long, dd_law_word, dd_law_tried, dd_law_right, dd_Book_sections, dd_Book_many, dd_law]
def fas : List He.Fa := [.free "len", .free "range", .glo "_law_next", .glo "_law_pick", .free "int", .free "isinstance", .free "bool", .glo "is_number", .free "tuple", .int "LONGEST" 1000000000000, .glo "is_section", .free "list", .int "MOST_SECTIONS" 60, .free "all", .glo "are_sections", .exc "BadBook", .glo "BadBook", .cls "Book", .noat "Book" "parts", .exc "BadNumber", .glo "BadNumber", .free "sum", .glo "BadRow", .glo "BadFeast", .glo "BadCalendar", .glo "NoRow", .glo "NoDay", .glo "BadHouse", .glo "NeverDone", .glo "TooTight", .glo "NoPiece", .glo "BadText", .glo "NoDeed", .glo "TooFar", .free "zip", .free "ValueError", .glo "_law_word", .glo "_law_tried", .meth "Book" "long", .glo "ReadError", .glo "_law_state", .glo "_law_sections", .mkr "Book", .glo "_law_pairs", .glo "_law_right", .free "min", .free "max", .glo "Book", .meth "Book" "sections", .meth "Book" "many", .glo "law"]
def loose : List PySem.Str := (["_wall", "ReadError", "BadBook", "BadCalendar", "BadFeast", "BadRow", "BadHouse", "BadNumber", "NoDay", "NoRow", "NoPiece", "TooTight", "NeverDone", "TooFar", "NoDeed", "BadText", "is_number", "MOST_SECTIONS", "LONGEST", "is_section", "are_sections", "Book", "_law_state", "_law_next", "_law_pick", "_law_word", "_law_tried", "_law_sections", "_law_pairs", "_law_right"] : List PySem.Str)
abbrev R : PySem.W.OpenRow := PySem.W.OpenLaw.row PySem.Challenge.rw_readround_k02_sections_long
def exs0 : Nat := 0
def tq : List (He.Defn × Str) := [(("_law_right", none), "_law_right.<locals>.<lambda>")]
def tndB (K : PySem.W.Frag) : Bool := decide ((tq.map fun z => (He.cT K z.1).2).Nodup)
theorem lawStart (K : PySem.W.Frag) (ns : List Int) (hl : ns.length ≤ 63) : c_law K [.rdl (ns.map D.int)] (tabsM K tq) (fun d _ => d = .bl true) (fun _ _ _ => False) := ⟨ns, rfl, hl, ⟨0, rfl⟩, fun _ => rfl⟩
def exs : List (PySem.W.Frag → Bool) := [kexcB excNames, tndB]
abbrev hk : PySem.W.Hook := hookY 5 fas fns exs (tq.map (·.1))
def ob (s : PySem.W.SharedT) : AlX := obsYG 5 fas fns exs (tq.map (·.1)) (HandSHeadRun.getT s)
theorem ob_eq (s : PySem.W.SharedT) : ob s = hk.obs s.abs := obsYG_eq (HandSHeadRun.getT_eq s)
set_option maxHeartbeats 0 in
theorem run (w : World) : HandSHeadRun.RunEq R (PySem.W.view R.prog [34]) hk ob 20000 loose w := by
  intro os
  kernel_rfl
set_option maxHeartbeats 0 in
theorem facts {P : Program} {w : World} {K : PySem.W.Frag} {h : Heap} {mg : Str → Option Value} {f : Addr} (X : K.In h) (G : h.Ns mainGlobals mg) (hfa : mg ("law" : Str) = some (.ref f)) (c : He.SaysD fas fns K) (cx : exAll exs K = true) :
    ∃ fd : FuncData, (∀ (s : Shared) (v : Value), BindsTo s fd ⟨[v], []⟩ [("_law_script", v)]) ∧ ∀ base : Heap, K.In base → base.Ns mainGlobals mg → (∀ p ∈ tq.map fun z => He.cT K z.1, LamX.TabB base mg p.1 p.2) → FnOk P w K mg base (L2.CX P w) 6 f fd ["_law_script"] (spD K (c_law K)) := by
  have e := hfa.symm.trans (He.glo_ok X G (c.fact 50 (f := .glo "law") rfl))
  cases e
  obtain ⟨fd_law_state, G0_law_state⟩ := c.def_ 0 (d := dd_law_state) rfl
  have G_law_state : FunD K "_law_state" "_law_state" (defArgs s_law_state) (defBody s_law_state) (defScope s_law_state) [] [] (He.ga K "_law_state") fd_law_state := G0_law_state
  have B_law_state : Binds K fd_law_state ["_law_script", "_law_k"] [] := G_law_state.bindsN fun _ _ _ _ _ _ us hl => match us, hl with | [_, _], _ => rfl
  obtain ⟨fd_law_next, G0_law_next⟩ := c.def_ 1 (d := dd_law_next) rfl
  have G_law_next : FunD K "_law_next" "_law_next" (defArgs s_law_next) (defBody s_law_next) (defScope s_law_next) [] [] (He.ga K "_law_next") fd_law_next := G0_law_next
  have B_law_next : Binds K fd_law_next ["_law_draw", "_law_amount"] [] := G_law_next.bindsN fun _ _ _ _ _ _ us hl => match us, hl with | [_, _], _ => rfl
  obtain ⟨fd_law_pick, G0_law_pick⟩ := c.def_ 2 (d := dd_law_pick) rfl
  have G_law_pick : FunD K "_law_pick" "_law_pick" (defArgs s_law_pick) (defBody s_law_pick) (defScope s_law_pick) [] [] (He.ga K "_law_pick") fd_law_pick := G0_law_pick
  have B_law_pick : Binds K fd_law_pick ["_law_draw", "_law_some"] [] := G_law_pick.bindsN fun _ _ _ _ _ _ us hl => match us, hl with | [_, _], _ => rfl
  obtain ⟨fd_law_sections, G0_law_sections⟩ := c.def_ 3 (d := dd_law_sections) rfl
  have G_law_sections : FunD K "_law_sections" "_law_sections" (defArgs s_law_sections) (defBody s_law_sections) (defScope s_law_sections) [] [] (He.ga K "_law_sections") fd_law_sections := G0_law_sections
  have B_law_sections : Binds K fd_law_sections ["_law_draw", "_law_most"] [] := G_law_sections.bindsN fun _ _ _ _ _ _ us hl => match us, hl with | [_, _], _ => rfl
  obtain ⟨fd_is_number, G0_is_number⟩ := c.def_ 4 (d := dd_is_number) rfl
  have G_is_number : FunD K "is_number" "is_number" (defArgs s_is_number) (defBody s_is_number) (defScope s_is_number) [] [] (He.ga K "is_number") fd_is_number := G0_is_number
  have B_is_number : Binds K fd_is_number ["thing", "least", "most"] [] := G_is_number.bindsN fun _ _ _ _ _ _ us hl => match us, hl with | [_, _, _], _ => rfl
  obtain ⟨fd_is_section, G0_is_section⟩ := c.def_ 5 (d := dd_is_section) rfl
  have G_is_section : FunD K "is_section" "is_section" (defArgs s_is_section) (defBody s_is_section) (defScope s_is_section) [] [] (He.ga K "is_section") fd_is_section := G0_is_section
  have B_is_section : Binds K fd_is_section ["thing"] [] := G_is_section.bindsN fun _ _ _ _ _ _ us hl => match us, hl with | [_], _ => rfl
  obtain ⟨fd_are_sections, G0_are_sections⟩ := c.def_ 6 (d := dd_are_sections) rfl
  have G_are_sections : FunD K "are_sections" "are_sections" (defArgs s_are_sections) (defBody s_are_sections) (defScope s_are_sections) [] [] (He.ga K "are_sections") fd_are_sections := G0_are_sections
  have B_are_sections : Binds K fd_are_sections ["thing"] [] := G_are_sections.bindsN fun _ _ _ _ _ _ us hl => match us, hl with | [_], _ => rfl
  obtain ⟨fd_Book_init, G0_Book_init⟩ := c.def_ 7 (d := dd_Book_init) rfl
  have G_Book_init : FunD K "__init__" "Book.__init__" (defArgs s_Book_init) (defBody s_Book_init) (defScope s_Book_init) [] [] (He.ma K (He.ga K "Book") "__init__") fd_Book_init := G0_Book_init
  have B_Book_init : Binds K fd_Book_init ["self", "sections"] [] := G_Book_init.bindsN fun _ _ _ _ _ _ us hl => match us, hl with | [_, _], _ => rfl
  obtain ⟨fd_law_pairs, G0_law_pairs⟩ := c.def_ 8 (d := dd_law_pairs) rfl
  have G_law_pairs : FunD K "_law_pairs" "_law_pairs" (defArgs s_law_pairs) (defBody s_law_pairs) (defScope s_law_pairs) [] [] (He.ga K "_law_pairs") fd_law_pairs := G0_law_pairs
  have B_law_pairs : Binds K fd_law_pairs ["_law_draw", "_law_many"] [] := G_law_pairs.bindsN fun _ _ _ _ _ _ us hl => match us, hl with | [_, _], _ => rfl
  obtain ⟨fd_Book_long, G0_Book_long⟩ := c.def_ 9 (d := dd_Book_long) rfl
  have G_Book_long : FunD K "long" "Book.long" (defArgs s_Book_long) (defBody s_Book_long) (defScope s_Book_long) [] [] (He.ma K (He.ga K "Book") "long") fd_Book_long := G0_Book_long
  have B_Book_long : Binds K fd_Book_long ["self", "first", "end"] [] := G_Book_long.bindsN fun _ _ _ _ _ _ us hl => match us, hl with | [_, _, _], _ => rfl
  obtain ⟨fd_law_word, G0_law_word⟩ := c.def_ 10 (d := dd_law_word) rfl
  have G_law_word : FunD K "_law_word" "_law_word" (defArgs s_law_word) (defBody s_law_word) (defScope s_law_word) [] [] (He.ga K "_law_word") fd_law_word := G0_law_word
  have B_law_word : Binds K fd_law_word ["_law_e"] [] := G_law_word.bindsN fun _ _ _ _ _ _ us hl => match us, hl with | [_], _ => rfl
  obtain ⟨fd_law_tried, G0_law_tried⟩ := c.def_ 11 (d := dd_law_tried) rfl
  have G_law_tried : FunD K "_law_tried" "_law_tried" (defArgs s_law_tried) (defBody s_law_tried) (defScope s_law_tried) [] [] (He.ga K "_law_tried") fd_law_tried := G0_law_tried
  have B_law_tried : Binds K fd_law_tried ["_law_deed"] [] := G_law_tried.bindsN fun _ _ _ _ _ _ us hl => match us, hl with | [_], _ => rfl
  obtain ⟨fd_law_right, G0_law_right⟩ := c.def_ 12 (d := dd_law_right) rfl
  have G_law_right : FunD K "_law_right" "_law_right" (defArgs s_law_right) (defBody s_law_right) (defScope s_law_right) [] [] (He.ga K "_law_right") fd_law_right := G0_law_right
  have B_law_right : Binds K fd_law_right ["_law_book", "_law_sections_here", "_law_first", "_law_end"] [] := G_law_right.bindsN fun _ _ _ _ _ _ us hl => match us, hl with | [_, _, _, _], _ => rfl
  obtain ⟨fd_Book_sections, G0_Book_sections⟩ := c.def_ 13 (d := dd_Book_sections) rfl
  have G_Book_sections : FunD K "sections" "Book.sections" (defArgs s_Book_sections) (defBody s_Book_sections) (defScope s_Book_sections) [] [] (He.ma K (He.ga K "Book") "sections") fd_Book_sections := G0_Book_sections
  have B_Book_sections : Binds K fd_Book_sections ["self"] [] := G_Book_sections.bindsN fun _ _ _ _ _ _ us hl => match us, hl with | [_], _ => rfl
  obtain ⟨fd_Book_many, G0_Book_many⟩ := c.def_ 14 (d := dd_Book_many) rfl
  have G_Book_many : FunD K "many" "Book.many" (defArgs s_Book_many) (defBody s_Book_many) (defScope s_Book_many) [] [] (He.ma K (He.ga K "Book") "many") fd_Book_many := G0_Book_many
  have B_Book_many : Binds K fd_Book_many ["self"] [] := G_Book_many.bindsN fun _ _ _ _ _ _ us hl => match us, hl with | [_], _ => rfl
  obtain ⟨fd_law, G0_law⟩ := c.def_ 15 (d := dd_law) rfl
  have G_law : FunD K "law" "law" (defArgs s_law) (defBody s_law) (defScope s_law) [] [] (He.ga K "law") fd_law := G0_law
  have b := FunD.bindsA (ps := ["_law_script"]) G_law fun _ _ _ _ _ _ us hl => match us, hl with | [_], _ => rfl
  refine ⟨fd_law, fun s v => b s [v] rfl, fun base _ _ hTB => ?_⟩
  have F_law_state : FnOk P w K mg base (L2.CX P w) 1 _ fd_law_state ["_law_script", "_law_k"] (spD K (c_law_state K)) := ok_law_state G_law_state (He.free_ok X G (c.fact 0 (f := .free "len") rfl)) (He.free_ok X G (c.fact 1 (f := .free "range") rfl))
  have F_law_next : FnOk P w K mg base (L2.CX P w) 1 _ fd_law_next ["_law_draw", "_law_amount"] (spD K (c_law_next K)) := ok_law_next G_law_next 
  have F_law_pick : FnOk P w K mg base (L2.CX P w) 2 _ fd_law_pick ["_law_draw", "_law_some"] (spD K (c_law_pick K)) := ok_law_pick G_law_pick F_law_next B_law_next (He.glo_ok X G (c.fact 2 (f := .glo "_law_next") rfl)) G_law_next.kp (He.free_ok X G (c.fact 0 (f := .free "len") rfl))
  have F_law_sections : FnOk P w K mg base (L2.CX P w) 3 _ fd_law_sections ["_law_draw", "_law_most"] (spD K (c_law_sections K)) := ok_law_sections G_law_sections F_law_pick B_law_pick (He.glo_ok X G (c.fact 3 (f := .glo "_law_pick") rfl)) G_law_pick.kp F_law_next B_law_next (He.glo_ok X G (c.fact 2 (f := .glo "_law_next") rfl)) G_law_next.kp (He.free_ok X G (c.fact 1 (f := .free "range") rfl))
  have F_is_number : FnOk P w K mg base (L2.CX P w) 1 _ fd_is_number ["thing", "least", "most"] (spD K (c_is_number K)) := ok_is_number G_is_number (He.free_ok X G (c.fact 4 (f := .free "int") rfl)) (He.free_ok X G (c.fact 5 (f := .free "isinstance") rfl)) (He.free_ok X G (c.fact 6 (f := .free "bool") rfl))
  have F_is_section : FnOk P w K mg base (L2.CX P w) 2 _ fd_is_section ["thing"] (spD K (c_is_section K)) := ok_is_section G_is_section F_is_number B_is_number (He.glo_ok X G (c.fact 7 (f := .glo "is_number") rfl)) G_is_number.kp (He.free_ok X G (c.fact 8 (f := .free "tuple") rfl)) (He.free_ok X G (c.fact 5 (f := .free "isinstance") rfl)) (He.free_ok X G (c.fact 0 (f := .free "len") rfl)) (He.free_ok X G (c.fact 6 (f := .free "bool") rfl)) (He.int_ok X G (c.fact 9 (f := .int "LONGEST" 1000000000000) rfl))
  have F_are_sections : FnOk P w K mg base (L2.CX P w) 3 _ fd_are_sections ["thing"] (spD K (c_are_sections K)) := ok_are_sections G_are_sections F_is_section B_is_section (He.glo_ok X G (c.fact 10 (f := .glo "is_section") rfl)) G_is_section.kp (He.free_ok X G (c.fact 11 (f := .free "list") rfl)) (He.free_ok X G (c.fact 5 (f := .free "isinstance") rfl)) (He.free_ok X G (c.fact 0 (f := .free "len") rfl)) (He.int_ok X G (c.fact 12 (f := .int "MOST_SECTIONS" 60) rfl)) (He.free_ok X G (c.fact 13 (f := .free "all") rfl))
  have F_Book_init : FnOk P w K mg base (L2.CX P w) 4 _ fd_Book_init ["self", "sections"] (spD K (c_Book_init K)) := ok_Book_init G_Book_init F_are_sections B_are_sections (He.glo_ok X G (c.fact 14 (f := .glo "are_sections") rfl)) G_are_sections.kp ⟨(He.exc_ok (c.fact 15 (f := .exc "BadBook") rfl)).1, He.glo_ok X G (c.fact 16 (f := .glo "BadBook") rfl), (He.exc_ok (c.fact 15 (f := .exc "BadBook") rfl)).2.1, (He.exc_ok (c.fact 15 (f := .exc "BadBook") rfl)).2.2.1, (He.exc_ok (c.fact 15 (f := .exc "BadBook") rfl)).2.2.2⟩ (He.free_ok X G (c.fact 11 (f := .free "list") rfl)) (⟨He.cls_ok (c.fact 17 (f := .cls "Book") rfl), He.noat_ok (c.fact 18 (f := .noat "Book" "parts") rfl)⟩)
  have F_law_pairs : FnOk P w K mg base (L2.CX P w) 2 _ fd_law_pairs ["_law_draw", "_law_many"] (spD K (c_law_pairs K)) := ok_law_pairs G_law_pairs F_law_next B_law_next (He.glo_ok X G (c.fact 2 (f := .glo "_law_next") rfl)) G_law_next.kp (He.free_ok X G (c.fact 1 (f := .free "range") rfl))
  have F_Book_long : FnOk P w K mg base (L2.CX P w) 1 _ fd_Book_long ["self", "first", "end"] (spD K (c_Book_long K)) := ok_Book_long G_Book_long (He.free_ok X G (c.fact 0 (f := .free "len") rfl)) ⟨(He.exc_ok (c.fact 19 (f := .exc "BadNumber") rfl)).1, He.glo_ok X G (c.fact 20 (f := .glo "BadNumber") rfl), (He.exc_ok (c.fact 19 (f := .exc "BadNumber") rfl)).2.1, (He.exc_ok (c.fact 19 (f := .exc "BadNumber") rfl)).2.2.1, (He.exc_ok (c.fact 19 (f := .exc "BadNumber") rfl)).2.2.2⟩ (He.free_ok X G (c.fact 21 (f := .free "sum") rfl)) (⟨He.cls_ok (c.fact 17 (f := .cls "Book") rfl), He.noat_ok (c.fact 18 (f := .noat "Book" "parts") rfl)⟩)
  have F_law_word : FnOk P w K mg base (L2.CX P w) 1 _ fd_law_word ["_law_e"] (spD K (c_law_word K)) := ok_law_word G_law_word (He.glo_ok X G (c.fact 22 (f := .glo "BadRow") rfl)) (He.free_ok X G (c.fact 5 (f := .free "isinstance") rfl)) (He.glo_ok X G (c.fact 23 (f := .glo "BadFeast") rfl)) (He.glo_ok X G (c.fact 24 (f := .glo "BadCalendar") rfl)) (He.glo_ok X G (c.fact 16 (f := .glo "BadBook") rfl)) (He.glo_ok X G (c.fact 25 (f := .glo "NoRow") rfl)) (He.glo_ok X G (c.fact 26 (f := .glo "NoDay") rfl)) (He.glo_ok X G (c.fact 20 (f := .glo "BadNumber") rfl)) (He.glo_ok X G (c.fact 27 (f := .glo "BadHouse") rfl)) (He.glo_ok X G (c.fact 28 (f := .glo "NeverDone") rfl)) (He.glo_ok X G (c.fact 29 (f := .glo "TooTight") rfl)) (He.glo_ok X G (c.fact 30 (f := .glo "NoPiece") rfl)) (He.glo_ok X G (c.fact 31 (f := .glo "BadText") rfl)) (He.glo_ok X G (c.fact 32 (f := .glo "NoDeed") rfl)) (He.glo_ok X G (c.fact 33 (f := .glo "TooFar") rfl)) (He.free_ok X G (c.fact 34 (f := .free "zip") rfl)) (He.free_ok X G (c.fact 0 (f := .free "len") rfl)) (He.free_ok X G (c.fact 35 (f := .free "ValueError") rfl)) (kexcB_ok (exAll_at cx 0 (e := kexcB excNames) rfl))
  have F_law_right : FnOk P w K mg base (L2.CX P w) 4 _ fd_law_right ["_law_book", "_law_sections_here", "_law_first", "_law_end"] (spD K (c_law_right K)) := ok_law_right G_law_right F_Book_long B_Book_long F_law_word B_law_word (He.glo_ok X G (c.fact 36 (f := .glo "_law_word") rfl)) G_law_word.kp G_law_tried B_law_tried (He.glo_ok X G (c.fact 37 (f := .glo "_law_tried") rfl)) (He.free_ok X G (c.fact 0 (f := .free "len") rfl)) (He.cls_ok (c.fact 17 (f := .cls "Book") rfl)) (He.meth_ok (c.fact 38 (f := .meth "Book" "long") rfl)) (He.glo_ok X G (c.fact 39 (f := .glo "ReadError") rfl)) (He.free_ok X G (c.fact 1 (f := .free "range") rfl)) (He.free_ok X G (c.fact 4 (f := .free "int") rfl)) (He.free_ok X G (c.fact 5 (f := .free "isinstance") rfl)) (He.free_ok X G (c.fact 6 (f := .free "bool") rfl)) (kexcB_ok (exAll_at cx 0 (e := kexcB excNames) rfl)) (hTB (He.cT K ("_law_right", none)) (by simp [tq]))
  have F_Book_sections : FnOk P w K mg base (L2.CX P w) 1 _ fd_Book_sections ["self"] (spD K (c_Book_sections K)) := ok_Book_sections G_Book_sections (He.free_ok X G (c.fact 11 (f := .free "list") rfl)) (⟨He.cls_ok (c.fact 17 (f := .cls "Book") rfl), He.noat_ok (c.fact 18 (f := .noat "Book" "parts") rfl)⟩)
  have F_Book_many : FnOk P w K mg base (L2.CX P w) 1 _ fd_Book_many ["self"] (spD K (c_Book_many K)) := ok_Book_many G_Book_many (He.free_ok X G (c.fact 0 (f := .free "len") rfl)) (⟨He.cls_ok (c.fact 17 (f := .cls "Book") rfl), He.noat_ok (c.fact 18 (f := .noat "Book" "parts") rfl)⟩)
  exact ok_law (base := base) G_law F_law_state B_law_state (He.glo_ok X G (c.fact 40 (f := .glo "_law_state") rfl)) G_law_state.kp F_law_next B_law_next (He.glo_ok X G (c.fact 2 (f := .glo "_law_next") rfl)) G_law_next.kp F_law_sections B_law_sections (He.glo_ok X G (c.fact 41 (f := .glo "_law_sections") rfl)) G_law_sections.kp F_Book_init B_Book_init (He.mkr_ok (c.fact 42 (f := .mkr "Book") rfl)) F_law_pairs B_law_pairs (He.glo_ok X G (c.fact 43 (f := .glo "_law_pairs") rfl)) G_law_pairs.kp F_law_right B_law_right (He.glo_ok X G (c.fact 44 (f := .glo "_law_right") rfl)) G_law_right.kp F_Book_sections B_Book_sections F_Book_many B_Book_many (He.free_ok X G (c.fact 0 (f := .free "len") rfl)) (He.free_ok X G (c.fact 45 (f := .free "min") rfl)) (He.free_ok X G (c.fact 46 (f := .free "max") rfl)) (He.free_ok X G (c.fact 1 (f := .free "range") rfl)) (He.free_ok X G (c.fact 11 (f := .free "list") rfl)) (He.glo_ok X G (c.fact 47 (f := .glo "Book") rfl)) (He.cls_ok (c.fact 17 (f := .cls "Book") rfl)) (He.meth_ok (c.fact 48 (f := .meth "Book" "sections") rfl)) (He.meth_ok (c.fact 49 (f := .meth "Book" "many") rfl))
end Dl
open PySem PySem.W PySem.Calls PyProof.Rows
set_option maxRecDepth 100000
set_option maxHeartbeats 0
theorem PySem.Challenge.cw_readround_k02_sections_long_holds : PySem.Challenge.rw_readround_k02_sections_long.Holds := by
  w_on; o_law
  refine HandSHeadRun.head_any (r := OpenLaw.row PySem.Challenge.rw_readround_k02_sections_long) (q := view (OpenLaw.row PySem.Challenge.rw_readround_k02_sections_long).prog [34]) (H := Dl.hk) (ob := Dl.ob) (M := 20000) (loose := Dl.loose) (d := HandSHeadRun.topDef (OpenLaw.row PySem.Challenge.rw_readround_k02_sections_long).prog 34) (kwd := []) Dl.ob_eq
    (by kernel_rfl) (fun s => by kernel_rfl) Dl.run (by kernel_rfl) (by kernel_rfl) (by kernel_rfl) (by rfl) (by first | assumption | decide +kernel) (by decide +kernel) ⟨rfl, rfl, rfl, rfl, rfl, by decide +kernel⟩ ?hw ?hc
  case hw => w_witness2
  case hc =>
    refine LamX.walk_ofTsE (l := PySem.Challenge.rw_readround_k02_sections_long) (n := 63) (k := 6) (x := "_law_script") (CX := fun w => L2.CX (PySem.Challenge.rw_readround_k02_sections_long).prog w) rfl (by decide) (by kernel_rfl) ⟨rfl, by decide, by decide⟩ ?F ?X
    case X => exact fun w H s e s2 c => by obtain ⟨_, _, _, _, _, _, _, _, _, _, _, _, z⟩ := c; exact z
    case F =>
    intro w mg fa h Y G hmg0
    obtain ⟨K, KX, c, cx, st⟩ := Y
    have hmg : mg ("law" : PySem.Str) = some (.ref fa) := by
      have e : (HandSHeadRun.topDef (OpenLaw.row PySem.Challenge.rw_readround_k02_sections_long).prog 34).name = ("law" : PySem.Str) := by kernel_rfl
      rw [← e]
      exact hmg0
    obtain ⟨fd, hb, hF⟩ := Dl.facts (P := (PySem.Challenge.rw_readround_k02_sections_long).prog) (w := w) KX G hmg c cx
    have nd : (Dl.tq.map fun z => (He.cT K z.1).2).Nodup := of_decide_eq_true (Dl.exAll_at cx 1 (e := Dl.tndB) rfl)
    have key : ∀ p ∈ Dl.tq.map (fun z => He.cT K z.1), ∃ z ∈ Dl.tq.map (·.1), p = He.cT K z := fun p hp => by obtain ⟨z, hz, rfl⟩ := List.mem_map.mp hp; exact ⟨z.1, List.mem_map.mpr ⟨z, hz, rfl⟩, rfl⟩
    exact ⟨K, KX, fd, Dl.tq.map (fun z => He.cT K z.1), _, fun p hp => by obtain ⟨z, hz, rfl⟩ := key p hp; exact st.empty z hz, fun p hp => by obtain ⟨z, hz, rfl⟩ := key p hp; exact st.out z hz, fun p hp => by obtain ⟨z, hz, rfl⟩ := key p hp; exact codeHd_of_K KX (st.hd z hz), hb,
      fun H a ns hl _ hT hS => Dl.law_spT (tq := Dl.tq) nd (fun z hz => hT _ (List.mem_map.mpr ⟨z, hz, rfl⟩)) (fun z hz => st.out z.1 (List.mem_map.mpr ⟨z, hz, rfl⟩)) hS (Dl.lawStart K ns hl), hF⟩
