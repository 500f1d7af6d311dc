import PyProof.Rows.All
import Wide.All
import OpenK.AllK
import Wide.FinOn
import HandS.ForMost
import HandS.ForExc
import HandS.Lambda
import HandS.IsInst
import HandS.Wide
import HandS.Defaults
import HandS.Zip
import HandS.Strs
import HandS.Style
import HandS.HeadHook2
import HandS.Ends
import HandS.HeadEnd
import HandS.Head2
import PyProof.Rows.SetListFold
import HandS.Conv
import HandS.Text
import HandS.NoneIn
import HandS.Codes
import PyProof.LongRange
import HandS.SortKw
import KE.DataMinMax
import PyProof.ListRange
import HandS.SetFor
import HandS.ExcIs
import HandS.ExcInit
import HandS.ExcField
import HandS.CallSlots
import HandS.Iter
import HandS.HeadHook4
import HandS.HeadWalk
import HandS.Deep
import HandS.DictComp
import HandS.SortInts
import HandS.More
import PyProof.InstEq
import HandS.DictTup
import HandS.TupLen
import KE.KeyNested
import KE.SortData
import HandS.TryMany
import KE.KDictSum
import HandS.RevRange
import HandS.RaiseMore
import KE.KIntText
import PySem.Challenge.RW_readround_k75_house_texts
set_option Elab.async false
set_option linter.all false
set_option maxRecDepth 100000
/-! Dl: a layer of data over the hand layer's readings: what is frozen is told as data (D), what may still change stands in a list (Mu) -/
namespace Dl
open PySem L2
/-- data -/
inductive D where
  | non | bl (b : Bool) | int (i : Int) | str (x : Str) | ty (n : String)
  | tup (xs : List D) | lst (xs : List D)
  /-- a list, a tuple that is read alone (the script, a written one) -/
  | rdl (xs : List D) | rdt (xs : List D)
  | obj (C : Addr) (fs : List (Str × D))
  | dct (kvs : List (Key × D))
  /-- the k-th thing that may change -/
  | own (k : Nat)
  /-- an object of the written part -/
  | loc (a : Addr)
  /-- a caught exception: its class, its fields -/
  | exc (C : Addr) (fs : List (Str × D))
deriving Inhabited
/-- a caught exception in the heap: its class, its own dict -/
def ExV (cls : Value) (d : Option Addr) (a : Addr) : HO := .ext fun h => ∃ (oe : Obj) (vs : Array Value), h.get? a = some oe ∧ Zc cls d oe ∧ oe.data = .fields vs
/-- the own dict of an exception -/
def ExD (G : Hp) (d : Option Addr) (fs : List (Str × V)) : Prop := (d = none ∧ fs = []) ∨ ∃ dx, d = some dx ∧ G dx = some (.xd fs)
theorem ExD.mono {G G' : Hp} (s : Same G G') {d : Option Addr} {fs : List (Str × V)} (h : ExD G d fs) : ExD G' d fs := h.imp id fun ⟨dx, e, g⟩ => ⟨dx, e, s _ _ g⟩
/-- what a thing that may change is now -/
inductive MO where
  | dead
  | lst (xs : List D)
  | ins (C : Addr) (fs : List (Str × D))
  | dK (kvs : List (Key × D))
  | dT (kvs : List (List Key × D))
  /-- the table at p of code objects of the name q -/
  | tab (p : Addr) (q : Str)
deriving Inhabited
abbrev Mu := List MO
abbrev En := List (Option D)
section
variable (K : PySem.W.Frag) (G : Hp) (al : List Addr)
mutual
inductive Rp : V → D → Prop
  | non : Rp .non .non
  | bl (b : Bool) : Rp (.bl b) (.bl b)
  | int (i : Int) : Rp (.int i) (.int i)
  | str (x : Str) : Rp (.str x) (.str x)
  | ty (n : String) : Rp (.ty n) (.ty n)
  | tup {a : Addr} {vs : List V} {ds : List D} : G a = some (.tup vs) → Rps vs ds → Rp (.ref a) (.tup ds)
  | lst {a : Addr} {vs : List V} {ds : List D} : G a = some (.lst vs) → Rps vs ds → Rp (.ref a) (.lst ds)
  | rdl {a : Addr} {vs : List V} {ds : List D} : SqL K G a vs → Rps vs ds → Rp (.ref a) (.rdl ds)
  | rdt {a : Addr} {vs : List V} {ds : List D} : SqT K G a vs → Rps vs ds → Rp (.ref a) (.rdt ds)
  | obj {a C dx : Addr} {fs : List (Str × V)} {gs : List (Str × D)} : G a = some (.ins C dx fs) → Rpf fs gs → Rp (.ref a) (.obj C gs)
  | dct {a : Addr} {kvs : List (Key × V)} {gs : List (Key × D)} : Rd G a (.dK kvs) → Rpk kvs gs → Rp (.ref a) (.dct gs)
  | own {a : Addr} {k : Nat} : al[k]? = some a → Rp (.ref a) (.own k)
  | loc (a : Addr) : Rp (.ref a) (.loc a)
  | exc {a C : Addr} {dd : Option Addr} {fs : List (Str × V)} {gs : List (Str × D)} : G a = some (ExV (.ref C) dd a) → ExD G dd fs → Rpf fs gs → Rp (.ref a) (.exc C gs)
inductive Rps : List V → List D → Prop
  | nil : Rps [] []
  | cons {v : V} {vs : List V} {d : D} {ds : List D} : Rp v d → Rps vs ds → Rps (v :: vs) (d :: ds)
inductive Rpf : List (Str × V) → List (Str × D) → Prop
  | nil : Rpf [] []
  | cons {f : Str} {v : V} {vs : List (Str × V)} {d : D} {ds : List (Str × D)} : Rp v d → Rpf vs ds → Rpf ((f, v) :: vs) ((f, d) :: ds)
inductive Rpk : List (Key × V) → List (Key × D) → Prop
  | nil : Rpk [] []
  | cons {f : Key} {v : V} {vs : List (Key × V)} {d : D} {ds : List (Key × D)} : Rp v d → Rpk vs ds → Rpk ((f, v) :: vs) ((f, d) :: ds)
end
end
theorem rd_mono {H H' : Hp} {a : Addr} {u : HO} (s : Same H H') (h : Rd H a u) : Rd H' a u := by
  rcases h with h | ⟨o, h⟩
  · exact .inl (s _ _ h)
  · exact .inr ⟨o, s _ _ h⟩
theorem sql_mono {K : PySem.W.Frag} {H H' : Hp} {a : Addr} {xs : List V} (e : Same H H') (h : SqL K H a xs) : SqL K H' a xs := e.seq h
theorem sqt_mono {K : PySem.W.Frag} {H H' : Hp} {a : Addr} {xs : List V} (e : Same H H') (h : SqT K H a xs) : SqT K H' a xs := by
  rcases h with (h | ⟨o, h⟩) | h
  · exact .inl (.inl (e _ _ h))
  · exact .inl (.inr ⟨o, e _ _ h⟩)
  · exact .inr h
/-- al' goes on from al -/
def Pre (al al' : List Addr) : Prop := ∃ be, al' = al ++ be
theorem Pre.refl (al : List Addr) : Pre al al := ⟨[], by simp⟩
theorem Pre.trans {a b c : List Addr} (h : Pre a b) (h' : Pre b c) : Pre a c := by
  obtain ⟨x, rfl⟩ := h
  obtain ⟨y, rfl⟩ := h'
  exact ⟨x ++ y, by simp⟩
theorem Pre.get {al al' : List Addr} (h : Pre al al') {k : Nat} {a : Addr} (e : al[k]? = some a) : al'[k]? = some a := by
  obtain ⟨x, rfl⟩ := h
  rw [List.getElem?_append_left (List.getElem?_eq_some_iff.mp e).1]
  exact e
section
variable {K : PySem.W.Frag} {G G' : Hp} {al al' : List Addr}
mutual
theorem Rp.mono (s : Same G G') (p : Pre al al') : ∀ {v : V} {d : D}, Rp K G al v d → Rp K G' al' v d
  | _, _, .non => .non
  | _, _, .bl b => .bl b
  | _, _, .int i => .int i
  | _, _, .str x => .str x
  | _, _, .ty x => .ty x
  | _, _, .tup h r => .tup (s _ _ h) (Rps.mono s p r)
  | _, _, .lst h r => .lst (s _ _ h) (Rps.mono s p r)
  | _, _, .rdl h r => .rdl (sql_mono s h) (Rps.mono s p r)
  | _, _, .rdt h r => .rdt (sqt_mono s h) (Rps.mono s p r)
  | _, _, .obj h r => .obj (s _ _ h) (Rpf.mono s p r)
  | _, _, .dct h r => .dct (rd_mono s h) (Rpk.mono s p r)
  | _, _, .own h => .own (p.get h)
  | _, _, .loc a => .loc a
  | _, _, .exc h hd r => .exc (s _ _ h) (hd.mono s) (Rpf.mono s p r)
theorem Rps.mono (s : Same G G') (p : Pre al al') : ∀ {v : List V} {d : List D}, Rps K G al v d → Rps K G' al' v d
  | _, _, .nil => .nil
  | _, _, .cons h r => .cons (Rp.mono s p h) (Rps.mono s p r)
theorem Rpf.mono (s : Same G G') (p : Pre al al') : ∀ {v : List (Str × V)} {d : List (Str × D)}, Rpf K G al v d → Rpf K G' al' v d
  | _, _, .nil => .nil
  | _, _, .cons h r => .cons (Rp.mono s p h) (Rpf.mono s p r)
theorem Rpk.mono (s : Same G G') (p : Pre al al') : ∀ {v : List (Key × V)} {d : List (Key × D)}, Rpk K G al v d → Rpk K G' al' v d
  | _, _, .nil => .nil
  | _, _, .cons h r => .cons (Rp.mono s p h) (Rpk.mono s p r)
end
theorem Rps.length {vs : List V} {ds : List D} (h : Rps K G al vs ds) : vs.length = ds.length := by
  induction ds generalizing vs with
  | nil => cases h; rfl
  | cons d ds ih => cases h with | cons _ r => simp [ih r]
theorem Rps.get {vs : List V} {ds : List D} (h : Rps K G al vs ds) : ∀ {i : Nat} {d : D}, ds[i]? = some d → ∃ v, vs[i]? = some v ∧ Rp K G al v d := by
  induction ds generalizing vs with
  | nil => intro i d e; simp at e
  | cons x xs ih =>
    intro i d e
    cases h with
    | cons r t =>
      cases i with
      | zero => simp at e; subst e; exact ⟨_, rfl, r⟩
      | succ i => simp at e; simpa using ih t e
theorem Rps.getV {vs : List V} {ds : List D} (h : Rps K G al vs ds) {i : Nat} {v : V} (e : vs[i]? = some v) : ∃ d, ds[i]? = some d ∧ Rp K G al v d := by
  have hi : i < ds.length := by rw [← h.length]; exact (List.getElem?_eq_some_iff.mp e).1
  obtain ⟨w, e2, r⟩ := h.get (List.getElem?_eq_getElem hi)
  rw [e] at e2; cases e2
  exact ⟨_, List.getElem?_eq_getElem hi, r⟩
theorem Rps.append {vs ws : List V} {ds es : List D} (h : Rps K G al vs ds) (h' : Rps K G al ws es) : Rps K G al (vs ++ ws) (ds ++ es) := by
  induction ds generalizing vs with
  | nil => cases h; exact h'
  | cons d ds ih => cases h with | cons r t => exact .cons r (ih t)
theorem Rps.take {vs : List V} {ds : List D} (h : Rps K G al vs ds) (n : Nat) : Rps K G al (vs.take n) (ds.take n) := by
  induction n generalizing vs ds with
  | zero => simp; exact .nil
  | succ n ih => cases h with
    | nil => simp; exact .nil
    | cons r t => simpa using .cons r (ih t)
theorem Rps.drop {vs : List V} {ds : List D} (h : Rps K G al vs ds) (n : Nat) : Rps K G al (vs.drop n) (ds.drop n) := by
  induction n generalizing vs ds with
  | zero => simpa using h
  | succ n ih => cases h with
    | nil => simp; exact .nil
    | cons r t => simpa using ih t
theorem Rps.reverse {vs : List V} {ds : List D} (h : Rps K G al vs ds) : Rps K G al vs.reverse ds.reverse := by
  induction ds generalizing vs with
  | nil => cases h; exact .nil
  | cons d ds ih => cases h with | cons r t => simpa using (ih t).append (.cons r .nil)
theorem Rps.set {vs : List V} {ds : List D} (h : Rps K G al vs ds) (i : Nat) {v : V} {d : D} (r : Rp K G al v d) : Rps K G al (vs.set i v) (ds.set i d) := by
  induction ds generalizing vs i with
  | nil => cases h; simp; exact .nil
  | cons x xs ih => cases h with
    | cons r' t => cases i with
      | zero => exact .cons r t
      | succ i => exact .cons r' (ih t i)
theorem Rps.ints : ∀ {vs : List V} {ns : List Int}, Rps K G al vs (ns.map D.int) → vs = ns.map V.int
  | _, [], h => by cases h; rfl
  | _, n :: ns, h => by
    cases h with
    | cons r t => cases r; rw [Rps.ints (ns := ns) t]; rfl
theorem Rps.of_ints : ∀ (ns : List Int), Rps K G al (ns.map V.int) (ns.map D.int)
  | [] => .nil
  | n :: ns => .cons (.int n) (Rps.of_ints ns)
theorem Rps.bools : ∀ {vs : List V} {ns : List Bool}, Rps K G al vs (ns.map D.bl) → vs = ns.map V.bl
  | _, [], h => by cases h; rfl
  | _, n :: ns, h => by
    cases h with
    | cons r t => cases r; rw [Rps.bools (ns := ns) t]; rfl
theorem Rps.strs : ∀ {vs : List V} {ns : List Str}, Rps K G al vs (ns.map D.str) → vs = ns.map V.str
  | _, [], h => by cases h; rfl
  | _, n :: ns, h => by
    cases h with
    | cons r t => cases r; rw [Rps.strs (ns := ns) t]; rfl
theorem Rpf.look {fs : List (Str × V)} {gs : List (Str × D)} (h : Rpf K G al fs gs) {f : Str} {d : D} (e : gs.lookup f = some d) : ∃ v, fs.lookup f = some v ∧ Rp K G al v d := by
  induction gs generalizing fs with
  | nil => simp at e
  | cons x xs ih =>
    cases h with
    | cons r t =>
      rw [List.lookup_cons] at e ⊢
      split at e
      · cases e; exact ⟨_, rfl, r⟩
      · exact ih t e
theorem Rpf.none {fs : List (Str × V)} {gs : List (Str × D)} (h : Rpf K G al fs gs) {f : Str} (e : gs.lookup f = Option.none) : fs.lookup f = Option.none := by
  induction gs generalizing fs with
  | nil => cases h; rfl
  | cons x xs ih =>
    cases h with
    | cons r t =>
      rw [List.lookup_cons] at e ⊢
      split at e
      · cases e
      · exact ih t e
theorem Rpf.length {fs : List (Str × V)} {gs : List (Str × D)} (h : Rpf K G al fs gs) : fs.length = gs.length := by
  induction gs generalizing fs with
  | nil => cases h; rfl
  | cons d ds ih => cases h with | cons _ r => simp [ih r]
end
/-- a field put -/
def putD (f : Str) (v : D) : List (Str × D) → List (Str × D)
  | [] => [(f, v)]
  | (g, x) :: r => if g = f then (g, v) :: r else (g, x) :: putD f v r
theorem Rpf.put {K : PySem.W.Frag} {G : Hp} {al : List Addr} {fs : List (Str × V)} {gs : List (Str × D)} (h : Rpf K G al fs gs) (f : Str) {v : V} {d : D} (r : Rp K G al v d) : Rpf K G al (putF f v fs) (putD f d gs) := by
  induction gs generalizing fs with
  | nil => cases h; exact .cons r .nil
  | cons x xs ih =>
    cases h with
    | cons r' t =>
      unfold putF putD
      split
      · exact .cons r t
      · exact .cons r' (ih t)
/-! ### the slots -/
def RpS (K : PySem.W.Frag) (G : Hp) (al : List Addr) (σ : St) (ρ : En) : Prop := σ.length = ρ.length ∧ ∀ (i : Nat) (d : D), ρ[i]? = some (some d) → ∃ v, σ[i]? = some (some v) ∧ Rp K G al v d
section
variable {K : PySem.W.Frag} {G G' : Hp} {al al' : List Addr} {σ : St} {ρ : En}
theorem RpS.mono (s : Same G G') (p : Pre al al') (h : RpS K G al σ ρ) : RpS K G' al' σ ρ := ⟨h.1, fun i d e => by
  obtain ⟨v, e1, r⟩ := h.2 i d e
  exact ⟨v, e1, r.mono s p⟩⟩
theorem RpS.set (h : RpS K G al σ ρ) (i : Nat) {v : V} {d : D} (r : Rp K G al v d) : RpS K G al (σ.set i (some v)) (ρ.set i (some d)) := by
  refine ⟨by simp [h.1], fun j e hj => ?_⟩
  rw [List.getElem?_set] at hj ⊢
  by_cases hij : i = j
  · subst hij
    rw [if_pos rfl] at hj ⊢
    by_cases hl : i < ρ.length
    · rw [if_pos hl] at hj
      have hl2 : i < σ.length := by rw [h.1]; exact hl
      rw [if_pos hl2]
      cases hj
      exact ⟨v, rfl, r⟩
    · rw [if_neg hl] at hj; cases hj
  · rw [if_neg hij] at hj ⊢
    exact h.2 j e hj
/-- a slot's value forgotten -/
theorem RpS.forget (h : RpS K G al σ ρ) (i : Nat) (x : Option V) : RpS K G al (σ.set i x) (ρ.set i none) := by
  refine ⟨by simp [h.1], fun j e hj => ?_⟩
  rw [List.getElem?_set] at hj ⊢
  by_cases hij : i = j
  · subst hij
    rw [if_pos rfl] at hj
    by_cases hl : i < ρ.length
    · rw [if_pos hl] at hj; cases hj
    · rw [if_neg hl] at hj; cases hj
  · rw [if_neg hij] at hj ⊢
    exact h.2 j e hj
end
/-! ### what may change -/
def OkO (K : PySem.W.Frag) (G H : Hp) (al : List Addr) (a : Addr) : MO → Prop
  | .dead => True
  | .lst ds => G a = none ∧ ∃ vs, H a = some (.lst vs) ∧ Rps K G al vs ds
  | .ins C gs => G a = none ∧ ∃ dx fs, H a = some (.ins C dx fs) ∧ Rpf K G al fs gs
  | .dK gs => G a = none ∧ ∃ kvs, H a = some (.dK kvs) ∧ Rpk K G al kvs gs
  | .dT gs => G a = none ∧ ∃ kvs : List (List Key × V), H a = some (.dT kvs) ∧ kvs.map (·.1) = gs.map (·.1) ∧ Rps K G al (kvs.map (·.2)) (gs.map (·.2))
  | .tab p q => G a = none ∧ a = p ∧ ∃ ps : Array Value, H a = some (.tbl ps) ∧ TriplesOk ps.toList ∧ ∀ (pos : Pos) (cv : Value), codeAmong pos ps.toList = some cv → ∃ c, cv = .ref c ∧ G c = some (LamX.CodeO c q)
structure As (K : PySem.W.Frag) (G H : Hp) (al : List Addr) (μ : Mu) : Prop where
  sub : Same G H
  nd : al.Nodup
  len : al.length = μ.length
  here : ∀ a ∈ al, H a ≠ none
  ok : ∀ (k : Nat) (a : Addr) (o : MO), al[k]? = some a → μ[k]? = some o → OkO K G H al a o
/-- a later state -/
structure Nx (G H : Hp) (al : List Addr) (G' H' : Hp) (al' : List Addr) : Prop where
  g : Same G G'
  p : Pre al al'
  keep : ∀ a o, H a = some o → a ∉ al → H' a = some o
  out : ∀ a, H a ≠ none → (∀ vs, H a ≠ some (.tup vs)) → a ∉ al → G a = none → G' a = none
  new : ∀ a ∈ al', a ∈ al ∨ H a = none
section
variable {K : PySem.W.Frag} {G G1 G2 H H1 H2 : Hp} {al al1 al2 : List Addr} {μ : Mu}
theorem Nx.refl : Nx G H al G H al := ⟨Same.refl _, Pre.refl _, fun _ _ h _ => h, fun _ _ _ _ h => h, fun _ h => .inl h⟩
theorem Nx.trans (a : Nx G H al G1 H1 al1) (b : Nx G1 H1 al1 G2 H2 al2) : Nx G H al G2 H2 al2 := by
  have nin : ∀ x o, H x = some o → x ∉ al → x ∉ al1 := fun x o h n m => by
    rcases a.new x m with z | z
    · exact n z
    · rw [h] at z; cases z
  refine ⟨a.g.trans b.g, a.p.trans b.p, fun x o h n => b.keep x o (a.keep x o h n) (nin x o h n), fun x h t n g => ?_, fun x m => ?_⟩
  · cases q : H x with
    | none => exact absurd q h
    | some o =>
      have h1 := a.keep x o q n
      exact b.out x (by rw [h1]; simp) (fun vs e => t vs (by rw [q, ← h1, e])) (nin x o q n) (a.out x h t n g)
  · rcases b.new x m with z | z
    · exact a.new x z
    · by_cases hx : x ∈ al
      · exact .inl hx
      · refine .inr ?_
        cases q : H x with
        | none => rfl
        | some o => rw [a.keep x o q hx] at z; cases z
theorem Rp.nx (n : Nx G H al G1 H1 al1) {v : V} {d : D} (h : Rp K G al v d) : Rp K G1 al1 v d := h.mono n.g n.p
theorem Rps.nx (n : Nx G H al G1 H1 al1) {v : List V} {d : List D} (h : Rps K G al v d) : Rps K G1 al1 v d := h.mono n.g n.p
theorem RpS.nx (n : Nx G H al G1 H1 al1) {σ : St} {ρ : En} (h : RpS K G al σ ρ) : RpS K G1 al1 σ ρ := h.mono n.g n.p
theorem OkO.mono {a : Addr} {o : MO} (s : Same G G1) (p : Pre al al1) (hg : o ≠ .dead → G a = none → G1 a = none) (hh : H1 a = H a) (h : OkO K G H al a o) : OkO K G1 H1 al1 a o := by
  cases o with
  | dead => trivial
  | lst ds => obtain ⟨g, vs, e, r⟩ := h; exact ⟨hg (by simp) g, vs, hh.trans e, r.mono s p⟩
  | ins C gs => obtain ⟨g, dx, vs, e, r⟩ := h; exact ⟨hg (by simp) g, dx, vs, hh.trans e, r.mono s p⟩
  | dK gs => obtain ⟨g, vs, e, r⟩ := h; exact ⟨hg (by simp) g, vs, hh.trans e, r.mono s p⟩
  | dT gs => obtain ⟨g, vs, e, k, r⟩ := h; exact ⟨hg (by simp) g, vs, hh.trans e, k, r.mono s p⟩
  | tab p q => obtain ⟨g, ep, ps, e, k, r⟩ := h; exact ⟨hg (by simp) g, ep, ps, hh.trans e, k, fun pos cv hc => let ⟨c, e1, e2⟩ := r pos cv hc; ⟨c, e1, s _ _ e2⟩⟩
/-- a new frozen thing -/
theorem As.frz {p : Addr} {o : HO} (A : As K G H al μ) (hp : H p = none) : As K (upd G p o) (upd H p o) al μ ∧ Nx G H al (upd G p o) (upd H p o) al := by
  have gp : G p = none := A.sub.free hp
  have s1 : Same G (upd G p o) := fun b u e => by rw [upd_ne (ne_of_none e gp)]; exact e
  have npal : p ∉ al := fun m => A.here p m hp
  refine ⟨⟨fun b u e => ?_, A.nd, A.len, fun a m => ?_, fun k a ob e1 e2 => ?_⟩, ⟨s1, Pre.refl _, fun a u h _ => ?_, fun a h _ n g => ?_, fun a m => .inl m⟩⟩
  · by_cases hb : b = p
    · subst hb; rw [upd_same] at e ⊢; exact e
    · rw [upd_ne hb] at e ⊢; exact A.sub _ _ e
  · have : a ≠ p := fun z => npal (z ▸ m)
    rw [upd_ne this]; exact A.here a m
  · have : a ≠ p := fun z => npal (z ▸ List.mem_of_getElem? e1)
    exact OkO.mono s1 (Pre.refl _) (fun _ g => by rw [upd_ne this]; exact g) (by rw [upd_ne this]) (A.ok k a ob e1 e2)
  · rw [upd_ne (ne_of_none h hp)]; exact h
  · have z : a ≠ p := fun z => h (by rw [z]; exact hp)
    rw [upd_ne z]; exact g
/-- a new thing that may change -/
theorem As.own {p : Addr} {o : HO} {m : MO} (A : As K G H al μ) (hp : H p = none) (ok : OkO K G (upd H p o) (al ++ [p]) p m) : As K G (upd H p o) (al ++ [p]) (μ ++ [m]) ∧ Nx G H al G (upd H p o) (al ++ [p]) := by
  have npal : p ∉ al := fun m => A.here p m hp
  have gp : G p = none := A.sub.free hp
  refine ⟨⟨fun b u e => ?_, ?_, by simp [A.len], fun a m => ?_, fun k a ob e1 e2 => ?_⟩, ⟨Same.refl _, ⟨[p], rfl⟩, fun a u h _ => ?_, fun a h _ n g => g, fun a m => ?_⟩⟩
  · rw [upd_ne (ne_of_none e gp)]; exact A.sub _ _ e
  · rw [List.nodup_append]
    exact ⟨A.nd, by simp, fun a ha b hb => by simp at hb; subst hb; exact fun z => npal (z ▸ ha)⟩
  · rcases List.mem_append.mp m with m | m
    · have : a ≠ p := fun z => npal (z ▸ m)
      rw [upd_ne this]; exact A.here a m
    · simp at m; subst m; rw [upd_same]; simp
  · by_cases hk : k < al.length
    · rw [List.getElem?_append_left hk] at e1
      rw [List.getElem?_append_left (by rw [← A.len]; exact hk)] at e2
      have : a ≠ p := fun z => npal (z ▸ List.mem_of_getElem? e1)
      exact OkO.mono (Same.refl _) ⟨[p], rfl⟩ (fun _ g => g) (by rw [upd_ne this]) (A.ok k a ob e1 e2)
    · have hk1 := (List.getElem?_eq_some_iff.mp e1).1
      have hk' : k = al.length := by simp at hk1; omega
      subst hk'
      simp at e1
      rw [A.len] at e2
      simp at e2
      subst e1 e2
      exact ok
  · rw [upd_ne (ne_of_none h hp)]; exact h
  · rcases List.mem_append.mp m with m | m
    · exact .inl m
    · simp at m; subst m; exact .inr hp
/-- a thing that may change is changed -/
theorem As.put {k : Nat} {a : Addr} {o : HO} {m m' : MO} (A : As K G H al μ) (hk : al[k]? = some a) (hm : μ[k]? = some m) (hd : m ≠ .dead) (ok : OkO K G (upd H a o) al a m') : As K G (upd H a o) al (μ.set k m') ∧ Nx G H al G (upd H a o) al := by
  have ga : G a = none := by
    have := A.ok k a m hk hm
    cases m with
    | dead => exact absurd rfl hd
    | lst _ => exact this.1
    | ins _ _ => exact this.1
    | dK _ => exact this.1
    | dT _ => exact this.1
    | tab _ _ => exact this.1
  have ma : a ∈ al := List.mem_of_getElem? hk
  refine ⟨⟨fun b u e => ?_, A.nd, by simp [A.len], fun b m => ?_, fun j b ob e1 e2 => ?_⟩, ⟨Same.refl _, Pre.refl _, fun b u h n => ?_, fun _ _ _ _ g => g, fun _ m => .inl m⟩⟩
  · rw [upd_ne (ne_of_none e ga)]; exact A.sub _ _ e
  · by_cases hb : b = a
    · subst hb; rw [upd_same]; simp
    · rw [upd_ne hb]; exact A.here b m
  · rw [List.getElem?_set] at e2
    by_cases hj : k = j
    · subst hj
      rw [if_pos rfl] at e2
      split at e2
      · cases e2; rw [hk] at e1; cases e1; exact ok
      · cases e2
    · rw [if_neg hj] at e2
      have hne : b ≠ a := fun z => by
        subst z
        exact hj (nd_ix A.nd hk e1)
      exact OkO.mono (Same.refl _) (Pre.refl _) (fun _ g => g) (by rw [upd_ne hne]) (A.ok j b ob e1 e2)
  · have z : b ≠ a := fun z => n (by rw [z]; exact ma)
    rw [upd_ne z]; exact h
/-- .. it is frozen -/
theorem As.freeze {k : Nat} {a : Addr} {o : HO} (A : As K G H al μ) (hk : al[k]? = some a) (ha : H a = some o) (ga : G a = none) : As K (upd G a o) H al (μ.set k .dead) ∧ Nx G H al (upd G a o) H al := by
  have ma : a ∈ al := List.mem_of_getElem? hk
  have s1 : Same G (upd G a o) := fun b u e => by rw [upd_ne (ne_of_none e ga)]; exact e
  refine ⟨⟨fun b u e => ?_, A.nd, by simp [A.len], A.here, fun j b ob e1 e2 => ?_⟩, ⟨s1, Pre.refl _, fun b u h n => h, fun b h _ n g => ?_, fun _ m => .inl m⟩⟩
  · by_cases hb : b = a
    · subst hb; rw [upd_same] at e; rw [← e]; exact ha
    · rw [upd_ne hb] at e; exact A.sub _ _ e
  · rw [List.getElem?_set] at e2
    by_cases hj : k = j
    · subst hj
      rw [if_pos rfl] at e2
      split at e2
      · cases e2; trivial
      · cases e2
    · rw [if_neg hj] at e2
      have hne : b ≠ a := fun z => by
        subst z
        exact hj (nd_ix A.nd hk e1)
      exact OkO.mono s1 (Pre.refl _) (fun _ g => by rw [upd_ne hne]; exact g) rfl (A.ok j b ob e1 e2)
  · have z : b ≠ a := fun z => n (by rw [z]; exact ma)
    rw [upd_ne z]; exact g
theorem As.get {k : Nat} {m : MO} (A : As K G H al μ) (hm : μ[k]? = some m) : ∃ a, al[k]? = some a ∧ OkO K G H al a m := by
  have hk : k < al.length := by rw [A.len]; exact (List.getElem?_eq_some_iff.mp hm).1
  exact ⟨al[k], List.getElem?_eq_getElem hk, A.ok k _ m (List.getElem?_eq_getElem hk) hm⟩
end
end Dl
set_option Elab.async false
set_option linter.all false
set_option maxRecDepth 100000
namespace Dl
open PySem L2
/-! ### judgements over data -/
structure Bs where
  G : Hp
  H : Hp
  al : List Addr
abbrev Bs.le (B : Bs) (G H : Hp) (al : List Addr) : Prop := Nx B.G B.H B.al G H al
section
variable (K : PySem.W.Frag)
def KV (G H : Hp) (al : List Addr) (P : D → Mu → Prop) (Q : VK) : Prop := ∀ v d μ' G' H' al', Nx G H al G' H' al' → As K G' H' al' μ' → Rp K G' al' v d → P d μ' → Q v H'
def KT (G H : Hp) (al : List Addr) (P : Bool → Mu → Prop) (Q : Bool → Hp → Prop) : Prop := ∀ b μ' G' H' al', Nx G H al G' H' al' → As K G' H' al' μ' → P b μ' → Q b H'
def KA (G H : Hp) (al : List Addr) (P : List D → Mu → Prop) (Q : List V → Hp → Prop) : Prop := ∀ vs ds μ' G' H' al', Nx G H al G' H' al' → As K G' H' al' μ' → Rps K G' al' vs ds → P ds μ' → Q vs H'
def KS (G H : Hp) (al : List Addr) (P : En → Mu → Prop) (Q : St → Hp → Prop) : Prop := ∀ σ' ρ' μ' G' H' al', Nx G H al G' H' al' → RpS K G' al' σ' ρ' → As K G' H' al' μ' → P ρ' μ' → Q σ' H'
def DE (B : Bs) (te : TE) (ρ : En) (μ : Mu) (P : D → Mu → Prop) : Prop := ∀ σ G H al, B.le G H al → RpS K G al σ ρ → As K G H al μ → ∀ Q, KV K G H al P Q → te σ H Q
def DT (B : Bs) (tt : TT) (ρ : En) (μ : Mu) (P : Bool → Mu → Prop) : Prop := ∀ σ G H al, B.le G H al → RpS K G al σ ρ → As K G H al μ → ∀ Q, KT K G H al P Q → tt σ H Q
def DA (B : Bs) (ta : TA) (ρ : En) (μ : Mu) (P : List D → Mu → Prop) : Prop := ∀ σ G H al, B.le G H al → RpS K G al σ ρ → As K G H al μ → ∀ Q, KA K G H al P Q → ta σ H Q
/-- a part of a slice -/
def DO (B : Bs) (to : TO) (ρ : En) (μ : Mu) (P : Option Int → Mu → Prop) : Prop := ∀ σ G H al, B.le G H al → RpS K G al σ ρ → As K G H al μ → ∀ Q : Option Int → Hp → Prop, (∀ o μ' G' H' al', Nx G H al G' H' al' → As K G' H' al' μ' → P o μ' → Q o H') → to σ H Q
def DG (B : Bs) (g : TG) (d : D) (ρ : En) (μ : Mu) (P : En → Mu → Prop) : Prop := ∀ σ G H al v, B.le G H al → RpS K G al σ ρ → As K G H al μ → Rp K G al v d → ∀ Q, KS K G H al P Q → g v σ H Q
def DGs (B : Bs) (g : TGs) (ds : List D) (ρ : En) (μ : Mu) (P : En → Mu → Prop) : Prop := ∀ σ G H al vs, B.le G H al → RpS K G al σ ρ → As K G H al μ → Rps K G al vs ds → ∀ Q, KS K G H al P Q → g vs σ H Q
/-- operations on values -/
def RO (r : R2) (x y : D) (μ : Mu) (P : D → Mu → Prop) : Prop := ∀ G H al v w, As K G H al μ → Rp K G al v x → Rp K G al w y → ∀ Q, KV K G H al P Q → r v w H Q
def RU (r : V → Hp → VK → Prop) (x : D) (μ : Mu) (P : D → Mu → Prop) : Prop := ∀ G H al v, As K G H al μ → Rp K G al v x → ∀ Q, KV K G H al P Q → r v H Q
def RC (r : List V → Hp → VK → Prop) (xs : List D) (μ : Mu) (P : D → Mu → Prop) : Prop := ∀ G H al vs, As K G H al μ → Rps K G al vs xs → ∀ Q, KV K G H al P Q → r vs H Q
def RM (r : V → List V → Hp → VK → Prop) (x : D) (xs : List D) (μ : Mu) (P : D → Mu → Prop) : Prop := ∀ G H al v vs, As K G H al μ → Rp K G al v x → Rps K G al vs xs → ∀ Q, KV K G H al P Q → r v vs H Q
def RS (r : V → Option Int → Option Int → Hp → VK → Prop) (x : D) (lo hi : Option Int) (μ : Mu) (P : D → Mu → Prop) : Prop := ∀ G H al v, As K G H al μ → Rp K G al v x → ∀ Q, KV K G H al P Q → r v lo hi H Q
def RSet (r : V → V → V → Hp → (Hp → Prop) → Prop) (o i d : D) (μ : Mu) (P : Mu → Prop) : Prop := ∀ G H al v w u, As K G H al μ → Rp K G al v o → Rp K G al w i → Rp K G al u d → ∀ Q : Hp → Prop, (∀ μ' G' H' al', Nx G H al G' H' al' → As K G' H' al' μ' → P μ' → Q H') → r v w u H Q
end
structure DEnds where
  nx : En → Mu → Prop
  rt : D → Mu → Prop
  bk : En → Mu → Prop := fun _ _ => False
  ct : En → Mu → Prop := fun _ _ => False
structure Ag (K : PySem.W.Frag) (G H : Hp) (al : List Addr) (P : DEnds) (De : Ends) : Prop where
  nx : KS K G H al P.nx De.nx
  rt : KV K G H al P.rt De.rt
  bk : KS K G H al P.bk De.bk
  ct : KS K G H al P.ct De.ct
def DS (K : PySem.W.Frag) (B : Bs) (t : TS) (ρ : En) (μ : Mu) (P : DEnds) : Prop := ∀ σ G H al, B.le G H al → RpS K G al σ ρ → As K G H al μ → ∀ De, Ag K G H al P De → t De σ H
section
variable {K : PySem.W.Frag} {B : Bs} {G H G1 H1 : Hp} {al al1 : List Addr}
theorem KV.nx {P : D → Mu → Prop} {Q : VK} (n : Nx G H al G1 H1 al1) (h : KV K G H al P Q) : KV K G1 H1 al1 P Q := fun v d μ' G' H' al' n' A r p => h v d μ' G' H' al' (n.trans n') A r p
theorem KT.nx {P : Bool → Mu → Prop} {Q : Bool → Hp → Prop} (n : Nx G H al G1 H1 al1) (h : KT K G H al P Q) : KT K G1 H1 al1 P Q := fun v μ' G' H' al' n' A p => h v μ' G' H' al' (n.trans n') A p
theorem KA.nx {P : List D → Mu → Prop} {Q : List V → Hp → Prop} (n : Nx G H al G1 H1 al1) (h : KA K G H al P Q) : KA K G1 H1 al1 P Q := fun v d μ' G' H' al' n' A r p => h v d μ' G' H' al' (n.trans n') A r p
theorem KS.nx {P : En → Mu → Prop} {Q : St → Hp → Prop} (n : Nx G H al G1 H1 al1) (h : KS K G H al P Q) : KS K G1 H1 al1 P Q := fun v d μ' G' H' al' n' A r p => h v d μ' G' H' al' (n.trans n') A r p
theorem Ag.nx' {P : DEnds} {De : Ends} (n : Nx G H al G1 H1 al1) (h : Ag K G H al P De) : Ag K G1 H1 al1 P De := ⟨h.nx.nx n, h.rt.nx n, h.bk.nx n, h.ct.nx n⟩
theorem KV.now {P : D → Mu → Prop} {Q : VK} {v : V} {d : D} {μ : Mu} (h : KV K G H al P Q) (A : As K G H al μ) (r : Rp K G al v d) (p : P d μ) : Q v H := h v d μ G H al .refl A r p
variable {ρ : En} {μ : Mu} {P : D → Mu → Prop} {ta tb te tc : TE}
/-! ### expressions -/
theorem DE.imp {P' : D → Mu → Prop} (h : DE K B te ρ μ P') (i : ∀ d μ', P' d μ' → P d μ') : DE K B te ρ μ P := fun σ G H al hB hσ hA Q hQ => h σ G H al hB hσ hA Q fun v d μ' G' H' al' n A r p => hQ v d μ' G' H' al' n A r (i d μ' p)
theorem de_var {i : Nat} {d : D} (e : ρ[i]? = some (some d)) (h : P d μ) : DE K B (tVar i) ρ μ P := fun σ G H al hB hσ hA Q hQ => by
  obtain ⟨v, e1, r⟩ := hσ.2 i d e
  exact ⟨v, e1, hQ.now hA r h⟩
theorem de_int {i : Int} (h : P (.int i) μ) : DE K B (tC (.int i)) ρ μ P := fun σ G H al hB hσ hA Q hQ => hQ.now hA (.int i) h
theorem de_bl {i : Bool} (h : P (.bl i) μ) : DE K B (tC (.bl i)) ρ μ P := fun σ G H al hB hσ hA Q hQ => hQ.now hA (.bl i) h
theorem de_non (h : P .non μ) : DE K B (tC .non) ρ μ P := fun σ G H al hB hσ hA Q hQ => hQ.now hA .non h
theorem de_str {x : Str} (h : P (.str x) μ) : DE K B (tC (.str x)) ρ μ P := fun σ G H al hB hσ hA Q hQ => hQ.now hA (.str x) h
theorem de_ty {x : String} (h : P (.ty x) μ) : DE K B (tC (.ty x)) ρ μ P := fun σ G H al hB hσ hA Q hQ => hQ.now hA (.ty x) h
theorem de_loc {x : Addr} (h : P (.loc x) μ) : DE K B (tC (.ref x)) ρ μ P := fun σ G H al hB hσ hA Q hQ => hQ.now hA (.loc x) h
theorem de_op {r : R2} (h : DE K B ta ρ μ fun x μ1 => DE K B tb ρ μ1 fun y μ2 => RO K r x y μ2 P) : DE K B (tOp r ta tb) ρ μ P := fun σ G H al hB hσ hA Q hQ =>
  h σ G H al hB hσ hA _ fun v d μ1 G1 H1 al1 n1 A1 r1 p1 => p1 σ G1 H1 al1 (hB.trans n1) (hσ.nx n1) A1 _ fun w e μ2 G2 H2 al2 n2 A2 r2 p2 => p2 G2 H2 al2 v w A2 (r1.nx n2) r2 Q (hQ.nx (n1.trans n2))
theorem de_un {r : V → Hp → VK → Prop} (h : DE K B ta ρ μ fun x μ1 => RU K r x μ1 P) : DE K B (tUn r ta) ρ μ P := fun σ G H al hB hσ hA Q hQ =>
  h σ G H al hB hσ hA _ fun v d μ1 G1 H1 al1 n1 A1 r1 p1 => p1 G1 H1 al1 v A1 r1 Q (hQ.nx n1)
theorem de_chain {r r' : R2} (h : DE K B ta ρ μ fun x μ1 => DE K B tb ρ μ1 fun y μ2 => RO K r x y μ2 fun z μ3 => ∃ b, z = .bl b ∧ (b = true → DE K B tc ρ μ3 fun w μ4 => RO K r' y w μ4 P) ∧ (b = false → P (.bl false) μ3)) :
    DE K B (tChain r r' ta tb tc) ρ μ P := fun σ G H al hB hσ hA Q hQ =>
  h σ G H al hB hσ hA _ fun v d μ1 G1 H1 al1 n1 A1 r1 p1 => p1 σ G1 H1 al1 (hB.trans n1) (hσ.nx n1) A1 _ fun w e μ2 G2 H2 al2 n2 A2 r2 p2 =>
    p2 G2 H2 al2 v w A2 (r1.nx n2) r2 _ fun z dz μ3 G3 H3 al3 n3 A3 r3 p3 => by
      obtain ⟨b, rfl, pt, pf⟩ := p3
      cases r3
      refine ⟨b, rfl, ?_⟩
      cases b with
      | true =>
        rw [if_pos rfl]
        exact pt rfl σ G3 H3 al3 ((hB.trans n1).trans (n2.trans n3)) (((hσ.nx n1).nx n2).nx n3) A3 _ fun u du μ4 G4 H4 al4 n4 A4 r4 p4 => p4 G4 H4 al4 w u A4 ((r2.nx n3).nx n4) r4 Q (hQ.nx (((n1.trans n2).trans n3).trans n4))
      | false =>
        rw [if_neg (by simp)]
        exact hQ (.bl false) _ μ3 G3 H3 al3 ((n1.trans n2).trans n3) A3 (.bl _) (pf rfl)
theorem de_andV (h : DE K B ta ρ μ fun x μ1 => ∃ b, x = .bl b ∧ (b = true → DE K B tb ρ μ1 P) ∧ (b = false → P (.bl false) μ1)) : DE K B (tAndV ta tb) ρ μ P := fun σ G H al hB hσ hA Q hQ =>
  h σ G H al hB hσ hA _ fun v d μ1 G1 H1 al1 n1 A1 r1 p1 => by
    obtain ⟨b, rfl, pt, pf⟩ := p1
    cases r1
    refine ⟨b, rfl, ?_⟩
    cases b with
    | true => rw [if_pos rfl]; exact pt rfl σ G1 H1 al1 (hB.trans n1) (hσ.nx n1) A1 Q (hQ.nx n1)
    | false => rw [if_neg (by simp)]; exact hQ (.bl false) _ μ1 G1 H1 al1 n1 A1 (.bl _) (pf rfl)
theorem de_orV (h : DE K B ta ρ μ fun x μ1 => ∃ b, x = .bl b ∧ (b = false → DE K B tb ρ μ1 P) ∧ (b = true → P (.bl true) μ1)) : DE K B (tOrV ta tb) ρ μ P := fun σ G H al hB hσ hA Q hQ =>
  h σ G H al hB hσ hA _ fun v d μ1 G1 H1 al1 n1 A1 r1 p1 => by
    obtain ⟨b, rfl, pt, pf⟩ := p1
    cases r1
    refine ⟨b, rfl, ?_⟩
    cases b with
    | false => rw [if_neg (by simp)]; exact pt rfl σ G1 H1 al1 (hB.trans n1) (hσ.nx n1) A1 Q (hQ.nx n1)
    | true => rw [if_pos rfl]; exact hQ (.bl true) _ μ1 G1 H1 al1 n1 A1 (.bl _) (pf rfl)
theorem de_notV (h : DE K B ta ρ μ fun x μ1 => ∃ b, x = .bl b ∧ P (.bl (!b)) μ1) : DE K B (tNotV ta) ρ μ P := fun σ G H al hB hσ hA Q hQ =>
  h σ G H al hB hσ hA _ fun v d μ1 G1 H1 al1 n1 A1 r1 p1 => by
    obtain ⟨b, rfl, pt⟩ := p1
    cases r1
    exact ⟨b, rfl, hQ _ _ μ1 G1 H1 al1 n1 A1 (.bl _) pt⟩
theorem de_if {t : TT} (h : DT K B t ρ μ fun b μ1 => (b = true → DE K B ta ρ μ1 P) ∧ (b = false → DE K B tb ρ μ1 P)) : DE K B (tIf t ta tb) ρ μ P := fun σ G H al hB hσ hA Q hQ =>
  h σ G H al hB hσ hA _ fun b μ1 G1 H1 al1 n1 A1 p1 => by
    cases b with
    | true => rw [if_pos rfl]; exact p1.1 rfl σ G1 H1 al1 (hB.trans n1) (hσ.nx n1) A1 Q (hQ.nx n1)
    | false => rw [if_neg (by simp)]; exact p1.2 rfl σ G1 H1 al1 (hB.trans n1) (hσ.nx n1) A1 Q (hQ.nx n1)
theorem de_isN (h : DE K B ta ρ μ fun x μ1 => ∃ b, (b = true ↔ x = .non) ∧ P (.bl b) μ1) : DE K B (tIsN ta) ρ μ P := fun σ G H al hB hσ hA Q hQ =>
  h σ G H al hB hσ hA _ fun v d μ1 G1 H1 al1 n1 A1 r1 p1 => by
    obtain ⟨b, hb, p⟩ := p1
    have e : decide (v = .non) = b := by
      cases d with
      | non => cases r1; simp at hb; simp [hb]
      | _ => cases r1 <;> simp at hb <;> simp [hb]
    rw [e]
    exact hQ _ _ μ1 G1 H1 al1 n1 A1 (.bl _) p
theorem de_notN (h : DE K B ta ρ μ fun x μ1 => ∃ b, (b = true ↔ x = .non) ∧ P (.bl (!b)) μ1) : DE K B (tNotN ta) ρ μ P := fun σ G H al hB hσ hA Q hQ =>
  h σ G H al hB hσ hA _ fun v d μ1 G1 H1 al1 n1 A1 r1 p1 => by
    obtain ⟨b, hb, p⟩ := p1
    have e : decide (v = .non) = b := by
      cases d with
      | non => cases r1; simp at hb; simp [hb]
      | _ => cases r1 <;> simp at hb <;> simp [hb]
    rw [e]
    exact hQ _ _ μ1 G1 H1 al1 n1 A1 (.bl _) p
/-! tests -/
variable {PT' : Bool → Mu → Prop} {t u : TT}
theorem dt_test (h : DE K B te ρ μ fun x μ1 => ∃ b, x = .bl b ∧ PT' b μ1) : DT K B (tTest te) ρ μ PT' := fun σ G H al hB hσ hA Q hQ =>
  h σ G H al hB hσ hA _ fun v d μ1 G1 H1 al1 n1 A1 r1 p1 => by
    obtain ⟨b, rfl, p⟩ := p1
    cases r1
    exact ⟨b, rfl, hQ b μ1 G1 H1 al1 n1 A1 p⟩
theorem dt_B (h : DE K B te ρ μ fun x μ1 => ∃ b, x = .bl b ∧ PT' b μ1) : DT K B (tB te) ρ μ PT' := dt_test h
theorem dt_and (h : DT K B t ρ μ fun b μ1 => (b = true → DT K B u ρ μ1 PT') ∧ (b = false → PT' false μ1)) : DT K B (tAnd t u) ρ μ PT' := fun σ G H al hB hσ hA Q hQ =>
  h σ G H al hB hσ hA _ fun b μ1 G1 H1 al1 n1 A1 p1 => by
    cases b with
    | true => rw [if_pos rfl]; exact p1.1 rfl σ G1 H1 al1 (hB.trans n1) (hσ.nx n1) A1 Q (hQ.nx n1)
    | false => rw [if_neg (by simp)]; exact hQ false μ1 G1 H1 al1 n1 A1 (p1.2 rfl)
theorem dt_or (h : DT K B t ρ μ fun b μ1 => (b = false → DT K B u ρ μ1 PT') ∧ (b = true → PT' true μ1)) : DT K B (tOr t u) ρ μ PT' := fun σ G H al hB hσ hA Q hQ =>
  h σ G H al hB hσ hA _ fun b μ1 G1 H1 al1 n1 A1 p1 => by
    cases b with
    | false => rw [if_neg (by simp)]; exact p1.1 rfl σ G1 H1 al1 (hB.trans n1) (hσ.nx n1) A1 Q (hQ.nx n1)
    | true => rw [if_pos rfl]; exact hQ true μ1 G1 H1 al1 n1 A1 (p1.2 rfl)
theorem dt_not (h : DT K B t ρ μ fun b μ1 => PT' (!b) μ1) : DT K B (tNot t) ρ μ PT' := fun σ G H al hB hσ hA Q hQ =>
  h σ G H al hB hσ hA _ fun b μ1 G1 H1 al1 n1 A1 p1 => hQ (!b) μ1 G1 H1 al1 n1 A1 p1
/-! arguments -/
variable {PA' : List D → Mu → Prop} {tr : TA}
theorem da_nil (h : PA' [] μ) : DA K B tNil ρ μ PA' := fun σ G H al hB hσ hA Q hQ => hQ [] [] μ G H al .refl hA .nil h
theorem da_cons (h : DE K B ta ρ μ fun x μ1 => DA K B tr ρ μ1 fun xs μ2 => PA' (x :: xs) μ2) : DA K B (tCons ta tr) ρ μ PA' := fun σ G H al hB hσ hA Q hQ =>
  h σ G H al hB hσ hA _ fun v d μ1 G1 H1 al1 n1 A1 r1 p1 => p1 σ G1 H1 al1 (hB.trans n1) (hσ.nx n1) A1 _ fun vs ds μ2 G2 H2 al2 n2 A2 r2 p2 => hQ (v :: vs) (d :: ds) μ2 G2 H2 al2 (n1.trans n2) A2 (.cons (r1.nx n2) r2) p2
theorem de_tup {ts : TA} (h : DA K B ts ρ μ fun xs μ1 => xs.length ≤ 100000 ∧ P (.tup xs) μ1) : DE K B (tTup ts) ρ μ P := fun σ G H al hB hσ hA Q hQ =>
  h σ G H al hB hσ hA _ fun vs ds μ1 G1 H1 al1 n1 A1 r1 p1 => by
    refine ⟨by rw [r1.length]; exact Nat.le_trans p1.1 (by decide), fun p hp => ?_⟩
    obtain ⟨A2, n2⟩ := A1.frz (o := .tup vs) hp
    exact hQ _ _ μ1 _ _ al1 (n1.trans n2) A2 (.tup upd_same (r1.nx n2)) p1.2
/-- a list, frozen at once -/
theorem de_lst {ts : TA} (h : DA K B ts ρ μ fun xs μ1 => xs.length ≤ 100000 ∧ P (.lst xs) μ1) : DE K B (tLst ts) ρ μ P := fun σ G H al hB hσ hA Q hQ =>
  h σ G H al hB hσ hA _ fun vs ds μ1 G1 H1 al1 n1 A1 r1 p1 => by
    refine ⟨by rw [r1.length]; exact Nat.le_trans p1.1 (by decide), fun p hp => ?_⟩
    obtain ⟨A2, n2⟩ := A1.frz (o := .lst vs) hp
    exact hQ _ _ μ1 _ _ al1 (n1.trans n2) A2 (.lst upd_same (r1.nx n2)) p1.2
/-- a list that will change -/
theorem de_lstO {ts : TA} (h : DA K B ts ρ μ fun xs μ1 => xs.length ≤ 100000 ∧ P (.own μ1.length) (μ1 ++ [.lst xs])) : DE K B (tLst ts) ρ μ P := fun σ G H al hB hσ hA Q hQ =>
  h σ G H al hB hσ hA _ fun vs ds μ1 G1 H1 al1 n1 A1 r1 p1 => by
    refine ⟨by rw [r1.length]; exact Nat.le_trans p1.1 (by decide), fun p hp => ?_⟩
    obtain ⟨A2, n2⟩ := A1.own (o := .lst vs) (m := .lst ds) hp ⟨A1.sub.free hp, vs, upd_same, r1.mono (Same.refl _) ⟨[p], rfl⟩⟩
    exact hQ _ _ _ _ _ _ (n1.trans n2) A2 (.own (by rw [← A1.len]; simp)) p1.2
/-- .. is frozen as it is handed on -/
theorem de_frz {te : TE} (h : DE K B te ρ μ fun x μ1 => ∃ k ds, x = .own k ∧ μ1[k]? = some (.lst ds) ∧ P (.lst ds) (μ1.set k .dead)) : DE K B te ρ μ P := fun σ G H al hB hσ hA Q hQ =>
  h σ G H al hB hσ hA _ fun v d μ1 G1 H1 al1 n1 A1 r1 p1 => by
    obtain ⟨k, ds, rfl, hk, p⟩ := p1
    obtain ⟨a, ha, ok⟩ := A1.get hk
    cases r1 with
    | own e =>
      rw [ha] at e
      cases e
      obtain ⟨ga, vs, hv, rv⟩ := ok
      obtain ⟨A2, n2⟩ := A1.freeze ha hv ga
      exact hQ _ _ _ _ _ _ (n1.trans n2) A2 (.lst upd_same (rv.nx n2)) p
theorem de_cb {r : List V → Hp → VK → Prop} {ts : TA} (h : DA K B ts ρ μ fun xs μ1 => RC K r xs μ1 P) : DE K B (tCB r ts) ρ μ P := fun σ G H al hB hσ hA Q hQ =>
  h σ G H al hB hσ hA _ fun vs ds μ1 G1 H1 al1 n1 A1 r1 p1 => p1 G1 H1 al1 vs A1 r1 Q (hQ.nx n1)
theorem do_no {PO : Option Int → Mu → Prop} (h : PO none μ) : DO K B tNoPart ρ μ PO := fun σ G H al hB hσ hA Q hQ => hQ none μ G H al .refl hA h
theorem do_part {PO : Option Int → Mu → Prop} (h : DE K B te ρ μ fun x μ1 => ∃ i, x = .int i ∧ PO (some i) μ1) : DO K B (tPart te) ρ μ PO := fun σ G H al hB hσ hA Q hQ =>
  h σ G H al hB hσ hA _ fun v d μ1 G1 H1 al1 n1 A1 r1 p1 => by
    obtain ⟨i, rfl, p⟩ := p1
    cases r1
    exact ⟨i, rfl, hQ _ μ1 G1 H1 al1 n1 A1 p⟩
theorem de_sl {r : V → Option Int → Option Int → Hp → VK → Prop} {tl th : TO} (h : DE K B te ρ μ fun x μ1 => DO K B tl ρ μ1 fun lo μ2 => DO K B th ρ μ2 fun hi μ3 => RS K r x lo hi μ3 P) : DE K B (tSl r te tl th) ρ μ P := fun σ G H al hB hσ hA Q hQ =>
  h σ G H al hB hσ hA _ fun v d μ1 G1 H1 al1 n1 A1 r1 p1 => p1 σ G1 H1 al1 (hB.trans n1) (hσ.nx n1) A1 _ fun lo μ2 G2 H2 al2 n2 A2 p2 =>
    p2 σ G2 H2 al2 ((hB.trans n1).trans n2) ((hσ.nx n1).nx n2) A2 _ fun hi μ3 G3 H3 al3 n3 A3 p3 => p3 G3 H3 al3 v A3 ((r1.nx n2).nx n3) Q (hQ.nx ((n1.trans n2).trans n3))
/-! fields, methods of built-in types -/
theorem de_fld {f : Str} (h : DE K B te ρ μ fun x μ1 => ∃ C gs d, (x = .obj C gs ∨ ∃ k, x = .own k ∧ μ1[k]? = some (.ins C gs)) ∧ Cls K C ∧ NoAttr K C f ∧ gs.lookup f = some d ∧ P d μ1) : DE K B (tFld K te f) ρ μ P := fun σ G H al hB hσ hA Q hQ =>
  h σ G H al hB hσ hA _ fun v d μ1 G1 H1 al1 n1 A1 r1 p1 => by
    obtain ⟨C, gs, z, hx, cl, na, lk, p⟩ := p1
    rcases hx with rfl | ⟨k, rfl, hk⟩
    · cases r1 with
      | obj e rf =>
        obtain ⟨w, lw, rw'⟩ := rf.look lk
        exact ⟨_, C, _, _, w, rfl, A1.sub _ _ e, cl, na, lw, hQ _ _ μ1 _ _ _ n1 A1 rw' p⟩
    · obtain ⟨a, ha, ok⟩ := A1.get hk
      cases r1 with
      | own e =>
        rw [ha] at e
        cases e
        obtain ⟨ga, dx, fs, hv, rf⟩ := ok
        obtain ⟨w, lw, rw'⟩ := rf.look lk
        exact ⟨_, C, _, _, w, rfl, hv, cl, na, lw, hQ _ _ μ1 _ _ _ n1 A1 rw' p⟩
theorem de_bm {T : String} {r : V → List V → Hp → VK → Prop} {ts : TA} (h : DE K B te ρ μ fun x μ1 => (∀ G H al v, As K G H al μ1 → Rp K G al v x → tyV K T v H) ∧ DA K B ts ρ μ1 fun xs μ2 => RM K r x xs μ2 P) : DE K B (tBM K T r te ts) ρ μ P := fun σ G H al hB hσ hA Q hQ =>
  h σ G H al hB hσ hA _ fun v d μ1 G1 H1 al1 n1 A1 r1 p1 => ⟨p1.1 G1 H1 al1 v A1 r1, p1.2 σ G1 H1 al1 (hB.trans n1) (hσ.nx n1) A1 _ fun vs ds μ2 G2 H2 al2 n2 A2 r2 p2 => p2 G2 H2 al2 v vs A2 (r1.nx n2) r2 Q (hQ.nx (n1.trans n2))⟩
theorem de_bm0 {T : String} {r : V → List V → Hp → VK → Prop} (h : DE K B te ρ μ fun x μ1 => (∀ G H al v, As K G H al μ1 → Rp K G al v x → tyV K T v H) ∧ RM K r x [] μ1 P) : DE K B (tBM0 K T r te) ρ μ P := fun σ G H al hB hσ hA Q hQ =>
  h σ G H al hB hσ hA _ fun v d μ1 G1 H1 al1 n1 A1 r1 p1 => ⟨p1.1 G1 H1 al1 v A1 r1, p1.2 G1 H1 al1 v [] A1 r1 .nil Q (hQ.nx n1)⟩
end
theorem set_id {α : Type} : ∀ {l : List α} {i : Nat} {x : α}, l[i]? = some x → l.set i x = l
  | [], _, _, h => by simp at h
  | a :: r, 0, x, h => by simp at h; subst h; rfl
  | a :: r, i + 1, x, h => by simp at h; simp [set_id h]
/-! ### targets, statements -/
section
variable {K : PySem.W.Frag} {B : Bs} {ρ : En} {μ : Mu} {P : DEnds} {te ta tb : TE} {t u : TS} {PG' : En → Mu → Prop}
theorem dg_name {i : Nat} {d : D} (h : PG' (ρ.set i (some d)) μ) : DG K B (gName i) d ρ μ PG' := fun σ G H al v hB hσ hA r Q hQ => hQ _ _ μ G H al .refl (hσ.set i r) hA h
theorem dgs_nil (h : PG' ρ μ) : DGs K B gNil [] ρ μ PG' := fun σ G H al vs hB hσ hA r Q hQ => by
  cases r
  exact ⟨rfl, hQ _ _ μ G H al .refl hσ hA h⟩
theorem dgs_cons {g : TG} {gs : TGs} {d : D} {ds : List D} (h : DG K B g d ρ μ fun ρ1 μ1 => DGs K B gs ds ρ1 μ1 PG') : DGs K B (gCons g gs) (d :: ds) ρ μ PG' := fun σ G H al vs hB hσ hA r Q hQ => by
  cases r with
  | cons r1 rs => exact ⟨_, _, rfl, h σ G H al _ hB hσ hA r1 _ fun σ1 ρ1 μ1 G1 H1 al1 n1 hσ1 A1 p1 => p1 σ1 G1 H1 al1 _ (hB.trans n1) hσ1 A1 (rs.nx n1) Q (hQ.nx n1)⟩
theorem dg_tup {n : Nat} {gs : TGs} {ds : List D} (hn : ds.length = n) (h : DGs K B gs ds ρ μ PG') : DG K B (gTup K n gs) (.tup ds) ρ μ PG' := fun σ G H al v hB hσ hA r Q hQ => by
  cases r with
  | tup e rs => exact ⟨_, _, rfl, .inl (.inl (hA.sub _ _ e)), rs.length.trans hn, h σ G H al _ hB hσ hA rs Q hQ⟩
theorem dg_sub {to ti : TE} {r : TSet} {d : D} (h : DE K B to ρ μ fun o μ1 => DE K B ti ρ μ1 fun i μ2 => RSet K r o i d μ2 fun μ3 => PG' ρ μ3) : DG K B (gSub to ti r) d ρ μ PG' := fun σ G H al v hB hσ hA rv Q hQ =>
  h σ G H al hB hσ hA _ fun vo o μ1 G1 H1 al1 n1 A1 r1 p1 => p1 σ G1 H1 al1 (hB.trans n1) (hσ.nx n1) A1 _ fun vi i μ2 G2 H2 al2 n2 A2 r2 p2 =>
    p2 G2 H2 al2 vo vi v A2 (r1.nx n2) r2 ((rv.nx n1).nx n2) _ fun μ3 G3 H3 al3 n3 A3 p3 => hQ _ _ μ3 G3 H3 al3 ((n1.trans n2).trans n3) (((hσ.nx n1).nx n2).nx n3) A3 p3
theorem ds_next (h : P.nx ρ μ) : DS K B tNext ρ μ P := fun σ G H al hB hσ hA De hD => hD.nx _ _ μ G H al .refl hσ hA h
theorem ds_seq (h : DS K B t ρ μ { P with nx := fun ρ1 μ1 => DS K B u ρ1 μ1 P }) : DS K B (tSeq t u) ρ μ P := fun σ G H al hB hσ hA De hD =>
  h σ G H al hB hσ hA _ ⟨fun σ1 ρ1 μ1 G1 H1 al1 n1 hσ1 A1 p1 => p1 σ1 G1 H1 al1 (hB.trans n1) hσ1 A1 De (hD.nx' n1), hD.rt, hD.bk, hD.ct⟩
/-- a statement behind which the ways meet again -/
theorem ds_cut {M : En → Mu → Prop} (h : DS K B t ρ μ { P with nx := M }) (k : ∀ ρ1 μ1, M ρ1 μ1 → DS K B u ρ1 μ1 P) : DS K B (tSeq t u) ρ μ P := fun σ G H al hB hσ hA De hD =>
  h σ G H al hB hσ hA _ ⟨fun σ1 ρ1 μ1 G1 H1 al1 n1 hσ1 A1 p1 => k ρ1 μ1 p1 σ1 G1 H1 al1 (hB.trans n1) hσ1 A1 De (hD.nx' n1), hD.rt, hD.bk, hD.ct⟩
theorem ds_asg {g : TG} (h : DE K B te ρ μ fun d μ1 => DG K B g d ρ μ1 P.nx) : DS K B (tAsg te g) ρ μ P := fun σ G H al hB hσ hA De hD =>
  h σ G H al hB hσ hA _ fun v d μ1 G1 H1 al1 n1 A1 r1 p1 => p1 σ G1 H1 al1 v (hB.trans n1) (hσ.nx n1) A1 r1 _ (hD.nx.nx n1)
theorem ds_set {i : Nat} (h : DE K B te ρ μ fun d μ1 => P.nx (ρ.set i (some d)) μ1) : DS K B (tAsg te (gName i)) ρ μ P := ds_asg (h.imp fun d μ1 p => dg_name p)
theorem ds_drop (h : DE K B te ρ μ fun d μ1 => P.nx ρ μ1) : DS K B (tDrop te) ρ μ P := fun σ G H al hB hσ hA De hD =>
  h σ G H al hB hσ hA _ fun v d μ1 G1 H1 al1 n1 A1 r1 p1 => hD.nx _ _ μ1 G1 H1 al1 n1 (hσ.nx n1) A1 p1
theorem ds_ret (h : DE K B te ρ μ P.rt) : DS K B (tRet te) ρ μ P := fun σ G H al hB hσ hA De hD => h σ G H al hB hσ hA _ hD.rt
theorem ds_retN (h : P.rt .non μ) : DS K B tRetN ρ μ P := fun σ G H al hB hσ hA De hD => hD.rt _ _ μ G H al .refl hA .non h
theorem ds_if {c : TT} (h : DT K B c ρ μ fun b μ1 => (b = true → DS K B t ρ μ1 P) ∧ (b = false → DS K B u ρ μ1 P)) : DS K B (tIfS c t u) ρ μ P := fun σ G H al hB hσ hA De hD =>
  h σ G H al hB hσ hA _ fun b μ1 G1 H1 al1 n1 A1 p1 => by
    cases b with
    | true => rw [if_pos rfl]; exact p1.1 rfl σ G1 H1 al1 (hB.trans n1) (hσ.nx n1) A1 De (hD.nx' n1)
    | false => rw [if_neg (by simp)]; exact p1.2 rfl σ G1 H1 al1 (hB.trans n1) (hσ.nx n1) A1 De (hD.nx' n1)
theorem ds_par {i j : Nat} {ts : TA} (h : DA K B ts ρ μ fun ds μ1 => ∃ x y, ds = [x, y] ∧ P.nx ((ρ.set i (some x)).set j (some y)) μ1) : DS K B (tPar i j ts) ρ μ P := fun σ G H al hB hσ hA De hD =>
  h σ G H al hB hσ hA _ fun vs ds μ1 G1 H1 al1 n1 A1 r1 p1 => by
    obtain ⟨x, y, rfl, p⟩ := p1
    cases r1 with
    | cons rx r2 => cases r2 with
      | cons ry r3 =>
        cases r3
        exact ⟨_, _, rfl, hD.nx _ _ μ1 G1 H1 al1 n1 (((hσ.nx n1).set i rx).set j ry) A1 p⟩
theorem ds_aug {i : Nat} {r : TIp} {x : D} (e : ρ[i]? = some (some x)) (h : DE K B te ρ μ fun y μ1 => RO K r x y μ1 fun z μ2 => P.nx (ρ.set i (some z)) μ2) : DS K B (tAug i te r) ρ μ P := fun σ G H al hB hσ hA De hD => by
  obtain ⟨v, e1, r1⟩ := hσ.2 i x e
  refine ⟨v, e1, h σ G H al hB hσ hA _ fun w y μ1 G1 H1 al1 n1 A1 r2 p1 => p1 G1 H1 al1 v w A1 (r1.nx n1) r2 _ fun z dz μ2 G2 H2 al2 n2 A2 r3 p2 => ?_⟩
  exact hD.nx _ _ μ2 G2 H2 al2 (n1.trans n2) (((hσ.nx n1).nx n2).set i r3) A2 p2
theorem ds_fld {f : Str} (h : DE K B tb ρ μ fun y μ1 => DE K B ta ρ μ1 fun x μ2 => ∃ k C gs, x = .own k ∧ μ2[k]? = some (.ins C gs) ∧ Cls K C ∧ NoAttr K C f ∧ gs.length < 1000 ∧ P.nx ρ (μ2.set k (.ins C (putD f y gs)))) : DS K B (sFld K ta tb f) ρ μ P := fun σ G H al hB hσ hA De hD =>
  h σ G H al hB hσ hA _ fun vy y μ1 G1 H1 al1 n1 A1 r1 p1 => p1 σ G1 H1 al1 (hB.trans n1) (hσ.nx n1) A1 _ fun vx x μ2 G2 H2 al2 n2 A2 r2 p2 => by
    obtain ⟨k, C, gs, rfl, hk, cl, na, hl, p⟩ := p2
    obtain ⟨a, ha, ok⟩ := A2.get hk
    cases r2 with
    | own e =>
      rw [ha] at e
      cases e
      obtain ⟨ga, dx, fs, hv, rf⟩ := ok
      obtain ⟨A3, n3⟩ := A2.put (o := .ins C dx (putF f vy fs)) (m' := .ins C (putD f y gs)) ha hk (by simp) ⟨ga, dx, _, upd_same, rf.put f (r1.nx n2)⟩
      exact ⟨_, C, dx, fs, rfl, hv, cl, na, by rw [rf.length]; exact hl, hD.nx _ _ _ _ _ _ ((n1.trans n2).trans n3) (((hσ.nx n1).nx n2).nx n3) A3 p⟩
theorem ds_fldAug {f : Str} {r : V → V → Hp → VK → Prop} (h : DE K B ta ρ μ fun x μ1 => ∃ k C gs d, x = .own k ∧ μ1[k]? = some (.ins C gs) ∧ Cls K C ∧ NoAttr K C f ∧ gs.lookup f = some d ∧
      DE K B tb ρ μ1 fun y μ2 => RO K r d y μ2 fun z μ3 => ∃ gs', μ3[k]? = some (.ins C gs') ∧ gs'.length < 1000 ∧ P.nx ρ (μ3.set k (.ins C (putD f z gs')))) : DS K B (sFldAug K ta tb r f) ρ μ P := fun σ G H al hB hσ hA De hD =>
  h σ G H al hB hσ hA _ fun vx x μ1 G1 H1 al1 n1 A1 r1 p1 => by
    obtain ⟨k, C, gs, d, rfl, hk, cl, na, lk, p⟩ := p1
    obtain ⟨a, ha, ok⟩ := A1.get hk
    cases r1 with
    | own e =>
      rw [ha] at e
      cases e
      obtain ⟨ga, dx, fs, hv, rf⟩ := ok
      obtain ⟨w, lw, rw'⟩ := rf.look lk
      refine ⟨_, C, dx, fs, w, rfl, hv, cl, na, lw, p σ G1 H1 al1 (hB.trans n1) (hσ.nx n1) A1 _ fun vy y μ2 G2 H2 al2 n2 A2 r2 p2 => p2 G2 H2 al2 w vy A2 (rw'.nx n2) r2 _ fun vz z μ3 G3 H3 al3 n3 A3 r3 p3 => ?_⟩
      obtain ⟨gs', hk3, hl, p⟩ := p3
      obtain ⟨a3, ha3, ok3⟩ := A3.get hk3
      have ea : a3 = _ := Option.some.inj (ha3.symm.trans (n3.p.get (n2.p.get ha)))
      subst ea
      obtain ⟨ga3, dx3, fs3, hv3, rf3⟩ := ok3
      obtain ⟨A4, n4⟩ := A3.put (o := .ins C dx3 (putF f vz fs3)) (m' := .ins C (putD f z gs')) ha3 hk3 (by simp) ⟨ga3, dx3, _, upd_same, rf3.put f r3⟩
      exact ⟨dx3, fs3, hv3, by rw [rf3.length]; exact hl, hD.nx _ _ _ _ _ _ (((n1.trans n2).trans n3).trans n4) ((((hσ.nx n1).nx n2).nx n3).nx n4) A4 p⟩
/-- a list that a slot holds is frozen -/
theorem ds_freeze {i k : Nat} {ds : List D} (hi : ρ[i]? = some (some (.own k))) (hk : μ[k]? = some (.lst ds)) (h : DS K B t (ρ.set i (some (.lst ds))) (μ.set k .dead) P) : DS K B t ρ μ P := fun σ G H al hB hσ hA De hD => by
  obtain ⟨v, e1, r1⟩ := hσ.2 i _ hi
  obtain ⟨a, ha, ok⟩ := hA.get hk
  cases r1 with
  | own e =>
    rw [ha] at e
    cases e
    obtain ⟨ga, vs, hv, rv⟩ := ok
    obtain ⟨A2, n2⟩ := hA.freeze ha hv ga
    refine h σ _ _ _ (hB.trans n2) ?_ A2 De (hD.nx' n2)
    rw [← set_id e1]
    exact (hσ.nx n2).set i (.lst upd_same (rv.nx n2))
end
end Dl
set_option Elab.async false
set_option linter.all false
set_option maxRecDepth 100000
namespace Dl
open PySem L2
/-! ### lists that are read -/
inductive Ls (μ : Mu) : D → List D → Prop
  | lst (ds : List D) : Ls μ (.lst ds) ds
  | rdl (ds : List D) : Ls μ (.rdl ds) ds
  | own {k : Nat} {ds : List D} (h : μ[k]? = some (.lst ds)) : Ls μ (.own k) ds
/-- .. and stand in the heap itself -/
inductive Lt (μ : Mu) : D → List D → Prop
  | lst (ds : List D) : Lt μ (.lst ds) ds
  | own {k : Nat} {ds : List D} (h : μ[k]? = some (.lst ds)) : Lt μ (.own k) ds
inductive Ts : D → List D → Prop
  | tup (ds : List D) : Ts (.tup ds) ds
  | rdt (ds : List D) : Ts (.rdt ds) ds
section
variable {K : PySem.W.Frag} {G H : Hp} {al : List Addr} {μ : Mu} {v : V} {d : D} {ds : List D}
theorem Lt.get (h : Lt μ d ds) (A : As K G H al μ) (r : Rp K G al v d) : ∃ a vs, v = .ref a ∧ H a = some (.lst vs) ∧ Rps K G al vs ds := by
  cases h with
  | lst => cases r with | lst e rs => exact ⟨_, _, rfl, A.sub _ _ e, rs⟩
  | own hk =>
    obtain ⟨a, ha, ga, vs, hv, rs⟩ := A.get hk
    cases r with
    | own e => rw [ha] at e; cases e; exact ⟨_, vs, rfl, hv, rs⟩
theorem Ls.get (h : Ls μ d ds) (A : As K G H al μ) (r : Rp K G al v d) : ∃ a vs, v = .ref a ∧ SqL K H a vs ∧ Rps K G al vs ds := by
  cases h with
  | lst => cases r with | lst e rs => exact ⟨_, _, rfl, .inl (.inl (A.sub _ _ e)), rs⟩
  | rdl => cases r with | rdl e rs => exact ⟨_, _, rfl, sql_mono A.sub e, rs⟩
  | own hk =>
    obtain ⟨a, ha, ga, vs, hv, rs⟩ := A.get hk
    cases r with
    | own e => rw [ha] at e; cases e; exact ⟨_, vs, rfl, .inl (.inl hv), rs⟩
theorem Ts.get (h : Ts d ds) (A : As K G H al μ) (r : Rp K G al v d) : ∃ a vs, v = .ref a ∧ SqT K H a vs ∧ Rps K G al vs ds := by
  cases h with
  | tup => cases r with | tup e rs => exact ⟨_, _, rfl, .inl (.inl (A.sub _ _ e)), rs⟩
  | rdt => cases r with | rdt e rs => exact ⟨_, _, rfl, sqt_mono A.sub e, rs⟩
end
theorem rps_cons {K : PySem.W.Frag} {G : Hp} {al : List Addr} {vs : List V} {d : D} {ds : List D} (h : Rps K G al vs (d :: ds)) : ∃ v ws, vs = v :: ws ∧ Rp K G al v d ∧ Rps K G al ws ds := by
  cases h with | cons r t => exact ⟨_, _, rfl, r, t⟩
theorem rps_nil {K : PySem.W.Frag} {G : Hp} {al : List Addr} {vs : List V} (h : Rps K G al vs []) : vs = [] := by cases h; rfl
theorem rps1 {K : PySem.W.Frag} {G : Hp} {al : List Addr} {vs : List V} {d : D} (h : Rps K G al vs [d]) : ∃ v, vs = [v] ∧ Rp K G al v d := by
  obtain ⟨v, ws, rfl, r, t⟩ := rps_cons h
  cases t; exact ⟨v, rfl, r⟩
theorem rps2 {K : PySem.W.Frag} {G : Hp} {al : List Addr} {vs : List V} {d e : D} (h : Rps K G al vs [d, e]) : ∃ v w, vs = [v, w] ∧ Rp K G al v d ∧ Rp K G al w e := by
  obtain ⟨v, ws, rfl, r, t⟩ := rps_cons h
  obtain ⟨w, rfl, q⟩ := rps1 t
  exact ⟨v, w, rfl, r, q⟩
/-- an item by an index of any sign -/
theorem atI_rps {K : PySem.W.Frag} {G : Hp} {al : List Addr} {vs : List V} {ds : List D} {i : Int} {d : D} (h : Rps K G al vs ds) (e : atI ds i = some d) : ∃ v, atI vs i = some v ∧ Rp K G al v d := by
  unfold atI at e ⊢
  rw [h.length]
  cases q : ixN ds.length i with
  | none => rw [q] at e; cases e
  | some j =>
    rw [q] at e
    exact h.get e
def cutD (xs : List D) (lo hi : Option Int) : List D := (xs.drop (HT.sIx xs.length 0 lo)).take (HT.sIx xs.length xs.length hi - HT.sIx xs.length 0 lo)
theorem cut_rps {K : PySem.W.Frag} {G : Hp} {al : List Addr} {vs : List V} {ds : List D} (h : Rps K G al vs ds) (lo hi : Option Int) : Rps K G al (cutV vs lo hi) (cutD ds lo hi) := by
  unfold cutV cutD
  rw [h.length]
  exact (h.drop _).take _
section
variable {K : PySem.W.Frag} {μ : Mu} {P : D → Mu → Prop} {i j : Int} {x y d : D} {ds es : List D}
/-! ### numbers -/
theorem ro_i {f : Int → Int → Int} (h : P (.int (f i j)) μ) : RO K (rI0 fun i j => .int (f i j)) (.int i) (.int j) μ P := fun G H al v w A r1 r2 Q hQ => by
  cases r1; cases r2
  exact ⟨i, j, rfl, rfl, hQ.now A (.int _) h⟩
theorem ro_b {f : Int → Int → Bool} (h : P (.bl (f i j)) μ) : RO K (rI0 fun i j => .bl (f i j)) (.int i) (.int j) μ P := fun G H al v w A r1 r2 Q hQ => by
  cases r1; cases r2
  exact ⟨i, j, rfl, rfl, hQ.now A (.bl _) h⟩
theorem ro_ic {C : Int → Int → Prop} {f : Int → Int → Int} (hc : C i j) (h : P (.int (f i j)) μ) : RO K (rI C fun i j => .int (f i j)) (.int i) (.int j) μ P := fun G H al v w A r1 r2 Q hQ => by
  cases r1; cases r2
  exact ⟨i, j, rfl, rfl, hc, hQ.now A (.int _) h⟩
theorem ro_ip {f : Int → Int → Int} (h : P (.int (f i j)) μ) : RO K (ipI f) (.int i) (.int j) μ P := fun G H al v w A r1 r2 Q hQ => by
  cases r1; cases r2
  exact ⟨i, j, rfl, rfl, hQ.now A (.int _) h⟩
theorem ro_add (h : P (.int (i + j)) μ) : RO K rAdd (.int i) (.int j) μ P := fun G H al v w A r1 r2 Q hQ => by
  cases r1; cases r2
  exact ⟨i, j, rfl, rfl, hQ.now A (.int _) h⟩
theorem ru_i {f : Int → Int} (h : P (.int (f i)) μ) : RU K (rU fun i => .int (f i)) (.int i) μ P := fun G H al v A r1 Q hQ => by
  cases r1
  exact ⟨i, rfl, hQ.now A (.int _) h⟩
theorem rc_max2 (h : P (.int (max i j)) μ) : RC K (fun xs H Q => ∃ i j, xs = [.int i, .int j] ∧ Q (.int (if j > i then j else i)) H) [.int i, .int j] μ P := fun G H al vs A r Q hQ => by
  obtain ⟨v, w, rfl, r1, r2⟩ := rps2 r
  cases r1; cases r2
  refine ⟨i, j, rfl, ?_⟩
  have e : (if j > i then j else i) = max i j := by rw [Int.max_def]; split <;> split <;> omega
  rw [e]
  exact hQ.now A (.int _) h
theorem rc_min2 (h : P (.int (min i j)) μ) : RC K (fun xs H Q => ∃ i j, xs = [.int i, .int j] ∧ Q (.int (if j < i then j else i)) H) [.int i, .int j] μ P := fun G H al vs A r Q hQ => by
  obtain ⟨v, w, rfl, r1, r2⟩ := rps2 r
  cases r1; cases r2
  refine ⟨i, j, rfl, ?_⟩
  have e : (if j < i then j else i) = min i j := by rw [Int.min_def]; split <;> split <;> omega
  rw [e]
  exact hQ.now A (.int _) h
/-! ### lengths, items, slices, joins -/
theorem rc_len (hl : Ls μ x ds) (h : P (.int (ds.length : Int)) μ) : RC K (fun xs H Q => ∃ x n, xs = [x] ∧ LenV K x H n ∧ Q (.int (n : Nat)) H) [x] μ P := fun G H al vs A r Q hQ => by
  obtain ⟨v, rfl, r1⟩ := rps1 r
  obtain ⟨a, ws, rfl, s, rs⟩ := hl.get A r1
  exact ⟨.ref a, ds.length, rfl, .inl ⟨ws, s, rs.length.symm⟩, hQ.now A (.int _) h⟩
theorem rc_lenT (hl : Ts x ds) (h : P (.int (ds.length : Int)) μ) : RC K (fun xs H Q => ∃ x n, xs = [x] ∧ LenV K x H n ∧ Q (.int (n : Nat)) H) [x] μ P := fun G H al vs A r Q hQ => by
  obtain ⟨v, rfl, r1⟩ := rps1 r
  obtain ⟨a, ws, rfl, s, rs⟩ := hl.get A r1
  exact ⟨.ref a, ds.length, rfl, .inr ⟨ws, s, rs.length.symm⟩, hQ.now A (.int _) h⟩
theorem rc_lenS {s : Str} (hs : s.length ≤ 100000) (h : P (.int (s.length : Int)) μ) : RC K (fun xs H Q => ∃ x n, xs = [x] ∧ LenV K x H n ∧ Q (.int (n : Nat)) H) [.str s] μ P := fun G H al vs A r Q hQ => by
  obtain ⟨v, rfl, r1⟩ := rps1 r
  cases r1
  exact ⟨.str s, s.length, rfl, ⟨Nat.le_trans hs (by decide), rfl⟩, hQ.now A (.int _) h⟩
theorem ro_ixL (hl : Ls μ x ds) (e : atI ds i = some d) (h : P d μ) : RO K (rIx K) x (.int i) μ P := fun G H al v w A r1 r2 Q hQ => by
  cases r2
  obtain ⟨a, ws, rfl, s, rs⟩ := hl.get A r1
  obtain ⟨z, ez, rz⟩ := atI_rps rs e
  exact .inl ⟨a, ws, i, z, rfl, rfl, s, ez, hQ.now A rz h⟩
theorem ro_ixT (hl : Ts x ds) (e : atI ds i = some d) (h : P d μ) : RO K (rIx K) x (.int i) μ P := fun G H al v w A r1 r2 Q hQ => by
  cases r2
  obtain ⟨a, ws, rfl, s, rs⟩ := hl.get A r1
  obtain ⟨z, ez, rz⟩ := atI_rps rs e
  exact .inr (.inl ⟨a, ws, i, z, rfl, rfl, s, ez, hQ.now A rz h⟩)
theorem ro_ixS {s : Str} {c : Nat} (hs : s.length ≤ 100000) (e : atI s.cps.toList i = some c) (h : P (.str ⟨#[c]⟩) μ) : RO K (rIx K) (.str s) (.int i) μ P := fun G H al v w A r1 r2 Q hQ => by
  cases r1; cases r2
  exact .inr (.inr ⟨s, i, c, rfl, rfl, Nat.le_trans hs (by decide), e, hQ.now A (.str _) h⟩)
theorem rs_lst {lo hi : Option Int} (hl : Ls μ x ds) (h : P (.lst (cutD ds lo hi)) μ) : RS K (rSlL K) x lo hi μ P := fun G H al v A r Q hQ => by
  obtain ⟨a, ws, rfl, s, rs⟩ := hl.get A r
  refine ⟨a, ws, rfl, s, fun p hp => ?_⟩
  obtain ⟨A2, n2⟩ := A.frz (o := .lst (cutV ws lo hi)) hp
  exact hQ _ _ μ _ _ _ n2 A2 (.lst upd_same ((cut_rps rs lo hi).nx n2)) h
theorem ro_cat (h1 : Lt μ x ds) (h2 : Lt μ y es) (hs : ds.length + es.length ≤ 100000) (h : P (.lst (ds ++ es)) μ) : RO K rCat x y μ P := fun G H al v w A r1 r2 Q hQ => by
  obtain ⟨a, ws, rfl, s1, rs1⟩ := h1.get A r1
  obtain ⟨b, us, rfl, s2, rs2⟩ := h2.get A r2
  refine ⟨a, b, ws, us, rfl, rfl, s1, s2, by rw [rs1.length, rs2.length]; exact Nat.le_trans hs (by decide), fun p hp => ?_⟩
  obtain ⟨A2, n2⟩ := A.frz (o := .lst (ws ++ us)) hp
  exact hQ _ _ μ _ _ _ n2 A2 (.lst upd_same ((rs1.append rs2).nx n2)) h
theorem ro_catO (h1 : Lt μ x ds) (h2 : Lt μ y es) (hs : ds.length + es.length ≤ 100000) (h : P (.own μ.length) (μ ++ [.lst (ds ++ es)])) : RO K rCat x y μ P := fun G H al v w A r1 r2 Q hQ => by
  obtain ⟨a, ws, rfl, s1, rs1⟩ := h1.get A r1
  obtain ⟨b, us, rfl, s2, rs2⟩ := h2.get A r2
  refine ⟨a, b, ws, us, rfl, rfl, s1, s2, by rw [rs1.length, rs2.length]; exact Nat.le_trans hs (by decide), fun p hp => ?_⟩
  obtain ⟨A2, n2⟩ := A.own (o := .lst (ws ++ us)) (m := .lst (ds ++ es)) hp ⟨A.sub.free hp, _, upd_same, (rs1.append rs2).mono (Same.refl _) ⟨[p], rfl⟩⟩
  exact hQ _ _ _ _ _ _ n2 A2 (.own (by rw [← A.len]; simp)) h
theorem ro_catT (h1 : Ts x ds) (h2 : Ts y es) (hne : ds ≠ []) (hes : es ≠ []) (hs : ds.length + es.length ≤ 100000) (h : P (.tup (ds ++ es)) μ) : RO K (rCatT K) x y μ P := fun G H al v w A r1 r2 Q hQ => by
  obtain ⟨a, ws, rfl, s1, rs1⟩ := h1.get A r1
  obtain ⟨b, us, rfl, s2, rs2⟩ := h2.get A r2
  have hw : ws ≠ [] := fun z => by
    subst z
    have := rs1.length
    cases ds with
    | nil => exact hne rfl
    | cons _ _ => simp at this
  have hu : us ≠ [] := fun z => by
    subst z
    have := rs2.length
    cases es with
    | nil => exact hes rfl
    | cons _ _ => simp at this
  refine ⟨a, b, ws, us, rfl, rfl, s1, s2, hw, by rw [rs1.length, rs2.length]; exact Nat.le_trans hs (by decide), ?_⟩
  refine ⟨fun z => absurd z hu, fun _ p hp => ?_⟩
  obtain ⟨A2, n2⟩ := A.frz (o := .tup (ws ++ us)) hp
  exact hQ _ _ μ _ _ _ n2 A2 (.tup upd_same ((rs1.append rs2).nx n2)) h
/-! ### lists that change -/
theorem ty_list (hl : Ls μ x ds) : ∀ G H al v, As K G H al μ → Rp K G al v x → tyV K "list" v H := fun G H al v A r => by
  obtain ⟨a, ws, rfl, s, rs⟩ := hl.get A r
  exact .inl ⟨rfl, ws, s⟩
theorem rm_app {k : Nat} (hk : μ[k]? = some (.lst ds)) (hs : ds.length < 100000) (h : P .non (μ.set k (.lst (ds ++ [d])))) : RM K rAppend (.own k) [d] μ P := fun G H al v vs A r rs Q hQ => by
  obtain ⟨a, ha, ga, ws, hv, rw'⟩ := A.get hk
  obtain ⟨u, rfl, ru⟩ := rps1 rs
  cases r with
  | own e =>
    rw [ha] at e; cases e
    refine ⟨a, ws, u, rfl, rfl, hv, by rw [rw'.length]; exact Nat.lt_of_lt_of_le hs (by decide), ?_⟩
    obtain ⟨A2, n2⟩ := A.put (o := .lst (ws ++ [u])) (m' := .lst (ds ++ [d])) ha hk (by simp) ⟨ga, _, upd_same, rw'.append (.cons ru .nil)⟩
    exact hQ _ _ _ _ _ _ n2 A2 .non h
theorem rm_clear {k : Nat} (hk : μ[k]? = some (.lst ds)) (h : P .non (μ.set k (.lst []))) : RM K rClear (.own k) [] μ P := fun G H al v vs A r rs Q hQ => by
  obtain ⟨a, ha, ga, ws, hv, rw'⟩ := A.get hk
  have := rps_nil rs
  subst this
  cases r with
  | own e =>
    rw [ha] at e; cases e
    obtain ⟨A2, n2⟩ := A.put (o := .lst []) (m' := .lst []) ha hk (by simp) ⟨ga, _, upd_same, .nil⟩
    exact ⟨a, ws, rfl, rfl, hv, hQ _ _ _ _ _ _ n2 A2 .non h⟩
theorem rm_reverse {k : Nat} (hk : μ[k]? = some (.lst ds)) (h : P .non (μ.set k (.lst ds.reverse))) : RM K rReverse (.own k) [] μ P := fun G H al v vs A r rs Q hQ => by
  obtain ⟨a, ha, ga, ws, hv, rw'⟩ := A.get hk
  have := rps_nil rs
  subst this
  cases r with
  | own e =>
    rw [ha] at e; cases e
    obtain ⟨A2, n2⟩ := A.put (o := .lst ws.reverse) (m' := .lst ds.reverse) ha hk (by simp) ⟨ga, _, upd_same, rw'.reverse⟩
    exact ⟨a, ws, rfl, rfl, hv, hQ _ _ _ _ _ _ n2 A2 .non h⟩
theorem rset_lst {k j : Nat} {PM : Mu → Prop} (hk : μ[k]? = some (.lst ds)) (hj : ixN ds.length i = some j) (h : PM (μ.set k (.lst (ds.set j d)))) : RSet K rSetL (.own k) (.int i) d μ PM := fun G H al v w u A r1 r2 r3 Q hQ => by
  obtain ⟨a, ha, ga, ws, hv, rw'⟩ := A.get hk
  cases r2
  cases r1 with
  | own e =>
    rw [ha] at e; cases e
    obtain ⟨A2, n2⟩ := A.put (o := .lst (ws.set j u)) (m' := .lst (ds.set j d)) ha hk (by simp) ⟨ga, _, upd_same, rw'.set j r3⟩
    exact ⟨a, ws, i, j, rfl, rfl, hv, by rw [rw'.length]; exact hj, hQ _ _ _ _ n2 A2 h⟩
/-! ### sums, all, any -/
theorem rc_sum {ns : List Int} (hl : Ls μ x (ns.map D.int)) (h : P (.int ns.sum) μ) : RC K (rSum K) [x] μ P := fun G H al vs A r Q hQ => by
  obtain ⟨v, rfl, r1⟩ := rps1 r
  obtain ⟨a, ws, rfl, s, rs⟩ := hl.get A r1
  have e := rs.ints
  subst e
  exact ⟨a, ns, rfl, s, hQ.now A (.int _) h⟩
theorem rc_all {bs : List Bool} (hl : Ls μ x (bs.map D.bl)) (h : P (.bl (bs.all id)) μ) : RC K (rAll K) [x] μ P := fun G H al vs A r Q hQ => by
  obtain ⟨v, rfl, r1⟩ := rps1 r
  obtain ⟨a, ws, rfl, s, rs⟩ := hl.get A r1
  have e := rs.bools
  subst e
  exact ⟨a, bs, rfl, s, hQ.now A (.bl _) h⟩
theorem rc_max {ns : List Int} (hl : Ls μ x (ns.map D.int)) (hn : 0 < ns.length) (h : ∀ m, m ∈ ns → (∀ y, y ∈ ns → y ≤ m) → P (.int m) μ) : RC K (rMax K) [x] μ P := fun G H al vs A r Q hQ => by
  obtain ⟨v, rfl, r1⟩ := rps1 r
  obtain ⟨a, ws, rfl, s, rs⟩ := hl.get A r1
  have e := rs.ints
  subst e
  exact ⟨a, ns, rfl, s, hn, fun m h1 h2 => hQ.now A (.int _) (h m h1 h2)⟩
end
/-! ### isinstance -/
/-- a built-in type's name -/
def tyD (μ : Mu) : D → Option String
  | .non => some "NoneType"
  | .bl _ => some "bool"
  | .int _ => some "int"
  | .str _ => some "str"
  | .tup _ => some "tuple"
  | .lst _ => some "list"
  | .rdl _ => some "list"
  | .rdt _ => some "tuple"
  | .dct _ => some "dict"
  | .own k => match μ[k]? with
    | some (.lst _) => some "list"
    | some (.dK _) => some "dict"
    | some (.dT _) => some "dict"
    | _ => none
  | _ => none
/-- what isinstance asks of an own class -/
structure ObT (K : PySem.W.Frag) (C : Addr) : Prop where
  cl : Cls K C
  ha : PySem.W.findIn K (.ref C) "__class__" = some (some (.builtin "object.__class__"))
  hn : PySem.W.specialIn K (.builtin "object.__class__") "__get__" = some (some (.builtin "getset_descriptor.__get__"))
  htk : PySem.W.takesIn K (.builtin "object.__class__") = some true
  hm : PySem.W.mroIn K C (.type "object") = some true
/-- the type of a datum as the deciders take it -/
inductive TyDV (K : PySem.W.Frag) (μ : Mu) : D → Value → Prop
  | ty {d : D} {n : String} (h : tyD μ d = some n) : TyDV K μ d (.type n)
  | obj {C : Addr} {gs : List (Str × D)} (o : ObT K C) : TyDV K μ (.obj C gs) (.ref C)
  | own {C : Addr} {gs : List (Str × D)} {k : Nat} (h : μ[k]? = some (.ins C gs)) (o : ObT K C) : TyDV K μ (.own k) (.ref C)
inductive ClD : D → Value → Prop
  | ty (n : String) : ClD (.ty n) (.type n)
  | loc (C : Addr) : ClD (.loc C) (.ref C)
theorem TyDV.tyx {K : PySem.W.Frag} {G H : Hp} {al : List Addr} {μ : Mu} {v : V} {d : D} {t : Value} (h : TyDV K μ d t) (A : As K G H al μ) (r : Rp K G al v d) : TyX K H v t := by
  cases h with
  | obj o =>
    cases r with
    | obj e rf => exact .base (.ins (A.sub _ _ e) o.cl o.ha o.hn o.htk o.hm)
  | own hk o =>
    obtain ⟨a, ha, ga, dx, fs, hv, rf⟩ := A.get hk
    cases r with
    | own e => rw [ha] at e; cases e; exact .base (.ins hv o.cl o.ha o.hn o.htk o.hm)
  | ty ht =>
    cases r with
    | non => cases ht; exact .base .non
    | bl b => cases ht; exact .base (.bl b)
    | int i => cases ht; exact .base (.int i)
    | str x => cases ht; exact .base (.str x)
    | ty n => cases ht
    | tup e rs => cases ht; exact .base (.tup (A.sub _ _ e))
    | lst e rs => cases ht; exact .base (.lst (A.sub _ _ e))
    | rdl e rs =>
      cases ht
      rcases e with (e | ⟨o, e⟩) | ⟨o, its, n, hk, hc, hd, hs, hz, _⟩
      · exact .base (.lst (A.sub _ _ e))
      · exact .base (.frz (A.sub _ _ e))
      · exact .kList hk hc
    | rdt e rs =>
      cases ht
      rcases e with (e | ⟨o, e⟩) | ⟨o, its, n, hk, hc, hs, hz, _⟩
      · exact .base (.tup (A.sub _ _ e))
      · exact .fTuple (A.sub _ _ e)
      · exact .kTuple hk hc
    | obj e rf => cases ht
    | dct e rf =>
      cases ht
      rcases e with e | ⟨o, e⟩
      · exact .base (.dK (A.sub _ _ e))
      · exact .fDict (A.sub _ _ e)
    | own e =>
      rename_i a k
      simp only [tyD] at ht
      cases hk : μ[k]? with
      | none => rw [hk] at ht; cases ht
      | some m =>
        rw [hk] at ht
        obtain ⟨a', ha, ok⟩ := A.get hk
        rw [ha] at e; cases e
        cases m with
        | lst ds => cases ht; obtain ⟨ga, vs, hv, _⟩ := ok; exact .base (.lst hv)
        | dK ds => cases ht; obtain ⟨ga, vs, hv, _⟩ := ok; exact .base (.dK hv)
        | dT ds => cases ht; obtain ⟨ga, vs, hv, _⟩ := ok; exact .base (.dT hv)
        | dead => cases ht
        | ins _ _ => cases ht
        | tab _ _ => cases ht
    | loc a => cases ht
    | exc _ _ _ => cases ht
section
variable {K : PySem.W.Frag} {μ : Mu} {P : D → Mu → Prop} {x c : D}
theorem rc_isi {t u : Value} {b : Bool} (ht : TyDV K μ x t) (hc : ClD c u) (hk : PySem.W.kitOne K t u = some b) (h : P (.bl b) μ) : RC K (rIsi K) [x, c] μ P := fun G H al vs A r Q hQ => by
  obtain ⟨v, w, rfl, r1, r2⟩ := rps2 r
  have tx := ht.tyx A r1
  cases hc with
  | ty n => cases r2; exact ⟨v, _, t, _, b, rfl, .ty n, tx, hk, hQ.now A (.bl b) h⟩
  | loc C => cases r2; exact ⟨v, _, t, _, b, rfl, .own C, tx, hk, hQ.now A (.bl b) h⟩
theorem rc_isiB {n m : String} {b : Bool} (ht : tyD μ x = some n) (hk : kitB n m = some b) (h : P (.bl b) μ) : RC K (rIsi K) [x, .ty m] μ P := rc_isi (.ty ht) (.ty m) (kit_ty hk) h
end
/-! ### == of data -/
mutual
def D.py : D → PyData
  | .non => .none
  | .bl b => .bool b
  | .int i => .int i
  | .str x => .str x
  | .ty _ => .none
  | .tup xs => .tuple (pyL xs)
  | .lst xs => .list (pyL xs)
  | .rdl xs => .list (pyL xs)
  | .rdt xs => .tuple (pyL xs)
  | .obj _ _ => .none
  | .dct _ => .none
  | .own _ => .none
  | .loc _ => .none
  | .exc _ _ => .none
def pyL : List D → List PyData
  | [] => []
  | x :: xs => D.py x :: pyL xs
end
mutual
/-- data that == goes through: how deep -/
def D.shp : D → Nat → Bool
  | .non, _ => true
  | .bl _, _ => true
  | .int _, _ => true
  | .str x, _ => PyData.strOk x
  | .tup xs, n => decide (0 < n) && shpL xs (n - 1)
  | .lst xs, n => decide (0 < n) && shpL xs (n - 1)
  | .rdl xs, n => decide (0 < n) && shpL xs (n - 1)
  | .rdt xs, n => decide (0 < n) && shpL xs (n - 1)
  | .ty _, _ => false
  | .obj _ _, _ => false
  | .dct _, _ => false
  | .own _, _ => false
  | .loc _, _ => false
  | .exc _ _, _ => false
def shpL : List D → Nat → Bool
  | [], _ => true
  | x :: xs, n => D.shp x n && shpL xs n
end
section
variable {K : PySem.W.Frag} {G H : Hp} {al : List Addr}
mutual
theorem dp_of (s : Same G H) : ∀ {d : D} {n : Nat} {v : V}, d.shp n = true → Rp K G al v d → Dp K H v d.py
  | .non, _, _, _, .non => by unfold D.py; exact .non
  | .bl _, _, _, _, .bl b => by unfold D.py; exact .bl b
  | .int _, _, _, _, .int i => by unfold D.py; exact .int i
  | .str _, _, _, _, .str x => by unfold D.py; exact .str x
  | .tup xs, n, _, h, .tup e r => by
    unfold D.py; unfold D.shp at h; simp at h
    exact .tup (.inl (.inl (s _ _ e))) (dpAll_of s h.2 r)
  | .lst xs, n, _, h, .lst e r => by
    unfold D.py; unfold D.shp at h; simp at h
    exact .lst (.inl (.inl (s _ _ e))) (dpAll_of s h.2 r)
  | .rdl xs, n, _, h, .rdl e r => by
    unfold D.py; unfold D.shp at h; simp at h
    exact .lst (sql_mono s e) (dpAll_of s h.2 r)
  | .rdt xs, n, _, h, .rdt e r => by
    unfold D.py; unfold D.shp at h; simp at h
    exact .tup (sqt_mono s e) (dpAll_of s h.2 r)
  | .ty _, _, _, h, _ => by unfold D.shp at h; cases h
  | .obj _ _, _, _, h, _ => by unfold D.shp at h; cases h
  | .dct _, _, _, h, _ => by unfold D.shp at h; cases h
  | .own _, _, _, h, _ => by unfold D.shp at h; cases h
  | .loc _, _, _, h, _ => by unfold D.shp at h; cases h
  | .exc _ _, _, _, h, _ => by unfold D.shp at h; cases h
theorem dpAll_of (s : Same G H) : ∀ {ds : List D} {n : Nat} {vs : List V}, shpL ds n = true → Rps K G al vs ds → DpAll K H vs (pyL ds)
  | [], _, _, _, .nil => by unfold pyL; exact .nil
  | d :: ds, n, _, h, .cons r t => by
    unfold pyL; unfold shpL at h; simp at h
    exact .cons (dp_of s h.1 r) (dpAll_of s h.2 t)
end
end
mutual
theorem can_of : ∀ {d : D} {n : Nat}, d.shp n = true → d.py.canLay0 = true ∧ d.py.depth ≤ n
  | .non, n, _ => by simp [D.py, PyData.canLay0, PyData.depth]
  | .bl _, n, _ => by simp [D.py, PyData.canLay0, PyData.depth]
  | .int _, n, _ => by simp [D.py, PyData.canLay0, PyData.depth]
  | .str x, n, h => by
    unfold D.shp at h
    simp [D.py, PyData.canLay0, PyData.depth, h]
  | .tup xs, n, h => by
    unfold D.shp at h; simp at h
    have q := canL_of h.2
    simp [D.py, PyData.canLay0, PyData.depth, q.1]
    omega
  | .lst xs, n, h => by
    unfold D.shp at h; simp at h
    have q := canL_of h.2
    simp [D.py, PyData.canLay0, PyData.depth, q.1]
    omega
  | .rdl xs, n, h => by
    unfold D.shp at h; simp at h
    have q := canL_of h.2
    simp [D.py, PyData.canLay0, PyData.depth, q.1]
    omega
  | .rdt xs, n, h => by
    unfold D.shp at h; simp at h
    have q := canL_of h.2
    simp [D.py, PyData.canLay0, PyData.depth, q.1]
    omega
  | .ty _, _, h => by unfold D.shp at h; cases h
  | .obj _ _, _, h => by unfold D.shp at h; cases h
  | .dct _, _, h => by unfold D.shp at h; cases h
  | .own _, _, h => by unfold D.shp at h; cases h
  | .loc _, _, h => by unfold D.shp at h; cases h
  | .exc _ _, _, h => by unfold D.shp at h; cases h
theorem canL_of : ∀ {ds : List D} {n : Nat}, shpL ds n = true → PyData.canLayAll0 (pyL ds) = true ∧ PyData.depthAll (pyL ds) ≤ n
  | [], n, _ => by simp [pyL, PyData.canLayAll0, PyData.depthAll]
  | d :: ds, n, h => by
    unfold shpL at h; simp at h
    have q1 := can_of h.1
    have q2 := canL_of h.2
    simp [pyL, PyData.canLayAll0, PyData.depthAll, q1.1, q2.1]
    have := q1.2; have := q2.2; omega
end
theorem shaped_of {d : D} {n : Nat} (hn : n ≤ 64) (h : d.shp n = true) : SeqAt.shaped d.py = true := by
  have q := can_of h
  unfold SeqAt.shaped
  simp [q.1]
  omega
theorem beq_dec {α : Type} [BEq α] [LawfulBEq α] [DecidableEq α] (a b : α) : (a == b) = decide (a = b) := by
  rw [Bool.eq_iff_iff, beq_iff_eq, decide_eq_true_eq]
/-- what == says of two data -/
def eqvD (x y : D) : Bool := PyData.eqv x.py y.py
def eqvL (xs ys : List D) : Bool := PyData.eqvAll (pyL xs) (pyL ys)
@[simp] theorem eqvD_int (i j : Int) : eqvD (.int i) (.int j) = decide (i = j) := by
  simp only [eqvD, D.py, PyData.eqv]
  exact beq_dec i j
@[simp] theorem eqvD_bl (i j : Bool) : eqvD (.bl i) (.bl j) = decide (i = j) := by
  simp only [eqvD, D.py, PyData.eqv]
  exact beq_dec i j
@[simp] theorem eqvD_str (i j : Str) : eqvD (.str i) (.str j) = decide (i = j) := by
  simp only [eqvD, D.py, PyData.eqv]
  exact beq_dec i j
@[simp] theorem eqvD_tup (xs ys : List D) : eqvD (.tup xs) (.tup ys) = eqvL xs ys := by simp only [eqvD, eqvL, D.py, PyData.eqv]
@[simp] theorem eqvD_lst (xs ys : List D) : eqvD (.lst xs) (.lst ys) = eqvL xs ys := by simp only [eqvD, eqvL, D.py, PyData.eqv]
@[simp] theorem eqvD_rdl (xs ys : List D) : eqvD (.rdl xs) (.lst ys) = eqvL xs ys := by simp only [eqvD, eqvL, D.py, PyData.eqv]
@[simp] theorem eqvL_nil : eqvL [] [] = true := by simp only [eqvL, pyL, PyData.eqvAll]
@[simp] theorem eqvL_cons (x y : D) (xs ys : List D) : eqvL (x :: xs) (y :: ys) = (eqvD x y && eqvL xs ys) := by simp only [eqvL, eqvD, pyL, PyData.eqvAll]
@[simp] theorem eqvL_nc (y : D) (ys : List D) : eqvL [] (y :: ys) = false := by simp only [eqvL, pyL, PyData.eqvAll]
@[simp] theorem eqvL_cn (y : D) (ys : List D) : eqvL (y :: ys) [] = false := by simp only [eqvL, pyL, PyData.eqvAll]
@[simp] theorem eqvD_nn : eqvD .non .non = true := by simp only [eqvD, D.py, PyData.eqv]
theorem eqvD_refl {d : D} {n : Nat} (h : d.shp n = true) : eqvD d d = true := SeqAt.eqv_refl _ (can_of h).1
theorem shpL_map {α : Type} {f : α → D} {n : Nat} {xs : List α} (h : ∀ x ∈ xs, (f x).shp n = true) : shpL (xs.map f) n = true := by
  induction xs with
  | nil => simp [shpL]
  | cons x xs ih =>
    simp [shpL, h x (by simp)]
    exact ih fun y hy => h y (by simp [hy])
/-- one that may still change is looked at as it is now -/
inductive Fz (μ : Mu) : D → D → Prop
  | id (d : D) : Fz μ d d
  | own {k : Nat} {ds : List D} (h : μ[k]? = some (.lst ds)) : Fz μ (.own k) (.lst ds)
theorem Fz.dp {K : PySem.W.Frag} {G H : Hp} {al : List Addr} {μ : Mu} {v : V} {x d : D} {n : Nat} (h : Fz μ x d) (A : As K G H al μ) (hs : d.shp n = true) (r : Rp K G al v x) : Dp K H v d.py := by
  cases h with
  | id => exact dp_of A.sub hs r
  | own hk =>
    obtain ⟨a, ha, ga, ws, hv, rw'⟩ := A.get hk
    cases r with
    | own e =>
      rw [ha] at e; cases e
      unfold D.py; unfold D.shp at hs; simp at hs
      exact .lst (.inl (.inl hv)) (dpAll_of A.sub hs.2 rw')
section
variable {K : PySem.W.Frag} {μ : Mu} {P : D → Mu → Prop} {x y d e : D}
theorem ro_eqD {n m : Nat} (hx : Fz μ x d) (hy : Fz μ y e) (h1 : d.shp n = true) (h2 : e.shp m = true) (h : P (.bl (eqvD d e)) μ) (hn : n ≤ 64 := by decide) (hm : m ≤ 64 := by decide) : RO K (rEqD K) x y μ P := fun G H al v w A r1 r2 Q hQ =>
  ⟨d.py, e.py, hx.dp A h1 r1, hy.dp A h2 r2, shaped_of hn h1, shaped_of hm h2, hQ.now A (.bl _) h⟩
theorem ro_neD {n m : Nat} (hx : Fz μ x d) (hy : Fz μ y e) (h1 : d.shp n = true) (h2 : e.shp m = true) (h : P (.bl (!eqvD d e)) μ) (hn : n ≤ 64 := by decide) (hm : m ≤ 64 := by decide) : RO K (rNeD K) x y μ P := fun G H al v w A r1 r2 Q hQ =>
  ⟨d.py, e.py, hx.dp A h1 r1, hy.dp A h2 r2, shaped_of hn h1, shaped_of hm h2, hQ.now A (.bl _) h⟩
theorem ro_eqI {i j : Int} (h : P (.bl (decide (i = j))) μ) : RO K (rEqD K) (.int i) (.int j) μ P := ro_eqD (n := 0) (m := 0) (.id _) (.id _) rfl rfl (by rw [eqvD_int]; exact h)
theorem ro_neI {i j : Int} (h : P (.bl (!decide (i = j))) μ) : RO K (rNeD K) (.int i) (.int j) μ P := ro_neD (n := 0) (m := 0) (.id _) (.id _) rfl rfl (by rw [eqvD_int]; exact h)
theorem ro_eqB {i j : Bool} (h : P (.bl (decide (i = j))) μ) : RO K (rEqD K) (.bl i) (.bl j) μ P := ro_eqD (n := 0) (m := 0) (.id _) (.id _) rfl rfl (by rw [eqvD_bl]; exact h)
theorem ro_neB {i j : Bool} (h : P (.bl (!decide (i = j))) μ) : RO K (rNeD K) (.bl i) (.bl j) μ P := ro_neD (n := 0) (m := 0) (.id _) (.id _) rfl rfl (by rw [eqvD_bl]; exact h)
end
end Dl
set_option Elab.async false
set_option linter.all false
set_option maxRecDepth 100000
namespace Dl
open PySem L2
/-! ### what is walked -/
/-- J walks ds, as long as S holds of what may change -/
def ItOk (K : PySem.W.Frag) (J : It) (ds : List D) (S : Mu → Prop) (G H : Hp) (al : List Addr) : Prop := ∀ G2 H2 al2 μ2, Nx G H al G2 H2 al2 → As K G2 H2 al2 μ2 → S μ2 →
  (∀ i, i < ds.length → J.go i H2) ∧ (∀ i, ds.length ≤ i → J.stop i H2) ∧ ∀ i x H3, J.yld i H2 x H3 → ∀ d, ds[i]? = some d → ∃ G3, Nx G2 H2 al2 G3 H3 al2 ∧ As K G3 H3 al2 μ2 ∧ Rp K G3 al2 x d
def DI (K : PySem.W.Frag) (B : Bs) (wi : TI) (ρ : En) (μ : Mu) (P : List D → (Mu → Prop) → Mu → Prop) : Prop := ∀ σ G H al, B.le G H al → RpS K G al σ ρ → As K G H al μ → ∀ R : It → Hp → Prop,
  (∀ J ds S μ' G' H' al', Nx G H al G' H' al' → As K G' H' al' μ' → ItOk K J ds S G' H' al' → P ds S μ' → R J H') → wi σ H R
section
variable {K : PySem.W.Frag} {B : Bs} {ρ : En} {μ : Mu} {te : TE} {ts : TA} {PI' : List D → (Mu → Prop) → Mu → Prop}
theorem itl_ok {G H : Hp} {al : List Addr} {a : Addr} {ds : List D} {S : Mu → Prop} (h : ∀ G2 H2 al2 μ2, Nx G H al G2 H2 al2 → As K G2 H2 al2 μ2 → S μ2 → ∃ vs, SqL K H2 a vs ∧ Rps K G2 al2 vs ds) : ItOk K (Itl K a) ds S G H al := fun G2 H2 al2 μ2 n A s => by
  obtain ⟨vs, sq, r⟩ := h G2 H2 al2 μ2 n A s
  refine ⟨fun i hi => ⟨vs, vs[i]'(by rw [r.length]; exact hi), sq, by simp⟩, fun i hi => ⟨vs, sq, by rw [r.length]; exact hi⟩, fun i x H3 y d hd => ?_⟩
  obtain ⟨rfl, y⟩ := y
  obtain ⟨d', hd', r'⟩ := r.getV (y vs sq)
  rw [hd] at hd'; cases hd'
  exact ⟨G2, .refl, A, r'⟩
/-- lo, lo + 1, .. -/
def rangeD (lo : Int) (n : Nat) : List D := (List.range n).map fun (i : Nat) => D.int (lo + (i : Int))
theorem rangeD_length (lo : Int) (n : Nat) : (rangeD lo n).length = n := by simp [rangeD]
theorem rangeD_get {lo : Int} {n i : Nat} (h : i < n) : (rangeD lo n)[i]? = some (.int (lo + (i : Int))) := by simp [rangeD, h]
theorem rangeD_some {lo : Int} {n i : Nat} {d : D} (h : (rangeD lo n)[i]? = some d) : i < n ∧ d = .int (lo + (i : Int)) := by
  have hi : i < n := by
    have := (List.getElem?_eq_some_iff.mp h).1
    rw [rangeD_length] at this
    exact this
  rw [rangeD_get hi] at h
  exact ⟨hi, (Option.some.inj h).symm⟩
theorem itr_ok {lo : Int} {n : Nat} {G H : Hp} {al : List Addr} : ItOk K (Itr lo n) (rangeD lo n) (fun _ => True) G H al := fun G2 H2 al2 μ2 _ A _ => by
  refine ⟨fun i hi => by rw [rangeD_length] at hi; exact hi, fun i hi => by rw [rangeD_length] at hi; exact hi, fun i x H3 y d hd => ?_⟩
  obtain ⟨rfl, rfl⟩ := y
  obtain ⟨_, rfl⟩ := rangeD_some hd
  exact ⟨G2, .refl, A, .int _⟩
theorem di_range1 (h : DA K B ts ρ μ fun xs μ1 => ∃ n : Int, xs = [.int n] ∧ -(2 ^ 62) ≤ n ∧ n < 2 ^ 62 ∧ PI' (rangeD 0 n.toNat) (fun _ => True) μ1) : DI K B (iRng1 ts) ρ μ PI' := fun σ G H al hB hσ hA R hR =>
  h σ G H al hB hσ hA _ fun vs ds μ1 G1 H1 al1 n1 A1 r1 p1 => by
    obtain ⟨n, rfl, h1, h2, p⟩ := p1
    obtain ⟨v, rfl, r⟩ := rps1 r1
    cases r
    exact ⟨n, rfl, h1, h2, hR _ _ _ μ1 G1 H1 al1 n1 A1 itr_ok p⟩
theorem di_range2 (h : DA K B ts ρ μ fun xs μ1 => ∃ lo n : Int, xs = [.int lo, .int n] ∧ (-(2 ^ 62) ≤ lo ∧ lo < 2 ^ 62 ∧ -(2 ^ 62) ≤ n ∧ n < 2 ^ 62) ∧ PI' (rangeD lo (n - lo).toNat) (fun _ => True) μ1) : DI K B (iRng2 ts) ρ μ PI' := fun σ G H al hB hσ hA R hR =>
  h σ G H al hB hσ hA _ fun vs ds μ1 G1 H1 al1 n1 A1 r1 p1 => by
    obtain ⟨lo, n, rfl, h1, p⟩ := p1
    obtain ⟨v, w, rfl, r, r'⟩ := rps2 r1
    cases r; cases r'
    exact ⟨lo, n, rfl, h1, hR _ _ _ μ1 G1 H1 al1 n1 A1 itr_ok p⟩
/-- enumerate -/
def enumD (ds : List D) : List D := ds.mapIdx fun i d => .tup [.int (i : Int), d]
theorem enumD_length (ds : List D) : (enumD ds).length = ds.length := by simp [enumD]
theorem enumD_some {ds : List D} {i : Nat} {d : D} (h : (enumD ds)[i]? = some d) : ∃ x, ds[i]? = some x ∧ d = .tup [.int (i : Int), x] := by
  simp only [enumD, List.getElem?_mapIdx] at h
  cases q : ds[i]? with
  | none => rw [q] at h; cases h
  | some x => rw [q] at h; exact ⟨x, rfl, (Option.some.inj h).symm⟩
theorem di_enum (h : DA K B ts ρ μ fun xs μ1 => ∃ x ds, xs = [x] ∧ ((x = .lst ds ∧ PI' (enumD ds) (fun _ => True) μ1) ∨ (x = .rdl ds ∧ PI' (enumD ds) (fun _ => True) μ1) ∨ ∃ k, x = .own k ∧ μ1[k]? = some (.lst ds) ∧ PI' (enumD ds) (fun μ' => μ'[k]? = some (.lst ds)) μ1)) : DI K B (iEnum K ts) ρ μ PI' := fun σ G H al hB hσ hA R hR =>
  h σ G H al hB hσ hA _ fun vs ds μ1 G1 H1 al1 n1 A1 r1 p1 => by
    obtain ⟨x, xs, rfl, p1⟩ := p1
    obtain ⟨v, rfl, r⟩ := rps1 r1
    have key : ∃ a S, v = .ref a ∧ PI' (enumD xs) S μ1 ∧ S μ1 ∧ ∀ G2 H2 al2 μ2, Nx G1 H1 al1 G2 H2 al2 → As K G2 H2 al2 μ2 → S μ2 → ∃ vs, SqL K H2 a vs ∧ Rps K G2 al2 vs xs := by
      rcases p1 with ⟨rfl, p⟩ | ⟨rfl, p⟩ | ⟨k, rfl, hk, p⟩
      · cases r with | lst e rs => exact ⟨_, _, rfl, p, trivial, fun G2 H2 al2 μ2 n2 A2 _ => ⟨_, .inl (.inl (A2.sub _ _ (n2.g _ _ e))), rs.nx n2⟩⟩
      · cases r with | rdl e rs => exact ⟨_, _, rfl, p, trivial, fun G2 H2 al2 μ2 n2 A2 _ => ⟨_, sql_mono A2.sub (sql_mono n2.g e), rs.nx n2⟩⟩
      · obtain ⟨a, ha, ga, vs, hv, rs⟩ := A1.get hk
        cases r with
        | own e =>
          rw [ha] at e; cases e
          refine ⟨_, _, rfl, p, hk, fun G2 H2 al2 μ2 n2 A2 s => ?_⟩
          obtain ⟨a2, ha2, ga2, vs2, hv2, rs2⟩ := A2.get s
          rw [n2.p.get ha] at ha2; cases ha2
          exact ⟨vs2, .inl (.inl hv2), rs2⟩
    obtain ⟨a, S, rfl, p, s1, key⟩ := key
    obtain ⟨vs1, sq1, _⟩ := key G1 H1 al1 μ1 .refl A1 s1
    refine ⟨a, vs1, rfl, sq1, hR _ _ S μ1 G1 H1 al1 n1 A1 (fun G2 H2 al2 μ2 n2 A2 s => ?_) p⟩
    obtain ⟨vs, sq, r⟩ := key G2 H2 al2 μ2 n2 A2 s
    rw [enumD_length]
    refine ⟨fun i hi => ⟨vs, vs[i]'(by rw [r.length]; exact hi), sq, by simp⟩, fun i hi => ⟨vs, sq, by rw [r.length]; exact hi⟩, fun i x H3 y d hd => ?_⟩
    obtain ⟨T, z, rfl, hT, rfl, y⟩ := y
    obtain ⟨w, hw, rfl⟩ := enumD_some hd
    obtain ⟨d', hd', r'⟩ := r.getV (y vs sq)
    rw [hw] at hd'; cases hd'
    obtain ⟨A3, n3⟩ := A2.frz (o := .tup [.int (i : Nat), z]) hT
    exact ⟨_, n3, A3, .tup upd_same (.cons (.int _) (.cons (r'.nx n3) .nil))⟩
def zipD (xs ys : List D) : List D := xs.zipWith (fun a b => .tup [a, b]) ys
theorem zipD_length (xs ys : List D) : (zipD xs ys).length = min xs.length ys.length := by simp [zipD]
theorem zipD_some {xs ys : List D} {i : Nat} {d : D} (h : (zipD xs ys)[i]? = some d) : ∃ x y, xs[i]? = some x ∧ ys[i]? = some y ∧ d = .tup [x, y] := by
  simp only [zipD, List.getElem?_zipWith] at h
  cases q : xs[i]? with
  | none => rw [q] at h; cases h
  | some x =>
    cases q2 : ys[i]? with
    | none => rw [q, q2] at h; cases h
    | some y => rw [q, q2] at h; exact ⟨x, y, rfl, rfl, (Option.some.inj h).symm⟩
/-- zip of two frozen lists -/
theorem di_zip (h : DA K B ts ρ μ fun xs μ1 => ∃ ds es, xs = [.lst ds, .lst es] ∧ PI' (zipD ds es) (fun _ => True) μ1) : DI K B (iZip K ts) ρ μ PI' := fun σ G H al hB hσ hA R hR =>
  h σ G H al hB hσ hA _ fun vs ds μ1 G1 H1 al1 n1 A1 r1 p1 => by
    obtain ⟨xs, ys, rfl, p⟩ := p1
    obtain ⟨v, w, rfl, r, r'⟩ := rps2 r1
    cases r with
    | lst e rs => cases r' with
      | lst e' rs' =>
        refine ⟨_, _, _, _, rfl, .inl (.inl (A1.sub _ _ e)), .inl (.inl (A1.sub _ _ e')), hR _ _ _ μ1 G1 H1 al1 n1 A1 (fun G2 H2 al2 μ2 n2 A2 s => ?_) p⟩
        have q1 := A2.sub _ _ (n2.g _ _ e)
        have q2 := A2.sub _ _ (n2.g _ _ e')
        have rr := rs.nx n2
        have rr' := rs'.nx n2
        rw [zipD_length]
        refine ⟨fun i hi => ⟨_, _, _, _, .inl (.inl q1), .inl (.inl q2), List.getElem?_eq_getElem (by rw [rr.length]; omega), List.getElem?_eq_getElem (by rw [rr'.length]; omega)⟩, fun i hi => ⟨_, _, .inl (.inl q1), .inl (.inl q2), by rw [rr.length, rr'.length]; omega⟩, fun i x H3 y d hd => ?_⟩
        obtain ⟨T, z, z', rfl, hT, rfl, y1, y2⟩ := y
        obtain ⟨a, b, ha, hb, rfl⟩ := zipD_some hd
        obtain ⟨d1, hd1, k1⟩ := rr.getV (y1 _ (.inl (.inl q1)))
        obtain ⟨d2, hd2, k2⟩ := rr'.getV (y2 _ (.inl (.inl q2)))
        rw [ha] at hd1; cases hd1
        rw [hb] at hd2; cases hd2
        obtain ⟨A3, n3⟩ := A2.frz (o := .tup [z, z']) hT
        exact ⟨_, n3, A3, .tup upd_same (.cons (k1.nx n3) (.cons (k2.nx n3) .nil))⟩
/-- the signs of a text -/
def signsD (x : Str) : List D := x.cps.toList.map fun c => .str ⟨#[c]⟩
/-! ### for -/
theorem ds_for {wi : TI} {g : TG} {tb : TS} {P : DEnds} (h : DI K B wi ρ μ fun ds S μ1 => ∃ Iv : Nat → En → Mu → Prop, Iv 0 ρ μ1 ∧ (∀ i ρ' μ', i ≤ ds.length → Iv i ρ' μ' → S μ') ∧
      (∀ i d ρ' μ', ds[i]? = some d → Iv i ρ' μ' → DG K B g d ρ' μ' fun ρ2 μ2 => DS K B tb ρ2 μ2 { P with nx := Iv (i + 1), ct := Iv (i + 1), bk := P.nx }) ∧ (∀ ρ' μ', Iv ds.length ρ' μ' → P.nx ρ' μ')) : DS K B (tFor wi g tb) ρ μ P := fun σ G H al hB hσ hA De hD =>
  h σ G H al hB hσ hA _ fun J ds S μ1 G1 H1 al1 n1 A1 ok p1 => by
    obtain ⟨Iv, h0, hS, hs, hd⟩ := p1
    refine ⟨fun i m σ' H' => m = ds.length - i ∧ i ≤ ds.length ∧ ∃ G' al' ρ' μ', Nx G1 H1 al1 G' H' al' ∧ RpS K G' al' σ' ρ' ∧ As K G' H' al' μ' ∧ Iv i ρ' μ', ⟨ds.length, by simp, Nat.zero_le _, G1, al1, ρ, μ1, .refl, hσ.nx n1, A1, h0⟩, ?_⟩
    rintro i m σ' H' ⟨rfl, hi, G', al', ρ', μ', n', hσ', A', iv⟩
    obtain ⟨go, stop, yld⟩ := ok G' H' al' μ' n' A' (hS i ρ' μ' hi iv)
    by_cases hlt : i < ds.length
    · refine .inr ⟨go i hlt, fun σ2 H2 => ∃ G2 al2 ρ2 μ2, Nx G1 H1 al1 G2 H2 al2 ∧ RpS K G2 al2 σ2 ρ2 ∧ As K G2 H2 al2 μ2 ∧ Iv (i + 1) ρ2 μ2, fun σ2 H2 q => ⟨ds.length - (i + 1), by omega, rfl, hlt, q⟩, fun x H3 y => ?_⟩
      obtain ⟨G3, n3, A3, r3⟩ := yld i x H3 y _ (List.getElem?_eq_getElem hlt)
      have q := hs i _ ρ' μ' (List.getElem?_eq_getElem hlt) iv σ' G3 H3 al' x (((hB.trans n1).trans n').trans n3) (hσ'.nx n3) A3 r3
      refine q _ fun σ4 ρ4 μ4 G4 H4 al4 n4 hσ4 A4 p4 => ?_
      have nn : Nx G1 H1 al1 G4 H4 al4 := (n'.trans n3).trans n4
      exact p4 σ4 G4 H4 al4 ((hB.trans n1).trans nn) hσ4 A4 _ ⟨fun σ5 ρ5 μ5 G5 H5 al5 n5 hσ5 A5 p5 => ⟨G5, al5, ρ5, μ5, nn.trans n5, hσ5, A5, p5⟩, hD.rt.nx (n1.trans nn), hD.nx.nx (n1.trans nn), fun σ5 ρ5 μ5 G5 H5 al5 n5 hσ5 A5 p5 => ⟨G5, al5, ρ5, μ5, nn.trans n5, hσ5, A5, p5⟩⟩
    · have e : i = ds.length := by omega
      subst e
      exact .inl ⟨stop _ (Nat.le_refl _), hD.nx _ _ μ' G' H' al' (n1.trans n') hσ' A' (hd ρ' μ' iv)⟩
/-! ### while -/
end
/-! ### comprehensions -/
def wipeD (ρ : En) : List Nat → En
  | [] => ρ
  | v :: vs => (wipeD ρ vs).set v none
theorem wipe_rps {K : PySem.W.Frag} {G : Hp} {al : List Addr} {σ : St} {ρ : En} (h : RpS K G al σ ρ) : ∀ vs : List Nat, RpS K G al (wipe σ vs) (wipeD ρ vs)
  | [] => h
  | v :: vs => (wipe_rps h vs).forget v none
theorem wipe_set {σ : St} {j : Nat} {x : Option V} : ∀ {vs : List Nat}, j ∈ vs → wipe (σ.set j x) vs = wipe σ vs
  | [], h => by simp at h
  | v :: vs, h => by
    by_cases hv : j ∈ vs
    · unfold wipe; rw [wipe_set hv]
    · have e : j = v := by simpa [hv] using h
      subst e
      have q : ∀ (ws : List Nat), j ∉ ws → wipe (σ.set j x) ws = (wipe σ ws).set j x := by
        intro ws
        induction ws with
        | nil => intro _; rfl
        | cons w ws ih =>
          intro hn
          simp only [List.mem_cons, not_or] at hn
          unfold wipe
          rw [ih hn.2, List.set_comm _ _ (fun z => hn.1 z)]
      unfold wipe
      rw [q vs hv, List.set_set]
theorem wipe_wipe (σ : St) : ∀ vs ws : List Nat, (∀ w ∈ ws, w ∈ vs) → wipe (wipe σ ws) vs = wipe σ vs
  | vs, [], _ => rfl
  | vs, w :: ws, h => by
    show wipe ((wipe σ ws).set w none) vs = wipe σ vs
    rw [wipe_set (h w (by simp)), wipe_wipe σ vs ws fun x hx => h x (by simp [hx])]
/-- a target that stores in vs alone -/
def GW (g : TG) (vs : List Nat) : Prop := ∀ x σ H (Q : St → Hp → Prop), g x σ H Q → g x σ H fun σ2 H2 => wipe σ2 vs = wipe σ vs ∧ Q σ2 H2
def GWs (g : TGs) (vs : List Nat) : Prop := ∀ xs σ H (Q : St → Hp → Prop), g xs σ H Q → g xs σ H fun σ2 H2 => wipe σ2 vs = wipe σ vs ∧ Q σ2 H2
theorem gw_name {i : Nat} {vs : List Nat} (h : i ∈ vs) : GW (gName i) vs := fun x σ H Q q => ⟨wipe_set h, q⟩
theorem gws_nil {vs : List Nat} : GWs gNil vs := fun xs σ H Q q => ⟨q.1, rfl, q.2⟩
theorem gws_cons {i : Nat} {gs : TGs} {vs : List Nat} (h : i ∈ vs) (h2 : GWs gs vs) : GWs (gCons (gName i) gs) vs := fun xs σ H Q q => by
  obtain ⟨v, r, e, q⟩ := q
  refine ⟨v, r, e, ?_⟩
  have z := h2 r (σ.set i (some v)) H Q q
  rw [show wipe (σ.set i (some v)) vs = wipe σ vs from wipe_set h] at z
  exact z
theorem gw_tup {K : PySem.W.Frag} {n : Nat} {gs : TGs} {vs : List Nat} (h : GWs gs vs) : GW (gTup K n gs) vs := fun x σ H Q q => by
  obtain ⟨a, xs, e, s, l, q⟩ := q
  exact ⟨a, xs, e, s, l, h xs σ H Q q⟩
section
variable {K : PySem.W.Frag} {B : Bs} {ρ : En} {μ : Mu} {te : TE} {tt : TT} {wi : TI} {g : TG} {vs : List Nat} {P : D → Mu → Prop}
/-- the list that a comprehension makes is frozen at its end -/
theorem de_lc (hg : GW g vs) (h : DI K B wi ρ μ fun ds S μ1 => ds.length ≤ 100000 ∧ ∃ Iv : Nat → List D → Mu → Prop, Iv 0 [] μ1 ∧ (∀ i acc μ', i ≤ ds.length → Iv i acc μ' → S μ') ∧
      (∀ i d acc μ', ds[i]? = some d → Iv i acc μ' → DG K B g d (wipeD ρ vs) μ' fun ρ2 μ2 => DT K B tt ρ2 μ2 fun b μ3 => (b = true → DE K B te ρ2 μ3 fun y μ4 => Iv (i + 1) (acc ++ [y]) μ4) ∧ (b = false → Iv (i + 1) acc μ3)) ∧
      (∀ acc μ', Iv ds.length acc μ' → P (.lst acc) μ')) : DE K B (tLc wi g tt te vs) ρ μ P := fun σ G H al hB hσ hA Q hQ =>
  h σ G H al hB hσ hA _ fun J ds S μ1 G1 H1 al1 n1 A1 ok p1 => by
    obtain ⟨hlen, Iv, h0, hS, hs, hd⟩ := p1
    intro Dl hDl
    have nDl : Dl ∉ al1 := fun m => A1.here Dl m hDl
    have gDl : G1 Dl = none := A1.sub.free hDl
    -- a store to the list that is made
    have store : ∀ {G' H' al' μ' ac}, Nx G1 H1 al1 G' H' al' → As K G' H' al' μ' → G' Dl = none → Dl ∉ al' → As K G' (upd H' Dl (.lst ac)) al' μ' ∧ Nx G1 H1 al1 G' (upd H' Dl (.lst ac)) al' := by
      intro G' H' al' μ' ac n A g' nal
      refine ⟨⟨fun b u e => by rw [upd_ne (ne_of_none e g')]; exact A.sub _ _ e, A.nd, A.len, fun a m => ?_, fun k a o e1 e2 => ?_⟩, ⟨n.g, n.p, fun a u h m => ?_, n.out, n.new⟩⟩
      · have z : a ≠ Dl := fun z => nal (z ▸ m)
        rw [upd_ne z]; exact A.here a m
      · have z : a ≠ Dl := fun z => nal (z ▸ List.mem_of_getElem? e1)
        exact OkO.mono (Same.refl _) (Pre.refl _) (fun _ g => g) (by rw [upd_ne z]) (A.ok k a o e1 e2)
      · rw [upd_ne (ne_of_none h hDl)]; exact n.keep a u h m
    -- Dl stays where it is through a step
    have stay : ∀ {G' H' al' G'' H'' al'' u}, Nx G' H' al' G'' H'' al'' → H' Dl = some (.lst u) → G' Dl = none → Dl ∉ al' → H'' Dl = some (.lst u) ∧ G'' Dl = none ∧ Dl ∉ al'' := by
      intro G' H' al' G'' H'' al'' u n h g' nal
      refine ⟨n.keep Dl (.lst u) h nal, n.out Dl (by rw [h]; simp) (fun vs e => by rw [h] at e; cases e) nal g', fun m => ?_⟩
      rcases n.new Dl m with z | z
      · exact nal z
      · rw [h] at z; cases z
    obtain ⟨A0, N0⟩ := store (ac := []) .refl A1 gDl nDl
    refine ⟨fun i m H' => m = ds.length - i ∧ i ≤ ds.length ∧ ∃ G' al' μ' acc vacc, Nx G1 H1 al1 G' H' al' ∧ As K G' H' al' μ' ∧ H' Dl = some (.lst vacc) ∧ Rps K G' al' vacc acc ∧ G' Dl = none ∧ Dl ∉ al' ∧ acc.length ≤ i ∧ Iv i acc μ',
      ⟨ds.length, by simp, Nat.zero_le _, G1, al1, μ1, [], [], N0, A0, upd_same, .nil, gDl, nDl, Nat.le_refl _, h0⟩, ?_⟩
    rintro i m H' ⟨rfl, hi, G', al', μ', acc, vacc, n', A', hv, rv, g', nal, hacc, iv⟩
    obtain ⟨go, stop, yld⟩ := ok G' H' al' μ' n' A' (hS i acc μ' hi iv)
    by_cases hlt : i < ds.length
    · refine .inr ⟨go i hlt, fun H2 => ∃ G2 al2 μ2 acc vacc, Nx G1 H1 al1 G2 H2 al2 ∧ As K G2 H2 al2 μ2 ∧ H2 Dl = some (.lst vacc) ∧ Rps K G2 al2 vacc acc ∧ G2 Dl = none ∧ Dl ∉ al2 ∧ acc.length ≤ i + 1 ∧ Iv (i + 1) acc μ2, fun H2 q => ⟨ds.length - (i + 1), by omega, rfl, hlt, q⟩, fun x H3 y => ?_⟩
      obtain ⟨G3, n3, A3, r3⟩ := yld i x H3 y _ (List.getElem?_eq_getElem hlt)
      obtain ⟨hv3, g3, nal3⟩ := stay n3 hv g' nal
      have nn3 := n'.trans n3
      have hw : RpS K G3 al' (wipe σ vs) (wipeD ρ vs) := wipe_rps ((hσ.nx n1).nx nn3) vs
      have q := hs i _ acc μ' (List.getElem?_eq_getElem hlt) iv (wipe σ vs) G3 H3 al' x (((hB.trans n1).trans n').trans n3) hw A3 r3
      have q2 := hg x (wipe σ vs) H3 _ (q (fun σ2 H2 => tt σ2 H2 fun b H3 => if b = true then te σ2 H3 fun y H4 => ∃ acc, H4 Dl = some (.lst acc) ∧ acc.length < sizeLine ∧ (∃ G2 al2 μ2 acc' vacc, Nx G1 H1 al1 G2 (upd H4 Dl (.lst (acc ++ [y]))) al2 ∧ As K G2 (upd H4 Dl (.lst (acc ++ [y]))) al2 μ2 ∧ (upd H4 Dl (.lst (acc ++ [y]))) Dl = some (.lst vacc) ∧ Rps K G2 al2 vacc acc' ∧ G2 Dl = none ∧ Dl ∉ al2 ∧ acc'.length ≤ i + 1 ∧ Iv (i + 1) acc' μ2)
          else (∃ G2 al2 μ2 acc' vacc, Nx G1 H1 al1 G2 H3 al2 ∧ As K G2 H3 al2 μ2 ∧ H3 Dl = some (.lst vacc) ∧ Rps K G2 al2 vacc acc' ∧ G2 Dl = none ∧ Dl ∉ al2 ∧ acc'.length ≤ i + 1 ∧ Iv (i + 1) acc' μ2)) fun σ4 ρ4 μ4 G4 H4 al4 n4 hσ4 A4 p4 => ?_)
      · rw [wipe_wipe σ vs vs fun _ h => h] at q2
        exact q2
      · obtain ⟨hv4, g4, nal4⟩ := stay n4 hv3 g3 nal3
        have nn4 := nn3.trans n4
        refine p4 σ4 G4 H4 al4 ((hB.trans n1).trans nn4) hσ4 A4 _ fun b μ5 G5 H5 al5 n5 A5 p5 => ?_
        obtain ⟨hv5, g5, nal5⟩ := stay n5 hv4 g4 nal4
        have nn5 := nn4.trans n5
        cases b with
        | false =>
          rw [if_neg (by simp)]
          exact ⟨G5, al5, μ5, acc, vacc, nn5, A5, hv5, (((rv.nx n3).nx n4).nx n5), g5, nal5, Nat.le_succ_of_le hacc, p5.2 rfl⟩
        | true =>
          rw [if_pos rfl]
          refine p5.1 rfl σ4 G5 H5 al5 ((hB.trans n1).trans nn5) (hσ4.nx n5) A5 _ fun yv y μ6 G6 H6 al6 n6 A6 r6 p6 => ?_
          obtain ⟨hv6, g6, nal6⟩ := stay n6 hv5 g5 nal5
          have rv6 := (((rv.nx n3).nx n4).nx n5).nx n6
          obtain ⟨A7, n7⟩ := store (ac := vacc ++ [yv]) (nn5.trans n6) A6 g6 nal6
          refine ⟨vacc, hv6, ?_, G6, al6, μ6, acc ++ [y], vacc ++ [yv], n7, A7, upd_same, rv6.append (.cons r6 .nil), g6, nal6, by simp; omega, p6⟩
          rw [rv6.length]
          exact Nat.lt_of_lt_of_le (Nat.lt_of_le_of_lt hacc (Nat.lt_of_lt_of_le hlt hlen)) (by decide)
    · have e : i = ds.length := by omega
      subst e
      refine .inl ⟨stop _ (Nat.le_refl _), ?_⟩
      have s1 : Same G' (upd G' Dl (.lst vacc)) := fun b u e => by rw [upd_ne (ne_of_none e g')]; exact e
      have A7 : As K (upd G' Dl (.lst vacc)) H' al' μ' := by
        refine ⟨fun b u e => ?_, A'.nd, A'.len, A'.here, fun k a o e1 e2 => ?_⟩
        · by_cases hb : b = Dl
          · subst hb; rw [upd_same] at e; rw [← e]; exact hv
          · rw [upd_ne hb] at e; exact A'.sub _ _ e
        · have z : a ≠ Dl := fun z => nal (z ▸ List.mem_of_getElem? e1)
          exact OkO.mono s1 (Pre.refl _) (fun _ g => by rw [upd_ne z]; exact g) rfl (A'.ok k a o e1 e2)
      have n7 : Nx G1 H1 al1 (upd G' Dl (.lst vacc)) H' al' := ⟨n'.g.trans s1, n'.p, n'.keep, fun a h t m g => by
        have z : a ≠ Dl := fun z => h (by rw [z]; exact hDl)
        rw [upd_ne z]; exact n'.out a h t m g, n'.new⟩
      exact hQ _ _ _ _ _ _ (n1.trans n7) A7 (.lst upd_same (rv.mono s1 (Pre.refl _))) (hd acc μ' iv)
theorem dt_yes {PT' : Bool → Mu → Prop} (h : PT' true μ) : DT K B tYes ρ μ PT' := fun σ G H al hB hσ hA Q hQ => hQ true μ G H al .refl hA h
end
end Dl
set_option Elab.async false
set_option linter.all false
set_option maxRecDepth 100000
namespace Dl
open PySem L2 PyProof.Rows
/-! ### what names no thing from the n-th on -/
mutual
def D.cl : D → Nat → Bool
  | .tup xs, n => clL xs n
  | .lst xs, n => clL xs n
  | .rdl xs, n => clL xs n
  | .rdt xs, n => clL xs n
  | .obj _ gs, n => clF gs n
  | .exc _ gs, n => clF gs n
  | .dct gs, n => clK gs n
  | .own k, n => decide (k < n)
  | .non, _ => true
  | .bl _, _ => true
  | .int _, _ => true
  | .str _, _ => true
  | .ty _, _ => true
  | .loc _, _ => true
def clL : List D → Nat → Bool
  | [], _ => true
  | x :: xs, n => D.cl x n && clL xs n
def clF : List (Str × D) → Nat → Bool
  | [], _ => true
  | (_, x) :: xs, n => D.cl x n && clF xs n
def clK : List (Key × D) → Nat → Bool
  | [], _ => true
  | (_, x) :: xs, n => D.cl x n && clK xs n
end
def MO.cl : MO → Nat → Bool
  | .dead, _ => true
  | .lst xs, n => clL xs n
  | .ins _ gs, n => clF gs n
  | .dK gs, n => clK gs n
  | .dT gs, n => clL (gs.map (·.2)) n
  | .tab _ _, _ => true
theorem clL_iff {xs : List D} {n : Nat} : clL xs n = true ↔ ∀ x ∈ xs, x.cl n = true := by
  induction xs with
  | nil => simp [clL]
  | cons x xs ih => simp [clL, ih]
theorem clL_map {α : Type} {f : α → D} {xs : List α} {n : Nat} (h : ∀ x ∈ xs, (f x).cl n = true) : clL (xs.map f) n = true := by
  rw [clL_iff]
  intro x hx
  obtain ⟨a, ha, rfl⟩ := List.mem_map.mp hx
  exact h a ha
@[simp] theorem clL_append {xs ys : List D} {n : Nat} : clL (xs ++ ys) n = (clL xs n && clL ys n) := by
  induction xs with
  | nil => simp [clL]
  | cons x xs ih => simp [clL, ih, Bool.and_assoc]
section
variable {K : PySem.W.Frag} {G : Hp} {al be : List Addr}
mutual
theorem Rp.cl : ∀ {v : V} {d : D}, Rp K G al v d → d.cl al.length = true
  | _, _, .non => by simp [D.cl]
  | _, _, .bl _ => by simp [D.cl]
  | _, _, .int _ => by simp [D.cl]
  | _, _, .str _ => by simp [D.cl]
  | _, _, .ty _ => by simp [D.cl]
  | _, _, .tup _ r => by unfold D.cl; exact Rps.cl r
  | _, _, .lst _ r => by unfold D.cl; exact Rps.cl r
  | _, _, .rdl _ r => by unfold D.cl; exact Rps.cl r
  | _, _, .rdt _ r => by unfold D.cl; exact Rps.cl r
  | _, _, .obj _ r => by unfold D.cl; exact Rpf.cl r
  | _, _, .dct _ r => by unfold D.cl; exact Rpk.cl r
  | _, _, .own h => by unfold D.cl; exact decide_eq_true (List.getElem?_eq_some_iff.mp h).1
  | _, _, .loc _ => by simp [D.cl]
  | _, _, .exc _ _ r => by unfold D.cl; exact Rpf.cl r
theorem Rps.cl : ∀ {v : List V} {d : List D}, Rps K G al v d → clL d al.length = true
  | _, _, .nil => by simp [clL]
  | _, _, .cons h r => by unfold clL; rw [Rp.cl h, Rps.cl r]; rfl
theorem Rpf.cl : ∀ {v : List (Str × V)} {d : List (Str × D)}, Rpf K G al v d → clF d al.length = true
  | _, _, .nil => by simp [clF]
  | _, _, .cons h r => by unfold clF; rw [Rp.cl h, Rpf.cl r]; rfl
theorem Rpk.cl : ∀ {v : List (Key × V)} {d : List (Key × D)}, Rpk K G al v d → clK d al.length = true
  | _, _, .nil => by simp [clK]
  | _, _, .cons h r => by unfold clK; rw [Rp.cl h, Rpk.cl r]; rfl
end
mutual
theorem Rp.shrink : ∀ {v : V} {d : D}, Rp K G (al ++ be) v d → d.cl al.length = true → Rp K G al v d
  | _, _, .non, _ => .non
  | _, _, .bl b, _ => .bl b
  | _, _, .int i, _ => .int i
  | _, _, .str x, _ => .str x
  | _, _, .ty x, _ => .ty x
  | _, _, .tup e r, h => .tup e (Rps.shrink r (by unfold D.cl at h; exact h))
  | _, _, .lst e r, h => .lst e (Rps.shrink r (by unfold D.cl at h; exact h))
  | _, _, .rdl e r, h => .rdl e (Rps.shrink r (by unfold D.cl at h; exact h))
  | _, _, .rdt e r, h => .rdt e (Rps.shrink r (by unfold D.cl at h; exact h))
  | _, _, .obj e r, h => .obj e (Rpf.shrink r (by unfold D.cl at h; exact h))
  | _, _, .dct e r, h => .dct e (Rpk.shrink r (by unfold D.cl at h; exact h))
  | _, _, .own e, h => .own (by
      unfold D.cl at h
      rw [List.getElem?_append_left (of_decide_eq_true h)] at e
      exact e)
  | _, _, .loc a, _ => .loc a
  | _, _, .exc e d r, h => .exc e d (Rpf.shrink r (by unfold D.cl at h; exact h))
theorem Rps.shrink : ∀ {v : List V} {d : List D}, Rps K G (al ++ be) v d → clL d al.length = true → Rps K G al v d
  | _, _, .nil, _ => .nil
  | _, _, .cons r t, h => by
    unfold clL at h; simp at h
    exact .cons (Rp.shrink r h.1) (Rps.shrink t h.2)
theorem Rpf.shrink : ∀ {v : List (Str × V)} {d : List (Str × D)}, Rpf K G (al ++ be) v d → clF d al.length = true → Rpf K G al v d
  | _, _, .nil, _ => .nil
  | _, _, .cons r t, h => by
    unfold clF at h; simp at h
    exact .cons (Rp.shrink r h.1) (Rpf.shrink t h.2)
theorem Rpk.shrink : ∀ {v : List (Key × V)} {d : List (Key × D)}, Rpk K G (al ++ be) v d → clK d al.length = true → Rpk K G al v d
  | _, _, .nil, _ => .nil
  | _, _, .cons r t, h => by
    unfold clK at h; simp at h
    exact .cons (Rp.shrink r h.1) (Rpk.shrink t h.2)
end
end
def MuCl (μ : Mu) (n : Nat) : Prop := ∀ o ∈ μ, o.cl n = true
section
variable {K : PySem.W.Frag} {G H : Hp} {al be : List Addr} {μ ext : Mu}
theorem As.cl (A : As K G H al μ) : MuCl μ μ.length := fun o ho => by
  obtain ⟨k, hk⟩ := List.getElem?_of_mem ho
  obtain ⟨a, ha, ok⟩ := A.get hk
  rw [← A.len]
  cases o with
  | dead => rfl
  | lst ds => obtain ⟨_, _, _, r⟩ := ok; exact r.cl
  | ins C gs => obtain ⟨_, _, _, _, r⟩ := ok; exact r.cl
  | dK gs => obtain ⟨_, _, _, r⟩ := ok; exact r.cl
  | dT gs => obtain ⟨_, _, _, _, r⟩ := ok; exact r.cl
  | tab _ _ => rfl
theorem As.shrink (A : As K G H (al ++ be) (μ ++ ext)) (hl : al.length = μ.length) (hc : MuCl μ μ.length) : As K G H al μ := by
  refine ⟨A.sub, (List.nodup_append.mp A.nd).1, hl, fun a m => A.here a (List.mem_append_left _ m), fun k a o e1 e2 => ?_⟩
  have hk : k < al.length := (List.getElem?_eq_some_iff.mp e1).1
  have ok := A.ok k a o (by rw [List.getElem?_append_left hk]; exact e1) (by rw [List.getElem?_append_left (by rw [← hl]; exact hk)]; exact e2)
  have c := hc o (List.mem_of_getElem? e2)
  rw [← hl] at c
  cases o with
  | dead => trivial
  | lst ds => obtain ⟨g, vs, e, r⟩ := ok; exact ⟨g, vs, e, r.shrink c⟩
  | ins C gs => obtain ⟨g, dx, vs, e, r⟩ := ok; exact ⟨g, dx, vs, e, r.shrink c⟩
  | dK gs => obtain ⟨g, vs, e, r⟩ := ok; exact ⟨g, vs, e, r.shrink c⟩
  | dT gs => obtain ⟨g, vs, e, q, r⟩ := ok; exact ⟨g, vs, e, q, r.shrink c⟩
  | tab _ _ => exact ok
theorem Nx.shrink {G' H' : Hp} {al' : List Addr} (n : Nx G H al G' H' (al ++ al')) : Nx G H al G' H' al := ⟨n.g, Pre.refl _, n.keep, n.out, fun a m => .inl m⟩
end
/-! ### exceptions -/
abbrev PXT := Addr → List (Str × D) → Mu → Prop
/-- the own dict of an exception, frozen -/
def XRep (K : PySem.W.Frag) (G : Hp) (al : List Addr) (dd : Option Addr) (fs : List (Str × D)) : Prop := (dd = none ∧ fs = []) ∨ ∃ d vs, dd = some d ∧ G d = some (.xd vs) ∧ Rpf K G al vs fs
def XAg (K : PySem.W.Frag) (B : Bs) (PX : PXT) (E : XK) : Prop := ∀ C fs dd μ' G' H' al', B.le G' H' al' → As K G' H' al' μ' → XRep K G' al' dd fs → PX C fs μ' → E (.ref C) dd H'
theorem XAg.nx {K : PySem.W.Frag} {B : Bs} {PX : PXT} {E : XK} {G H : Hp} {al : List Addr} (n : B.le G H al) (h : XAg K B PX E) : XAg K ⟨G, H, al⟩ PX E := fun C fs dd μ' G' H' al' n' A r p => h C fs dd μ' G' H' al' (n.trans n') A r p
theorem XAg.none {K : PySem.W.Frag} {B : Bs} {E : XK} : XAg K B (fun _ _ _ => False) E := fun _ _ _ _ _ _ _ _ _ _ p => p.elim
theorem Rpf.nx {K : PySem.W.Frag} {G H G1 H1 : Hp} {al al1 : List Addr} (n : Nx G H al G1 H1 al1) {v : List (Str × V)} {d : List (Str × D)} (h : Rpf K G al v d) : Rpf K G1 al1 v d := h.mono n.g n.p
/-! ### contracts -/
abbrev CT := List D → Mu → (D → Mu → Prop) → PXT → Prop
def spD (K : PySem.W.Frag) (C : CT) : Sp := fun vs H Q E => ∃ G al ds μ P PX, As K G H al μ ∧ Rps K G al vs ds ∧ C ds μ P PX ∧ KV K G H al P Q ∧ XAg K ⟨G, H, al⟩ PX E
/-- behind a call: the callee's own things are forgotten, but those that are handed on -/
def Ret (n : Nat) (P : D → Mu → Prop) (d : D) (μ' : Mu) : Prop := ∃ μ1 ext, μ' = μ1 ++ ext ∧ n ≤ μ1.length ∧ MuCl μ1 μ1.length ∧ d.cl μ1.length = true ∧ P d μ1
def RetX (n : Nat) (PX : PXT) : PXT := fun C fs μ' => ∃ μ1 ext, μ' = μ1 ++ ext ∧ μ1.length = n ∧ MuCl μ1 n ∧ clF fs n = true ∧ PX C fs μ1
theorem XAg.ret {K : PySem.W.Frag} {G1 H1 G2 H2 : Hp} {al1 al2 : List Addr} {PX : PXT} {E : XK} (h : XAg K ⟨G1, H1, al1⟩ PX E) (n2 : Nx G1 H1 al1 G2 H2 al2) : XAg K ⟨G2, H2, al2⟩ (RetX al1.length PX) E := by
  intro C fs dd μ' G' H' al' n A' xr ⟨μ1, ext, e, hl, hcl, hf, hp⟩
  have n' : Nx G1 H1 al1 G' H' al' := n2.trans n
  obtain ⟨be, rfl⟩ := n'.p
  subst e
  refine h C fs dd μ1 G' H' al1 n'.shrink (A'.shrink hl.symm (by rw [hl]; exact hcl)) ?_ hp
  rcases xr with ⟨h1, h2⟩ | ⟨d, vs, h1, h2, h3⟩
  · exact .inl ⟨h1, h2⟩
  · exact .inr ⟨d, vs, h1, h2, h3.shrink hf⟩
def fnE (n : Nat) (P : D → Mu → Prop) : DEnds := { nx := fun _ μ' => Ret n P .non μ', rt := Ret n P }
theorem ret_same {μ ext : Mu} {n : Nat} {P : D → Mu → Prop} {d : D} (hn : n ≤ μ.length) (hc : MuCl μ μ.length) (hd : d.cl μ.length = true) (h : P d μ) : Ret n P d (μ ++ ext) := ⟨μ, ext, rfl, hn, hc, hd, h⟩
theorem ret_same0 {μ : Mu} {n : Nat} {P : D → Mu → Prop} {d : D} (hn : n ≤ μ.length) (hc : MuCl μ μ.length) (hd : d.cl μ.length = true) (h : P d μ) : Ret n P d μ := ⟨μ, [], by simp, hn, hc, hd, h⟩
theorem retx_same0 {μ : Mu} {PX : PXT} {C : Addr} {fs : List (Str × D)} (hc : MuCl μ μ.length) (hd : clF fs μ.length = true) (h : PX C fs μ) : RetX μ.length PX C fs μ := ⟨μ, [], by simp, rfl, hc, hd, h⟩
theorem MuCl.set {μ : Mu} {n k : Nat} {o : MO} (h : MuCl μ n) (ho : o.cl n = true) : MuCl (μ.set k o) n := fun x hx => by
  rcases List.mem_or_eq_of_mem_set hx with m | e
  · exact h x m
  · subst e; exact ho
theorem MuCl.get {μ : Mu} {n k : Nat} {o : MO} (h : MuCl μ n) (e : μ[k]? = some o) : o.cl n = true := h o (List.mem_of_getElem? e)
def startD (N : List Str) (ds : List D) : En := ds.map some ++ List.replicate (N.length - ds.length) none
theorem start_rp {K : PySem.W.Frag} {G : Hp} {al : List Addr} {N : List Str} {vs : List V} {ds : List D} (h : Rps K G al vs ds) : RpS K G al (L2.start N vs) (startD N ds) := by
  have hl := h.length
  refine ⟨by simp [L2.start, startD, hl], fun i d e => ?_⟩
  unfold startD at e
  unfold L2.start
  by_cases hi : i < ds.length
  · rw [List.getElem?_append_left (by simpa using hi), List.getElem?_map] at e
    cases q : ds[i]? with
    | none => rw [q] at e; cases e
    | some x =>
      rw [q] at e
      have ex : x = d := by simpa using e
      subst ex
      obtain ⟨v, hv, r⟩ := h.get q
      refine ⟨v, ?_, r⟩
      rw [List.getElem?_append_left (by simp [hl, hi]), List.getElem?_map, hv]
      rfl
  · rw [List.getElem?_append_right (by simp; omega), List.getElem?_replicate] at e
    split at e <;> simp at e
section
variable {P : Program} {w : World} {K : PySem.W.Frag} {mg : Str → Option Value} {base : Heap}
theorem sem_of {C : CT} {N : List Str} {t : XK → TS} (hn : ∀ ds μ P PX, C ds μ P PX → ds.length ≤ N.length) (sem : ∀ ds μ P PX, C ds μ P PX → MuCl μ μ.length → clL ds μ.length = true → ∀ B E, XAg K B (RetX μ.length PX) E → DS K B (t E) (startD N ds) μ (fnE μ.length P))
    {vs : List V} {H : Hp} {Q : VK} {E : XK} (h : spD K C vs H Q E) : t E { nx := fun _ H' => Q .non H', rt := Q } (L2.start N vs) H := by
  obtain ⟨G, al, ds, μ, P, PX, A, r, c, hQ, hX⟩ := h
  have hc := A.cl
  have sh : ∀ {v : V} {d : D} {μ' : Mu} {G' H' : Hp} {al' : List Addr}, Nx G H al G' H' al' → As K G' H' al' μ' → Rp K G' al' v d → Ret μ.length P d μ' → Q v H' := by
    intro v d μ' G' H' al' n A' rv ⟨μ1, ext, e, hl, hcl, hd, hp⟩
    subst e
    have hlen : μ1.length ≤ al'.length := by rw [A'.len]; simp
    have e1 : al' = al'.take μ1.length ++ al'.drop μ1.length := (List.take_append_drop _ _).symm
    have l1 : (al'.take μ1.length).length = μ1.length := by rw [List.length_take]; omega
    have pre : Pre al (al'.take μ1.length) := by
      obtain ⟨be, e2⟩ := n.p
      refine ⟨(be.take (μ1.length - al.length)), ?_⟩
      rw [e2, List.take_append]
      rw [List.take_of_length_le (by rw [A.len]; exact hl)]
    have n1 : Nx G H al G' H' (al'.take μ1.length) := ⟨n.g, pre, n.keep, n.out, fun a m => n.new a (List.mem_of_mem_take m)⟩
    rw [e1] at A' rv
    exact hQ v d μ1 G' H' _ n1 (A'.shrink l1 hcl) (rv.shrink (by rw [l1]; exact hd)) hp
  refine sem ds μ P PX c hc (by rw [← A.len]; exact r.cl) ⟨G, H, al⟩ E ?_ _ G H al .refl (start_rp r) A _ ⟨fun σ' ρ' μ' G' H' al' n hσ A' p => sh n A' .non p, fun v d μ' G' H' al' n A' rv p => sh n A' rv p, fun _ _ _ _ _ _ _ _ _ p => p.elim, fun _ _ _ _ _ _ _ _ _ p => p.elim⟩
  rw [← A.len]
  exact hX.ret .refl
end
/-! ### calls -/
section
variable {K : PySem.W.Frag} {B : Bs} {ρ : En} {μ : Mu} {te : TE} {ts : TA} {P : D → Mu → Prop} {PX : PXT} {E : XK} {C : CT} {dvs : List V} {dds : List D}
theorem de_call (hE : XAg K B PX E) (h : DA K B ts ρ μ fun ds μ1 => C ds μ1 P PX) : DE K B (tCall (spD K C) [] E ts) ρ μ P := fun σ G H al hB hσ hA Q hQ =>
  h σ G H al hB hσ hA _ fun vs ds μ1 G1 H1 al1 n1 A1 r1 p1 => by
    rw [List.append_nil]
    exact ⟨G1, al1, ds, μ1, P, PX, A1, r1, p1, hQ.nx n1, hE.nx (hB.trans n1)⟩
theorem de_meth {Cc : Addr} {m : Str} (hE : XAg K B PX E) (h : DE K B te ρ μ fun x μ1 => ∃ gs, (x = .obj Cc gs ∨ ∃ k, x = .own k ∧ μ1[k]? = some (.ins Cc gs)) ∧ gs.lookup m = none ∧ DA K B ts ρ μ1 fun ds μ2 => C (x :: ds) μ2 P PX) : DE K B (tMeth Cc m (spD K C) [] E te ts) ρ μ P := fun σ G H al hB hσ hA Q hQ =>
  h σ G H al hB hσ hA _ fun v x μ1 G1 H1 al1 n1 A1 r1 p1 => by
    obtain ⟨gs, hx, hl, p⟩ := p1
    have key : ∃ a dx fs, v = .ref a ∧ H1 a = some (.ins Cc dx fs) ∧ fs.lookup m = none := by
      rcases hx with rfl | ⟨k, rfl, hk⟩
      · cases r1 with | obj e rf => exact ⟨_, _, _, rfl, A1.sub _ _ e, rf.none hl⟩
      · obtain ⟨a, ha, ga, dx, fs, hv, rf⟩ := A1.get hk
        cases r1 with | own e => rw [ha] at e; cases e; exact ⟨_, _, _, rfl, hv, rf.none hl⟩
    obtain ⟨a, dx, fs, e, hv, hm⟩ := key
    refine ⟨a, dx, fs, e, hv, hm, p σ G1 H1 al1 (hB.trans n1) (hσ.nx n1) A1 _ fun vs ds μ2 G2 H2 al2 n2 A2 r2 p2 => ?_⟩
    rw [List.append_nil]
    exact ⟨G2, al2, x :: ds, μ2, P, PX, A2, .cons (r1.nx n2) r2, p2, hQ.nx (n1.trans n2), hE.nx (hB.trans (n1.trans n2))⟩
/-- C(..): the new instance is frozen behind its __init__ -/
theorem de_make {Cc : Addr} (hE : XAg K B PX E) (hd : ∀ G al, Rps K G al dvs dds) (h : DA K B ts ρ μ fun ds μ1 => C (.own μ1.length :: (ds ++ dds)) (μ1 ++ [.ins Cc []]) (fun d μ2 => d = .non ∧ ∃ gs, μ2 = μ1 ++ [.ins Cc gs] ∧ clF gs μ1.length = true ∧ P (.obj Cc gs) μ1) (RetX μ1.length PX)) : DE K B (tMake Cc (spD K C) dvs E ts) ρ μ P := fun σ G H al hB hσ hA Q hQ =>
  h σ G H al hB hσ hA _ fun vs ds μ1 G1 H1 al1 n1 A1 r1 p1 => by
    intro x dx hx hdx hne
    -- the own dict first
    have nx1 : x ≠ dx := hne.symm
    have A2 : As K G1 (upd H1 dx (.own x)) al1 μ1 ∧ Nx G1 H1 al1 G1 (upd H1 dx (.own x)) al1 := by
      have gd : G1 dx = none := A1.sub.free hdx
      have nal : dx ∉ al1 := fun m => A1.here dx m hdx
      refine ⟨⟨fun b u e => by rw [upd_ne (ne_of_none e gd)]; exact A1.sub _ _ e, A1.nd, A1.len, fun a m => ?_, fun k a o e1 e2 => ?_⟩, ⟨Same.refl _, Pre.refl _, fun a u h _ => by rw [upd_ne (ne_of_none h hdx)]; exact h, fun _ _ _ _ g => g, fun _ m => .inl m⟩⟩
      · have z : a ≠ dx := fun z => nal (z ▸ m)
        rw [upd_ne z]; exact A1.here a m
      · have z : a ≠ dx := fun z => nal (z ▸ List.mem_of_getElem? e1)
        exact OkO.mono (Same.refl _) (Pre.refl _) (fun _ g => g) (by rw [upd_ne z]) (A1.ok k a o e1 e2)
    obtain ⟨A2, n2⟩ := A2
    have hx2 : (upd H1 dx (.own x)) x = none := by rw [upd_ne nx1]; exact hx
    obtain ⟨A3, n3⟩ := A2.own (o := .ins Cc dx []) (m := .ins Cc []) hx2 ⟨A2.sub.free hx2, dx, [], upd_same, .nil⟩
    refine ⟨G1, al1 ++ [x], .own μ1.length :: (ds ++ dds), μ1 ++ [.ins Cc []], _, _, A3, .cons (.own (by rw [← A1.len]; simp)) ((((r1.nx n2).nx n3).append (hd _ _))), p1, ?_, by rw [← A1.len]; exact (hE.nx (hB.trans n1)).ret (n2.trans n3)⟩
    intro v d μ2 G4 H4 al4 n4 A4 r4 p4
    obtain ⟨rfl, gs, rfl, hcl, hp⟩ := p4
    cases r4
    refine ⟨rfl, ?_⟩
    have hal : al4[μ1.length]? = some x := n4.p.get (by rw [← A1.len]; simp)
    obtain ⟨a, ha, ga, dx4, fs4, hv4, rf4⟩ := A4.get (k := μ1.length) (m := .ins Cc gs) (by simp)
    rw [hal] at ha; cases ha
    obtain ⟨A5, n5⟩ := A4.freeze hal hv4 ga
    have nn : Nx G1 H1 al1 (upd G4 x (.ins Cc dx4 fs4)) H4 al4 := ((n2.trans n3).trans n4).trans n5
    obtain ⟨be, rfl⟩ := nn.p
    have e5 : (μ1 ++ [MO.ins Cc gs]).set μ1.length MO.dead = μ1 ++ [.dead] := by simp
    rw [e5] at A5
    refine hQ (.ref x) (.obj Cc gs) μ1 _ H4 al1 (n1.trans nn.shrink) (A5.shrink A1.len A1.cl) ?_ hp
    exact .obj upd_same ((rf4.nx n5).shrink (by rw [A1.len]; exact hcl))
theorem da_nd : ∀ G al, Rps K G al [] [] := fun _ _ => .nil
end
end Dl
set_option Elab.async false
set_option linter.all false
set_option maxRecDepth 100000
namespace L2
open PySem PySem.Spec PyProof.Rows
section
variable {X : Cx} {a b c d : Expr} {ta tb tc td : TE} {pos : Pos}
/-- a op1 b op2 c op3 d -/
def tChain3 (r r' r3 : R2) (ta tb tc td : TE) : TE := fun σ H Q => ta σ H fun x H1 => tb σ H1 fun y H2 => r x y H2 fun z H3 => ∃ k, z = .bl k ∧
  (if k = true then tc σ H3 fun w' H4 => r' y w' H4 fun z2 H5 => ∃ k2, z2 = .bl k2 ∧ (if k2 = true then td σ H5 fun u H6 => r3 w' u H6 Q else Q (.bl false) H5) else Q (.bl false) H3)
end
/-- two readings of one expression -/
theorem PE.or {X : Cx} {e : Expr} {t u : TE} (h : PE X e t) (h' : PE X e u) : PE X e (fun σ H Q => t σ H Q ∨ u σ H Q) := ⟨fun pins s σ H Q I hw => hw.elim (h.run pins s σ H Q I) (h'.run pins s σ H Q I)⟩
def tOrE (t u : TE) : TE := fun σ H Q => t σ H Q ∨ u σ H Q
/-! ### operators of any kind -/
def rAddS : R2 := fun x y H Q => ∃ i j, x = .str i ∧ y = .str j ∧ i.length + j.length ≤ sizeLine ∧ Q (.str (i ++ j)) H
def rAddA (K : PySem.W.Frag) : R2 := fun x y H Q => rI0 (fun i j => .int (i + j)) x y H Q ∨ rCat x y H Q ∨ rAddS x y H Q ∨ rCatT K x y H Q
def rMulA : R2 := fun x y H Q => rI CMul (fun i j => .int (i * j)) x y H Q ∨ rI CMulW (fun i j => .int (i * j)) x y H Q ∨ rRep x y H Q
section
variable {X : Cx}
theorem op_addA : OpR X (binaryOp .Add) (rAddA X.K) := op_add.or (op_cat.or (op_add_str.or op_catT))
theorem op_mulA : OpR X (binaryOp .Mult) rMulA := op_mul.or (op_mulW.or op_rep)
end
def rFdivA : R2 := fun x y H Q => rI CDivW (fun i j => .int (i / j)) x y H Q ∨ rI CDivN (fun i j => .int (i.fdiv j)) x y H Q
def rModA : R2 := fun x y H Q => rI (fun _ j => 0 < j) (fun i j => .int (i % j)) x y H Q ∨ rI (fun _ j => j ≠ 0) (fun i j => .int (i.fmod j)) x y H Q
def rInSg : R2 := fun x y H Q => ∃ (c : Nat) (z : Str), x = .str ⟨#[c]⟩ ∧ y = .str z ∧ Q (.bl (decide (c ∈ z.cps.toList))) H
def rInSt : R2 := fun x y H Q => ∃ i j, x = .str i ∧ y = .str j ∧ Q (.bl (!(Builtin.Str.occurrences j i 0 j.length 1).isEmpty)) H
def rInA (K : PySem.W.Frag) : R2 := fun x y H Q => rIn K false x y H Q ∨ rInSg x y H Q ∨ rInSt x y H Q
section
variable {X : Cx}
theorem op_fdivA : OpR X (binaryOp .FloorDiv) rFdivA := op_fdivW.or op_fdivN
theorem op_modA : OpR X (binaryOp .Mod) rModA := op_mod.or op_modN
theorem op_inA : OpR X (compareOp .In) (rInA X.K) := op_in_seq.or (op_in_sign.or op_in_str)
end
def rNotInA (K : PySem.W.Frag) : R2 := fun x y H Q => rIn K true x y H Q ∨ (fun x y H Q => ∃ (c : Nat) (z : Str), x = .str ⟨#[c]⟩ ∧ y = .str z ∧ Q (.bl (!decide (c ∈ z.cps.toList))) H) x y H Q
theorem op_notInA {X : Cx} : OpR X (compareOp .NotIn) (rNotInA X.K) := op_notIn_seq.or op_notIn_sign
/-- a list, a tuple, a text walked -/
def iAny (K : PySem.W.Frag) (tl : TE) : TI := fun σ H R => tl σ H fun x H1 => (∃ a, x = .ref a ∧ (∃ xs, SqL K H1 a xs) ∧ R (Itl K a) H1) ∨ (∃ a, x = .ref a ∧ (∃ xs, SqT K H1 a xs) ∧ R (Itt K a) H1) ∨ ∃ s, x = .str s ∧ R (Its s) H1
theorem pi_any {X : Cx} {tg l : Expr} {tl : TE} (hl : PE X l tl) : PI X tg l (iAny X.K tl) := by
  refine ⟨fun pins s σ H R I h => ?_⟩
  refine thn (hl.run pins s σ H _ I h) fun v s1 ⟨x, H1, I1, r1, q1⟩ => ?_
  rcases q1 with ⟨a, e, ⟨xs, hq⟩, q⟩ | ⟨a, e, ⟨xs, hq⟩, q⟩ | ⟨z, e, q⟩
  · subst e
    cases r1
    obtain ⟨its, rv, p, hz⟩ := I1.list hq
    refine wpAny_pyIter_list p.isList ?_
    refine ⟨s1.heap.objs.size, [s1.heap.objs.size], _, _, H1, rfl, I1.kept (t' := s1.toks) fun b o e => Heap.get?_push_of_some _ e, turn_list a _, ⟨_, Heap.get?_push_size _ rfl, rfl, rfl⟩, fun b hb => ?_, q⟩
    have e : b = s1.heap.objs.size := by simpa using hb
    subst e
    exact I1.fpOk (Nat.le_refl _) (I1.hok.fresh (Nat.le_refl _))
  · subst e
    cases r1
    obtain ⟨its, rv, p, hz⟩ := I1.tuple hq
    refine wpAny_pyIter_tuple (show s1.heap.IsTuple a its.toArray from p) ?_
    refine ⟨s1.heap.objs.size, [s1.heap.objs.size], _, _, H1, rfl, I1.kept (t' := s1.toks) fun b o e => Heap.get?_push_of_some _ e, turn_tuple a _, ⟨_, Heap.get?_push_size _ rfl, rfl, rfl⟩, fun b hb => ?_, q⟩
    have e : b = s1.heap.objs.size := by simpa using hb
    subst e
    exact I1.fpOk (Nat.le_refl _) (I1.hok.fresh (Nat.le_refl _))
  · subst e
    obtain ⟨t, rfl⟩ := r1
    cases ha : z.cps.all (· < 128)
    · exact wpAny_pyIter_wide ha (pi_one (tk := s1.toks) I1 _ (turn_str _ z t "str_iterator" (.inr rfl)) ⟨_, Heap.get?_push_size _ rfl, rfl, rfl⟩ q)
    · exact wpAny_pyIter_ascii ha (pi_one (tk := s1.toks) I1 _ (turn_str _ z t "str_ascii_iterator" (.inl rfl)) ⟨_, Heap.get?_push_size _ rfl, rfl, rfl⟩ q)
def rSlA (K : PySem.W.Frag) : V → Option Int → Option Int → Hp → VK → Prop := fun x lo hi H Q => rSlL K x lo hi H Q ∨ (∃ z, x = .str z ∧ z.length ≤ sizeLine ∧ Q (.str (cutS z lo hi)) H) ∨ rSlT K x lo hi H Q
theorem sl_any {X : Cx} : SlR X (rSlA X.K) := sl_list.or (sl_str.or sl_tup)
/-- an own exception without an __init__ of its own -/
structure ExC (K : PySem.W.Frag) (mg : Str → Option Value) (x : Str) : Prop where
  xc : PySem.W.excIn K (He.ga K x) He.veBase "ValueError.__new__" = true
  gc : mg x = some (.ref (He.ga K x))
  kc : PySem.W.keepIn K (.ref (He.ga K x)) = true
  bc : PySem.W.subIn K (.ref (He.ga K x)) (.type "BaseException") = some true
  tc : PySem.W.typeIn K (.ref (He.ga K x)) = some (.type "type")
/-- a value's truth -/
def tTruth (K : PySem.W.Frag) (ta : TE) : TT := fun σ H Q => ta σ H fun x H' => ∃ k, TruV K x H' k ∧ Q k H'
/-- a raise of an own class without fields -/
def tRaise0 (C : Addr) (E : XK) : TS := fun _ σ H => E (.ref C) none H
def _root_.Dl.rLen (K : PySem.W.Frag) : List V → Hp → VK → Prop := fun xs H Q => ∃ x n, xs = [x] ∧ LenV K x H n ∧ Q (.int (n : Nat)) H
def rMax2 : List V → Hp → VK → Prop := fun xs H Q => ∃ i j, xs = [.int i, .int j] ∧ Q (.int (if j > i then j else i)) H
def rMin2 : List V → Hp → VK → Prop := fun xs H Q => ∃ i j, xs = [.int i, .int j] ∧ Q (.int (if j < i then j else i)) H
def rMaxA (K : PySem.W.Frag) : List V → Hp → VK → Prop := fun xs H Q => rMax2 xs H Q ∨ rMax K xs H Q
def rMinA (K : PySem.W.Frag) : List V → Hp → VK → Prop := fun xs H Q => rMin2 xs H Q ∨ rMin K xs H Q
theorem call_maxA {X : Cx} (hc : X.calm = true) : CallR X (.builtin "max") (rMaxA X.K) := (call_max2 hc).or (cr_max hc)
theorem call_minA {X : Cx} (hc : X.calm = true) : CallR X (.builtin "min") (rMinA X.K) := (call_min2 hc).or (cr_min hc)
def rListOf (K : PySem.W.Frag) : List V → Hp → VK → Prop := fun xs H Q => ∃ p ys, xs = [.ref p] ∧ (SqL K H p ys ∨ SqT K H p ys) ∧ ∀ l, H l = none → Q (.ref l) (upd H l (.lst ys))
def rDivmod : List V → Hp → VK → Prop := fun xs H Q => ∃ i j, xs = [.int i, .int j] ∧ CDiv i j ∧ ∀ p, H p = none → Q (.ref p) (upd H p (.tup [.int (i / j), .int (i % j)]))
end L2
namespace Dl
open PySem L2 PyProof.Rows
section
variable {K : PySem.W.Frag} {μ : Mu} {P : D → Mu → Prop} {i j : Int} {x y d : D} {ds es : List D}
theorem ro_addI (h : P (.int (i + j)) μ) : RO K (rAddA K) (.int i) (.int j) μ P := fun G H al v w A r1 r2 Q hQ => .inl (ro_i (f := fun i j => i + j) h G H al v w A r1 r2 Q hQ)
theorem ro_addL (h1 : Lt μ x ds) (h2 : Lt μ y es) (hs : ds.length + es.length ≤ 100000) (h : P (.lst (ds ++ es)) μ) : RO K (rAddA K) x y μ P := fun G H al v w A r1 r2 Q hQ => .inr (.inl (ro_cat h1 h2 hs h G H al v w A r1 r2 Q hQ))
theorem ro_addLO (h1 : Lt μ x ds) (h2 : Lt μ y es) (hs : ds.length + es.length ≤ 100000) (h : P (.own μ.length) (μ ++ [.lst (ds ++ es)])) : RO K (rAddA K) x y μ P := fun G H al v w A r1 r2 Q hQ => .inr (.inl (ro_catO h1 h2 hs h G H al v w A r1 r2 Q hQ))
theorem ro_addS {s t : Str} (hs : s.length + t.length ≤ 100000) (h : P (.str (s ++ t)) μ) : RO K (rAddA K) (.str s) (.str t) μ P := fun G H al v w A r1 r2 Q hQ => by
  cases r1; cases r2
  exact .inr (.inr (.inl ⟨s, t, rfl, rfl, Nat.le_trans hs (by decide), hQ.now A (.str _) h⟩))
theorem ro_addT (h1 : Ts x ds) (h2 : Ts y es) (hne : ds ≠ []) (hes : es ≠ []) (hs : ds.length + es.length ≤ 100000) (h : P (.tup (ds ++ es)) μ) : RO K (rAddA K) x y μ P := fun G H al v w A r1 r2 Q hQ => .inr (.inr (.inr (ro_catT h1 h2 hne hes hs h G H al v w A r1 r2 Q hQ)))
theorem ro_mulI (hc : CMul i j) (h : P (.int (i * j)) μ) : RO K rMulA (.int i) (.int j) μ P := fun G H al v w A r1 r2 Q hQ => .inl (ro_ic (f := fun i j => i * j) hc h G H al v w A r1 r2 Q hQ)
def repD (xs : List D) (k : Int) : List D := (List.replicate k.toNat xs).flatten
theorem rps_rep {G : Hp} {al : List Addr} {vs : List V} (h : Rps K G al vs ds) (n : Nat) : Rps K G al (List.replicate n vs).flatten (List.replicate n ds).flatten := by
  induction n with
  | zero => exact .nil
  | succ n ih => rw [List.replicate_succ, List.replicate_succ, List.flatten_cons, List.flatten_cons]; exact h.append ih
theorem ro_rep (h1 : Lt μ x ds) (hj : -100000 ≤ j ∧ j ≤ 100000) (hs : ds.length * j.toNat ≤ 100000) (h : P (.lst (repD ds j)) μ) : RO K rMulA x (.int j) μ P := fun G H al v w A r1 r2 Q hQ => by
  obtain ⟨a, ws, rfl, s1, rs1⟩ := h1.get A r1
  cases r2
  refine .inr (.inr ⟨a, j, ws, rfl, rfl, s1, by omega, by omega, by rw [rs1.length]; exact Nat.le_trans hs (by decide), fun p hp => ?_⟩)
  obtain ⟨A2, n2⟩ := A.frz (o := .lst (List.replicate j.toNat ws).flatten) hp
  exact hQ _ _ μ _ _ _ n2 A2 (.lst upd_same ((rps_rep rs1 j.toNat).nx n2)) h
theorem rc_max2' (h : P (.int (max i j)) μ) : RC K (rMaxA K) [.int i, .int j] μ P := fun G H al vs A r Q hQ => .inl (rc_max2 h G H al vs A r Q hQ)
theorem rc_min2' (h : P (.int (min i j)) μ) : RC K (rMinA K) [.int i, .int j] μ P := fun G H al vs A r Q hQ => .inl (rc_min2 h G H al vs A r Q hQ)
theorem rc_max' {ns : List Int} (hl : Ls μ x (ns.map D.int)) (hn : 0 < ns.length) (h : ∀ m, m ∈ ns → (∀ y, y ∈ ns → y ≤ m) → P (.int m) μ) : RC K (rMaxA K) [x] μ P := fun G H al vs A r Q hQ => .inr (rc_max hl hn h G H al vs A r Q hQ)
theorem rc_lenL (hl : Ls μ x ds) (h : P (.int (ds.length : Int)) μ) : RC K (rLen K) [x] μ P := rc_len hl h
theorem rc_lenT' (hl : Ts x ds) (h : P (.int (ds.length : Int)) μ) : RC K (rLen K) [x] μ P := rc_lenT hl h
theorem rc_lenS' {s : Str} (hs : s.length ≤ 100000) (h : P (.int (s.length : Int)) μ) : RC K (rLen K) [.str s] μ P := rc_lenS hs h
theorem rc_list (hl : Ls μ x ds) (h : P (.lst ds) μ) : RC K (rListOf K) [x] μ P := fun G H al vs A r Q hQ => by
  obtain ⟨v, rfl, r1⟩ := rps1 r
  obtain ⟨a, ws, rfl, s, rs⟩ := hl.get A r1
  refine ⟨a, ws, rfl, .inl s, fun p hp => ?_⟩
  obtain ⟨A2, n2⟩ := A.frz (o := .lst ws) hp
  exact hQ _ _ μ _ _ _ n2 A2 (.lst upd_same (rs.nx n2)) h
theorem rc_listO (hl : Ls μ x ds) (h : P (.own μ.length) (μ ++ [.lst ds])) : RC K (rListOf K) [x] μ P := fun G H al vs A r Q hQ => by
  obtain ⟨v, rfl, r1⟩ := rps1 r
  obtain ⟨a, ws, rfl, s, rs⟩ := hl.get A r1
  refine ⟨a, ws, rfl, .inl s, fun p hp => ?_⟩
  obtain ⟨A2, n2⟩ := A.own (o := .lst ws) (m := .lst ds) hp ⟨A.sub.free hp, _, upd_same, rs.mono (Same.refl _) ⟨[p], rfl⟩⟩
  exact hQ _ _ _ _ _ _ n2 A2 (.own (by rw [← A.len]; simp)) h
theorem rc_divmod (hc : CDiv i j) (h : P (.tup [.int (i / j), .int (i % j)]) μ) : RC K rDivmod [.int i, .int j] μ P := fun G H al vs A r Q hQ => by
  obtain ⟨v, w, rfl, r1, r2⟩ := rps2 r
  cases r1; cases r2
  refine ⟨i, j, rfl, hc, fun p hp => ?_⟩
  obtain ⟨A2, n2⟩ := A.frz (o := .tup [.int (i / j), .int (i % j)]) hp
  exact hQ _ _ μ _ _ _ n2 A2 (.tup upd_same (.cons (.int _) (.cons (.int _) .nil))) h
end
section
variable {K : PySem.W.Frag} {B : Bs} {ρ : En} {μ : Mu} {P : D → Mu → Prop} {ta tb te tc td : TE} {PT' : Bool → Mu → Prop}
theorem de_chain3 {r r' r3 : R2} (h : DE K B ta ρ μ fun x μ1 => DE K B tb ρ μ1 fun y μ2 => RO K r x y μ2 fun z μ3 => ∃ b, z = .bl b ∧ (b = true → DE K B tc ρ μ3 fun w μ4 => RO K r' y w μ4 fun z2 μ5 => ∃ b2, z2 = .bl b2 ∧
      (b2 = true → DE K B td ρ μ5 fun u μ6 => RO K r3 w u μ6 P) ∧ (b2 = false → P (.bl false) μ5)) ∧ (b = false → P (.bl false) μ3)) :
    DE K B (tChain3 r r' r3 ta tb tc td) ρ μ P := fun σ G H al hB hσ hA Q hQ =>
  h σ G H al hB hσ hA _ fun v d μ1 G1 H1 al1 n1 A1 r1 p1 => p1 σ G1 H1 al1 (hB.trans n1) (hσ.nx n1) A1 _ fun w e μ2 G2 H2 al2 n2 A2 r2 p2 =>
    p2 G2 H2 al2 v w A2 (r1.nx n2) r2 _ fun z dz μ3 G3 H3 al3 n3 A3 r3 p3 => by
      obtain ⟨b, rfl, pt, pf⟩ := p3
      cases r3
      refine ⟨b, rfl, ?_⟩
      have nn3 := (n1.trans n2).trans n3
      cases b with
      | false =>
        rw [if_neg (by simp)]
        exact hQ (.bl false) _ μ3 G3 H3 al3 nn3 A3 (.bl _) (pf rfl)
      | true =>
        rw [if_pos rfl]
        refine pt rfl σ G3 H3 al3 (hB.trans nn3) (hσ.nx nn3) A3 _ fun u du μ4 G4 H4 al4 n4 A4 r4 p4 => p4 G4 H4 al4 w u A4 ((r2.nx n3).nx n4) r4 _ fun z5 dz5 μ5 G5 H5 al5 n5 A5 r5 p5 => ?_
        obtain ⟨b2, rfl, pt2, pf2⟩ := p5
        cases r5
        refine ⟨b2, rfl, ?_⟩
        have nn5 := (nn3.trans n4).trans n5
        cases b2 with
        | false =>
          rw [if_neg (by simp)]
          exact hQ (.bl false) _ μ5 G5 H5 al5 nn5 A5 (.bl _) (pf2 rfl)
        | true =>
          rw [if_pos rfl]
          exact pt2 rfl σ G5 H5 al5 (hB.trans nn5) (hσ.nx nn5) A5 _ fun u6 du6 μ6 G6 H6 al6 n6 A6 r6 p6 => p6 G6 H6 al6 u u6 A6 ((r4.nx n5).nx n6) r6 Q (hQ.nx (nn5.trans n6))
theorem de_orL (h : DE K B ta ρ μ P) : DE K B (tOrE ta tb) ρ μ P := fun σ G H al hB hσ hA Q hQ => .inl (h σ G H al hB hσ hA Q hQ)
theorem de_orR (h : DE K B tb ρ μ P) : DE K B (tOrE ta tb) ρ μ P := fun σ G H al hB hσ hA Q hQ => .inr (h σ G H al hB hσ hA Q hQ)
theorem dt_truth (h : DE K B te ρ μ fun x μ1 => ∃ b, x = .bl b ∧ PT' b μ1) : DT K B (tTruth K te) ρ μ PT' := fun σ G H al hB hσ hA Q hQ =>
  h σ G H al hB hσ hA _ fun v d μ1 G1 H1 al1 n1 A1 r1 p1 => by
    obtain ⟨b, rfl, p⟩ := p1
    cases r1
    exact ⟨b, rfl, hQ b μ1 G1 H1 al1 n1 A1 p⟩
theorem ds_raise0 {C : Addr} {E : XK} {PX : PXT} {Pe : DEnds} (hE : XAg K B PX E) (h : PX C [] μ) : DS K B (tRaise0 C E) ρ μ Pe := fun σ G H al hB hσ hA De hD =>
  hE C [] none μ G H al hB hA (.inl ⟨rfl, rfl⟩) h
end
end Dl
set_option Elab.async false
set_option linter.all false
set_option maxRecDepth 100000
namespace Dl
open PySem L2 PyProof.Rows
section
variable {K : PySem.W.Frag} {μ : Mu} {P : D → Mu → Prop} {i j : Int} {x y d : D} {ds es : List D}
theorem ro_fdiv (hc : 0 < j) (hj : j.natAbs.log2 < 9000) (h : P (.int (i / j)) μ) : RO K rFdivA (.int i) (.int j) μ P := fun G H al v w A r1 r2 Q hQ => .inl (ro_ic (f := fun i j => i / j) ⟨hc, hj⟩ h G H al v w A r1 r2 Q hQ)
theorem ro_mod (hc : 0 < j) (h : P (.int (i % j)) μ) : RO K rModA (.int i) (.int j) μ P := fun G H al v w A r1 r2 Q hQ => .inl (ro_ic (f := fun i j => i % j) (C := fun _ j => 0 < j) hc h G H al v w A r1 r2 Q hQ)
theorem ro_pow (hc : CPow i j) (h : P (.int (i ^ j.toNat)) μ) : RO K (rI CPow fun i j => .int (i ^ j.toNat)) (.int i) (.int j) μ P := ro_ic (f := fun i j => i ^ j.toNat) hc h
theorem ro_isB {a b : Bool} (h : P (.bl (decide (a = b))) μ) : RO K rIsB (.bl a) (.bl b) μ P := fun G H al v w A r1 r2 Q hQ => by
  cases r1; cases r2
  exact ⟨a, b, rfl, rfl, hQ.now A (.bl _) h⟩
theorem ro_notB {a b : Bool} (h : P (.bl (!decide (a = b))) μ) : RO K rNotB (.bl a) (.bl b) μ P := fun G H al v w A r1 r2 Q hQ => by
  cases r1; cases r2
  exact ⟨a, b, rfl, rfl, hQ.now A (.bl _) h⟩
end
section
variable {K : PySem.W.Frag} {B : Bs} {ρ : En} {μ : Mu} {te ta : TE} {ts : TA} {PI' : List D → (Mu → Prop) → Mu → Prop} {P : DEnds} {t u v : TS}
/-- what a datum is walked as; S: what must stay of what may change -/
inductive Wk (μ : Mu) : D → List D → (Mu → Prop) → Prop
  | lst (ds : List D) : Wk μ (.lst ds) ds (fun _ => True)
  | rdl (ds : List D) : Wk μ (.rdl ds) ds (fun _ => True)
  | own {k : Nat} {ds : List D} (h : μ[k]? = some (.lst ds)) : Wk μ (.own k) ds (fun μ' => μ'[k]? = some (.lst ds))
  | tup (ds : List D) : Wk μ (.tup ds) ds (fun _ => True)
  | rdt (ds : List D) : Wk μ (.rdt ds) ds (fun _ => True)
  | str (s : Str) : Wk μ (.str s) (signsD s) (fun _ => True)
theorem itt_ok {G H : Hp} {al : List Addr} {a : Addr} {ds : List D} {S : Mu → Prop} (h : ∀ G2 H2 al2 μ2, Nx G H al G2 H2 al2 → As K G2 H2 al2 μ2 → S μ2 → ∃ vs, SqT K H2 a vs ∧ Rps K G2 al2 vs ds) : ItOk K (Itt K a) ds S G H al := fun G2 H2 al2 μ2 n A s => by
  obtain ⟨vs, sq, r⟩ := h G2 H2 al2 μ2 n A s
  refine ⟨fun i hi => ⟨vs, vs[i]'(by rw [r.length]; exact hi), sq, by simp⟩, fun i hi => ⟨vs, sq, by rw [r.length]; exact hi⟩, fun i x H3 y d hd => ?_⟩
  obtain ⟨rfl, y⟩ := y
  obtain ⟨d', hd', r'⟩ := r.getV (y vs sq)
  rw [hd] at hd'; cases hd'
  exact ⟨G2, .refl, A, r'⟩
theorem di_any (h : DE K B te ρ μ fun x μ1 => ∃ ds S, Wk μ1 x ds S ∧ PI' ds S μ1) : DI K B (iAny K te) ρ μ PI' := fun σ G H al hB hσ hA R hR =>
  h σ G H al hB hσ hA _ fun v d μ1 G1 H1 al1 n1 A1 r1 p1 => by
    obtain ⟨ds, S, wk, p⟩ := p1
    cases wk with
    | lst =>
      cases r1 with
      | lst e rs => exact .inl ⟨_, rfl, ⟨_, .inl (.inl (A1.sub _ _ e))⟩, hR _ ds _ μ1 G1 H1 al1 n1 A1 (itl_ok fun G2 H2 al2 μ2 n2 A2 _ => ⟨_, .inl (.inl (A2.sub _ _ (n2.g _ _ e))), rs.nx n2⟩) p⟩
    | rdl =>
      cases r1 with
      | rdl e rs => exact .inl ⟨_, rfl, ⟨_, sql_mono A1.sub e⟩, hR _ ds _ μ1 G1 H1 al1 n1 A1 (itl_ok fun G2 H2 al2 μ2 n2 A2 _ => ⟨_, sql_mono A2.sub (sql_mono n2.g e), rs.nx n2⟩) p⟩
    | own hk =>
      obtain ⟨a, ha, ga, vs, hv, rs⟩ := A1.get hk
      cases r1 with
      | own e =>
        rw [ha] at e; cases e
        refine .inl ⟨_, rfl, ⟨_, .inl (.inl hv)⟩, hR _ ds _ μ1 G1 H1 al1 n1 A1 (itl_ok fun G2 H2 al2 μ2 n2 A2 s => ?_) p⟩
        obtain ⟨a2, ha2, ga2, vs2, hv2, rs2⟩ := A2.get s
        rw [n2.p.get ha] at ha2; cases ha2
        exact ⟨vs2, .inl (.inl hv2), rs2⟩
    | tup =>
      cases r1 with
      | tup e rs => exact .inr (.inl ⟨_, rfl, ⟨_, .inl (.inl (A1.sub _ _ e))⟩, hR _ ds _ μ1 G1 H1 al1 n1 A1 (itt_ok fun G2 H2 al2 μ2 n2 A2 _ => ⟨_, .inl (.inl (A2.sub _ _ (n2.g _ _ e))), rs.nx n2⟩) p⟩)
    | rdt =>
      cases r1 with
      | rdt e rs => exact .inr (.inl ⟨_, rfl, ⟨_, sqt_mono A1.sub e⟩, hR _ ds _ μ1 G1 H1 al1 n1 A1 (itt_ok fun G2 H2 al2 μ2 n2 A2 _ => ⟨_, sqt_mono A2.sub (sqt_mono n2.g e), rs.nx n2⟩) p⟩)
    | str x =>
      cases r1
      refine .inr (.inr ⟨x, rfl, hR _ _ _ μ1 G1 H1 al1 n1 A1 (fun G2 H2 al2 μ2 n2 A2 _ => ?_) p⟩)
      have hl : (signsD x).length = x.cps.size := by simp [signsD]
      rw [hl]
      refine ⟨fun i hi => hi, fun i hi => hi, fun i y H3 hy d hd => ?_⟩
      obtain ⟨rfl, c, hc, rfl⟩ := hy
      have : d = .str ⟨#[c]⟩ := by
        simp only [signsD, List.getElem?_map, Array.getElem?_toList, hc] at hd
        exact (Option.some.inj hd).symm
      subst this
      exact ⟨G2, .refl, A2, .str _⟩
theorem di_enum' (h : DA K B ts ρ μ fun xs μ1 => ∃ x ds S, xs = [x] ∧ Ls μ1 x ds ∧ Wk μ1 x ds S ∧ PI' (enumD ds) S μ1) : DI K B (iEnum K ts) ρ μ PI' := di_enum (fun σ G H al hB hσ hA Q hQ => h σ G H al hB hσ hA Q fun vs ds' μ' G' H' al' n A r p => hQ vs ds' μ' G' H' al' n A r (by
  obtain ⟨x, ds, S, e, ls, wk, p⟩ := p
  refine ⟨x, ds, e, ?_⟩
  cases wk with
  | lst => exact .inl ⟨rfl, p⟩
  | rdl => exact .inr (.inl ⟨rfl, p⟩)
  | own hk => exact .inr (.inr ⟨_, rfl, hk, p⟩)
  | tup => cases ls
  | rdt => cases ls
  | str => cases ls))
/-! ### statements with what follows -/
theorem q_set {i : Nat} (h : DE K B te ρ μ fun d μ1 => DS K B u (ρ.set i (some d)) μ1 P) : DS K B (tSeq (tAsg te (gName i)) u) ρ μ P := ds_seq (ds_set h)
theorem q_asg {g : TG} (h : DE K B te ρ μ fun d μ1 => DG K B g d ρ μ1 fun ρ2 μ2 => DS K B u ρ2 μ2 P) : DS K B (tSeq (tAsg te g) u) ρ μ P := ds_seq (ds_asg h)
theorem q_drop (h : DE K B te ρ μ fun d μ1 => DS K B u ρ μ1 P) : DS K B (tSeq (tDrop te) u) ρ μ P := ds_seq (ds_drop h)
/-- an if without else -/
theorem q_when {c : TT} (h : DT K B c ρ μ fun b μ1 => (b = true → DS K B t ρ μ1 { P with nx := fun ρ1 μ1 => DS K B u ρ1 μ1 P }) ∧ (b = false → DS K B u ρ μ1 P)) : DS K B (tSeq (tIfS c t tNext) u) ρ μ P :=
  ds_seq (ds_if fun σ G H al hB hσ hA Q hQ => h σ G H al hB hσ hA Q fun b μ1 G1 H1 al1 n1 A1 p1 => hQ b μ1 G1 H1 al1 n1 A1 ⟨p1.1, fun e => ds_next (p1.2 e)⟩)
theorem s_when {c : TT} (h : DT K B c ρ μ fun b μ1 => (b = true → DS K B t ρ μ1 P) ∧ (b = false → P.nx ρ μ1)) : DS K B (tIfS c t tNext) ρ μ P :=
  ds_if fun σ G H al hB hσ hA Q hQ => h σ G H al hB hσ hA Q fun b μ1 G1 H1 al1 n1 A1 p1 => hQ b μ1 G1 H1 al1 n1 A1 ⟨p1.1, fun e => ds_next (p1.2 e)⟩
theorem q_if {c : TT} (h : DT K B c ρ μ fun b μ1 => (b = true → DS K B t ρ μ1 { P with nx := fun ρ1 μ1 => DS K B u ρ1 μ1 P }) ∧ (b = false → DS K B v ρ μ1 { P with nx := fun ρ1 μ1 => DS K B u ρ1 μ1 P })) : DS K B (tSeq (tIfS c t v) u) ρ μ P := ds_seq (ds_if h)
theorem q_for {wi : TI} {g : TG} {tb : TS} (h : DI K B wi ρ μ fun ds S μ1 => ∃ Iv : Nat → En → Mu → Prop, Iv 0 ρ μ1 ∧ (∀ i ρ' μ', i ≤ ds.length → Iv i ρ' μ' → S μ') ∧
      (∀ i d ρ' μ', ds[i]? = some d → Iv i ρ' μ' → DG K B g d ρ' μ' fun ρ2 μ2 => DS K B tb ρ2 μ2 { nx := Iv (i + 1), ct := Iv (i + 1), bk := fun ρ1 μ1 => DS K B u ρ1 μ1 P, rt := P.rt }) ∧ (∀ ρ' μ', Iv ds.length ρ' μ' → DS K B u ρ' μ' P)) : DS K B (tSeq (tFor wi g tb) u) ρ μ P := ds_seq (ds_for h)
theorem q_fld {f : Str} {tb : TE} (h : DE K B tb ρ μ fun y μ1 => DE K B ta ρ μ1 fun x μ2 => ∃ k C gs, x = .own k ∧ μ2[k]? = some (.ins C gs) ∧ Cls K C ∧ NoAttr K C f ∧ gs.length < 1000 ∧ DS K B u ρ (μ2.set k (.ins C (putD f y gs))) P) : DS K B (tSeq (sFld K ta tb f) u) ρ μ P := ds_seq (ds_fld h)
theorem q_par {i j : Nat} (h : DA K B ts ρ μ fun ds μ1 => ∃ x y, ds = [x, y] ∧ DS K B u ((ρ.set i (some x)).set j (some y)) μ1 P) : DS K B (tSeq (tPar i j ts) u) ρ μ P := ds_seq (ds_par h)
end
/-- the n-th thing from the end of what may change -/
theorem mu_last {μ : Mu} {o : MO} : (μ ++ [o])[μ.length]? = some o := by simp
theorem mu_old {μ ext : Mu} {k : Nat} {o : MO} (h : μ[k]? = some o) : (μ ++ ext)[k]? = some o := by
  rw [List.getElem?_append_left (List.getElem?_eq_some_iff.mp h).1]
  exact h
theorem set_last {μ : Mu} {o o' : MO} : (μ ++ [o]).set μ.length o' = μ ++ [o'] := by simp
theorem set_old {μ ext : Mu} {k : Nat} {o o' : MO} (h : μ[k]? = some o) : (μ ++ ext).set k o' = μ.set k o' ++ ext := by
  rw [List.set_append_left _ _ (List.getElem?_eq_some_iff.mp h).1]
theorem set_get {μ : Mu} {k : Nat} {o o' : MO} (h : μ[k]? = some o) : (μ.set k o')[k]? = some o' := by
  rw [List.getElem?_set_self (List.getElem?_eq_some_iff.mp h).1]
theorem set_set' {μ : Mu} {k : Nat} {o o' : MO} : (μ.set k o).set k o' = μ.set k o' := by simp
/-- a fresh list handed on: frozen, or to be changed -/
def Fresh (xs : List D) (μ : Mu) (P : D → Mu → Prop) : Prop := P (.lst xs) μ ∨ P (.own μ.length) (μ ++ [.lst xs])
/-! ### defs by their contracts -/
section
variable {P : Program} {w : World} {K : PySem.W.Frag} {mg : Str → Option Value} {base : Heap}
theorem fn_DD {x qual : Str} {st : Stmt} {dvs : List V} {kws : List (Str × V)} {f : Addr} {fd : FuncData} {N ps : List Str} {k : Nat} {C : CT} {t : XK → TS} (F : FunD K x qual (defArgs st) (defBody st) (defScope st) dvs kws f fd) (S : FnScope N ps (defScope st)) (len : ∀ ds μ P PX, C ds μ P PX → ds.length = ps.length) (hN : ps.length ≤ N.length)
    (body : ∀ (cdv : Value) (A : Around) (outer : List Env) (s : Shared) (H : Hp) (E : XK), Room k (A.deeper (envOfC qual (defScope st) s.heap.objs.size f cdv)) → PSs (cxOf (L2.CX P w) P w K mg base N qual (defScope st) f cdv A outer s H E) (defBody st) (t E))
    (sem : ∀ ds μ P PX, C ds μ P PX → MuCl μ μ.length → clL ds μ.length = true → ∀ B E, XAg K B (RetX μ.length PX) E → DS K B (t E) (startD N ds) μ (fnE μ.length P)) : FnOk P w K mg base (L2.CX P w) (k + 1) f fd ps (spD K C) := by
  refine F.ok S (fun vs H Q E h => ?_) (fun cdv A outer s H vs Q E hr h => ⟨t E, body cdv A outer s H E hr, sem_of (fun ds μ P PX c => by rw [len ds μ P PX c]; exact hN) sem h⟩)
  obtain ⟨G, al, ds, μ, P, PX, A, r, c, _⟩ := h
  rw [r.length]
  exact len ds μ P PX c
end
end Dl
set_option Elab.async false
set_option linter.all false
set_option maxRecDepth 100000
namespace Dl
open PySem L2 PyProof.Rows
mutual
theorem D.cl_mono : ∀ (d : D) {n m : Nat}, n ≤ m → d.cl n = true → d.cl m = true
  | .tup xs, n, m, l, h => by unfold D.cl at h ⊢; exact clL_mono xs l h
  | .lst xs, n, m, l, h => by unfold D.cl at h ⊢; exact clL_mono xs l h
  | .rdl xs, n, m, l, h => by unfold D.cl at h ⊢; exact clL_mono xs l h
  | .rdt xs, n, m, l, h => by unfold D.cl at h ⊢; exact clL_mono xs l h
  | .obj _ gs, n, m, l, h => by unfold D.cl at h ⊢; exact clF_mono gs l h
  | .dct gs, n, m, l, h => by unfold D.cl at h ⊢; exact clK_mono gs l h
  | .own k, n, m, l, h => by unfold D.cl at h ⊢; simp at h ⊢; omega
  | .non, n, m, l, h => by simp [D.cl]
  | .bl _, n, m, l, h => by simp [D.cl]
  | .int _, n, m, l, h => by simp [D.cl]
  | .str _, n, m, l, h => by simp [D.cl]
  | .ty _, n, m, l, h => by simp [D.cl]
  | .loc _, n, m, l, h => by simp [D.cl]
  | .exc _ gs, n, m, l, h => by unfold D.cl at h ⊢; exact clF_mono gs l h
theorem clL_mono : ∀ (d : List D) {n m : Nat}, n ≤ m → clL d n = true → clL d m = true
  | [], _, _, _, _ => by simp [clL]
  | x :: xs, n, m, l, h => by
    unfold clL at h ⊢; simp at h ⊢
    exact ⟨D.cl_mono x l h.1, clL_mono xs l h.2⟩
theorem clF_mono : ∀ (d : List (Str × D)) {n m : Nat}, n ≤ m → clF d n = true → clF d m = true
  | [], _, _, _, _ => by simp [clF]
  | (_, x) :: xs, n, m, l, h => by
    unfold clF at h ⊢; simp at h ⊢
    exact ⟨D.cl_mono x l h.1, clF_mono xs l h.2⟩
theorem clK_mono : ∀ (d : List (Key × D)) {n m : Nat}, n ≤ m → clK d n = true → clK d m = true
  | [], _, _, _, _ => by simp [clK]
  | (_, x) :: xs, n, m, l, h => by
    unfold clK at h ⊢; simp at h ⊢
    exact ⟨D.cl_mono x l h.1, clK_mono xs l h.2⟩
end
theorem MO.cl_mono (o : MO) {n m : Nat} (l : n ≤ m) (h : o.cl n = true) : o.cl m = true := by
  cases o with
  | dead => rfl
  | lst xs => exact clL_mono xs l h
  | ins _ gs => exact clF_mono gs l h
  | dK gs => exact clK_mono gs l h
  | dT gs => exact clL_mono _ l h
  | tab _ _ => rfl
theorem MuCl.mono {μ : Mu} {n m : Nat} (h : MuCl μ n) (l : n ≤ m) : MuCl μ m := fun o ho => MO.cl_mono o l (h o ho)
theorem MuCl.app {μ : Mu} {o : MO} (h : MuCl μ μ.length) (ho : o.cl μ.length = true) : MuCl (μ ++ [o]) (μ ++ [o]).length := fun x hx => by
  rw [List.length_append]
  rcases List.mem_append.mp hx with m | m
  · exact MO.cl_mono x (by simp) (h x m)
  · simp at m; subst m; exact MO.cl_mono _ (by simp) ho
theorem br {b : Bool} {A C : Prop} (h1 : b = true → A) (h2 : b = false → C) : (b = true → A) ∧ (b = false → C) := ⟨h1, h2⟩
theorem br' {b : Bool} {A C : Prop} (h1 : b = false → A) (h2 : b = true → C) : (b = false → A) ∧ (b = true → C) := ⟨h1, h2⟩
theorem Wk.now {μ : Mu} {x : D} {ds : List D} {S : Mu → Prop} (h : Wk μ x ds S) : S μ := by
  cases h with
  | own h => exact h
  | _ => trivial
theorem Ls.wk {μ : Mu} {x : D} {ds : List D} (h : Ls μ x ds) : ∃ S, Wk μ x ds S := by
  cases h with
  | lst => exact ⟨_, .lst _⟩
  | rdl => exact ⟨_, .rdl _⟩
  | own h => exact ⟨_, .own h⟩
section
variable {K : PySem.W.Frag} {B : Bs} {ρ : En} {μ : Mu} {te : TE} {tt : TT} {wi : TI} {g : TG} {vs : List Nat} {P : D → Mu → Prop}
/-- [f d for d in ds], nothing changes -/
theorem lc_map (f : D → D) (hg : GW g vs) (h : DI K B wi ρ μ fun ds S μ1 => S μ1 ∧ ds.length ≤ 100000 ∧ (∀ (i : Nat) (d : D), ds[i]? = some d → DG K B g d (wipeD ρ vs) μ1 fun ρ2 μ2 => μ2 = μ1 ∧ DE K B te ρ2 μ1 fun y μ3 => y = f d ∧ μ3 = μ1) ∧ ∀ out, ds.map f = out → P (.lst out) μ1) : DE K B (tLc wi g tYes te vs) ρ μ P := by
  refine de_lc hg fun σ G H al hB hσ hA R hR => h σ G H al hB hσ hA R fun J ds S μ1 G1 H1 al1 n1 A1 ok p => hR J ds S μ1 G1 H1 al1 n1 A1 ok ?_
  obtain ⟨hS, hl, hs, hp⟩ := p
  refine ⟨hl, fun i acc μ' => acc = (ds.take i).map f ∧ μ' = μ1, ⟨by simp, rfl⟩, fun i acc μ' _ h => by rw [h.2]; exact hS, fun i d acc μ' hd h => ?_, fun acc μ' h => ?_⟩
  · obtain ⟨rfl, rfl⟩ := h
    refine fun σ G H al v hB hσ hA rv Q hQ => hs i d hd σ G H al v hB hσ hA rv Q fun σ2 ρ2 μ2 G2 H2 al2 n2 hσ2 A2 p2 => hQ σ2 ρ2 μ2 G2 H2 al2 n2 hσ2 A2 ?_
    obtain ⟨rfl, p2⟩ := p2
    refine dt_yes ⟨fun _ => p2.imp fun y μ3 ⟨e1, e2⟩ => ⟨?_, e2⟩, fun z => by cases z⟩
    rw [e1, List.take_add_one, hd]
    simp
  · obtain ⟨rfl, rfl⟩ := h
    rw [List.take_length]
    exact hp _ rfl
/-- [f d for d in ds if p d] -/
theorem lc_filt (p : D → Bool) (f : D → D) (hg : GW g vs) (h : DI K B wi ρ μ fun ds S μ1 => S μ1 ∧ ds.length ≤ 100000 ∧ (∀ (i : Nat) (d : D), ds[i]? = some d → DG K B g d (wipeD ρ vs) μ1 fun ρ2 μ2 => μ2 = μ1 ∧ DT K B tt ρ2 μ1 fun b μ3 => b = p d ∧ μ3 = μ1 ∧ (b = true → DE K B te ρ2 μ1 fun y μ4 => y = f d ∧ μ4 = μ1)) ∧ ∀ out, (ds.filter p).map f = out → P (.lst out) μ1) : DE K B (tLc wi g tt te vs) ρ μ P := by
  refine de_lc hg fun σ G H al hB hσ hA R hR => h σ G H al hB hσ hA R fun J ds S μ1 G1 H1 al1 n1 A1 ok p' => hR J ds S μ1 G1 H1 al1 n1 A1 ok ?_
  obtain ⟨hS, hl, hs, hp⟩ := p'
  refine ⟨hl, fun i acc μ' => acc = ((ds.take i).filter p).map f ∧ μ' = μ1, ⟨by simp, rfl⟩, fun i acc μ' _ h => by rw [h.2]; exact hS, fun i d acc μ' hd h => ?_, fun acc μ' h => ?_⟩
  · obtain ⟨rfl, rfl⟩ := h
    refine fun σ G H al v hB hσ hA rv Q hQ => hs i d hd σ G H al v hB hσ hA rv Q fun σ2 ρ2 μ2 G2 H2 al2 n2 hσ2 A2 p2 => hQ σ2 ρ2 μ2 G2 H2 al2 n2 hσ2 A2 ?_
    obtain ⟨rfl, p2⟩ := p2
    refine fun σ G H al hB hσ hA Q hQ => p2 σ G H al hB hσ hA Q fun b μ3 G3 H3 al3 n3 A3 p3 => hQ b μ3 G3 H3 al3 n3 A3 ?_
    obtain ⟨hb, rfl, p3⟩ := p3
    have e : (List.take (i + 1) ds) = List.take i ds ++ [d] := by rw [List.take_add_one, hd]; rfl
    refine ⟨fun hbt => (p3 hbt).imp fun y μ4 ⟨e1, e2⟩ => ⟨?_, e2⟩, fun hbf => ⟨?_, rfl⟩⟩
    · rw [e, List.filter_append, List.map_append, e1]
      rw [hb] at hbt
      simp [hbt]
    · rw [e, List.filter_append, List.map_append]
      rw [hb] at hbf
      simp [hbf]
  · obtain ⟨rfl, rfl⟩ := h
    rw [List.take_length]
    exact hp _ rfl
end
end Dl
set_option Elab.async false
set_option linter.all false
set_option maxRecDepth 100000
namespace Dl
open PySem L2 PyProof.Rows
/-- a law's end: the written part, the function object, the contract over every base -/
theorem walk_ofW {l : PySem.W.OpenLaw} {n k : Nat} {q : Program} {loose : List Str} {XP : (Str → Option Value) → Heap → Prop} {YP : World → Heap → Prop} {d : DefRec} {x : Str}
    (hn : l.most = some n) (hn2 : n ≤ sizeLine) (hdf : d.params.defaults = []) (hr : Room k callerA)
    (F : ∀ (w : World) (mg : Str → Option Value) (fa : Addr) (h : Heap), YP w h → h.Ns mainGlobals mg → mg d.name = some (.ref fa) →
      ∃ (K : PySem.W.Frag) (fd : FuncData) (sp : Sp), K.In h ∧ (∀ (s : Shared) (u : Value), BindsTo s fd ⟨[u], []⟩ [(x, u)]) ∧
        (∀ (H : Hp) (a : Addr) (ns : List Int), ns.length ≤ n → Only H → SqL K H a (ns.map V.int) → sp [.ref a] H (fun v _ => v = .bl true) fun _ _ _ => False) ∧
        ∀ base : Heap, K.In base → base.Ns mainGlobals mg → FnOk l.prog w K mg base (L2.CX l.prog w) k fa fd [x] sp) :
    PySem.W.WalkO q loose XP YP l.row.toRowW d [] (fun f vs => PySem.call f vs) := by
  refine Att.attach_call hn hdf fun w s0 s1 mg mb fa o pm cd doc a vs ns G Y ho hd hcd hmg hobj hints hlen hg => ?_
  obtain ⟨K, fd, sp, KX, hb, hsp, hF⟩ := F w mg fa _ Y G.T.g hmg
  refine law_call KX G.T.g G.T.b G.T.builtins G.T.nolimit hg hobj hints (Nat.le_trans hlen hn2) hr hF hb (fun H hO hS => hsp H a ns hlen hO hS) fun H e s' c => ?_
  obtain ⟨_, _, _, _, _, _, _, _, _, _, _, _, z⟩ := c
  exact z
theorem law_sp {K : PySem.W.Frag} {H : Hp} {a : Addr} {ns : List Int} {C : CT} (hS : SqL K H a (ns.map V.int)) (h : C [.rdl (ns.map D.int)] [] (fun d _ => d = .bl true) (fun _ _ _ => False)) : spD K C [.ref a] H (fun v _ => v = .bl true) (fun _ _ _ => False) := by
  refine ⟨H, [], [.rdl (ns.map D.int)], [], _, _, ⟨Same.refl _, by simp, rfl, by simp, fun k a o e _ => by simp at e⟩, .cons (.rdl hS (Rps.of_ints ns)) .nil, h, ?_, ?_⟩
  · intro v d μ' G' H' al' _ _ r p
    subst p
    cases r
    rfl
  · intro C fs dd μ' G' H' al' _ _ _ p
    exact p
end Dl
set_option Elab.async false
set_option linter.all false
set_option maxRecDepth 100000
namespace Dl
open PySem L2 PyProof.Rows
section
variable {K : PySem.W.Frag} {B : Bs} {ρ : En} {μ : Mu} {P : D → Mu → Prop} {te : TE} {x y : D} {ds : List D} {i j : Int}
/-- xs[::-1] -/
theorem de_revL (h : DE K B te ρ μ fun x μ1 => ∃ ds, Ls μ1 x ds ∧ P (.lst ds.reverse) μ1) : DE K B (tRevL K te) ρ μ P := fun σ G H al hB hσ hA Q hQ =>
  h σ G H al hB hσ hA _ fun v d μ1 G1 H1 al1 n1 A1 r1 p1 => by
    obtain ⟨ds, ls, p⟩ := p1
    obtain ⟨a, vs, rfl, sq, rs⟩ := ls.get A1 r1
    refine ⟨a, vs, rfl, sq, fun p' hp => ?_⟩
    obtain ⟨A2, n2⟩ := A1.frz (o := .lst vs.reverse) hp
    exact hQ _ _ μ1 _ _ _ (n1.trans n2) A2 (.lst upd_same (rs.reverse.nx n2)) p
theorem inV_ints (i : Int) (ns : List Int) : inV (.int i) (ns.map V.int) = decide (i ∈ ns) := by
  unfold inV
  induction ns with
  | nil => simp
  | cons n ns ih =>
    rw [List.map_cons, List.any_cons, ih]
    by_cases h : n = i
    · subst h; simp [eqV]
    · have h2 : ¬ i = n := fun e => h e.symm
      simp [eqV, h, h2]
theorem inV_strs (i : Str) (ns : List Str) : inV (.str i) (ns.map V.str) = decide (i ∈ ns) := by
  unfold inV
  induction ns with
  | nil => simp
  | cons n ns ih =>
    rw [List.map_cons, List.any_cons, ih]
    by_cases h : n = i
    · subst h; simp [eqV]
    · have h2 : ¬ i = n := fun e => h e.symm
      simp [eqV, h, h2]
theorem flat_ints (ns : List Int) : (ns.map V.int).all flatV = true := by simp [flatV]
theorem flat_strs (ns : List Str) : (ns.map V.str).all flatV = true := by simp [flatV]
theorem ro_notInI {ns : List Int} (hl : Ls μ y (ns.map D.int)) (h : P (.bl (!decide (i ∈ ns))) μ) : RO K (rNotInA K) (.int i) y μ P := fun G H al v w A r1 r2 Q hQ => by
  obtain ⟨a, vs, rfl, sq, rs⟩ := hl.get A r2
  cases r1
  have e := rs.ints; subst e
  refine .inl ⟨a, _, rfl, .inl sq, rfl, flat_ints ns, hQ.now A (.bl _) ?_⟩
  rw [if_pos rfl, inV_ints]; exact h
theorem ro_inS {s : Str} {ns : List Str} (hl : Ls μ y (ns.map D.str)) (h : P (.bl (decide (s ∈ ns))) μ) : RO K (rInA K) (.str s) y μ P := fun G H al v w A r1 r2 Q hQ => by
  obtain ⟨a, vs, rfl, sq, rs⟩ := hl.get A r2
  cases r1
  have e := rs.strs; subst e
  refine .inl ⟨a, _, rfl, .inl sq, rfl, flat_strs ns, hQ.now A (.bl _) ?_⟩
  rw [if_neg (by simp), inV_strs]; exact h
theorem ro_notInS {s : Str} {ns : List Str} (hl : Ls μ y (ns.map D.str)) (h : P (.bl (!decide (s ∈ ns))) μ) : RO K (rNotInA K) (.str s) y μ P := fun G H al v w A r1 r2 Q hQ => by
  obtain ⟨a, vs, rfl, sq, rs⟩ := hl.get A r2
  cases r1
  have e := rs.strs; subst e
  refine .inl ⟨a, _, rfl, .inl sq, rfl, flat_strs ns, hQ.now A (.bl _) ?_⟩
  rw [if_pos rfl, inV_strs]; exact h
theorem eqv_nil (ds : List D) : eqvD (.lst ds) (.lst []) = decide (ds = []) := by
  cases ds with
  | nil => simp [eqvD_lst, eqvL, pyL, PyData.eqvAll]
  | cons d ds => simp [eqvD_lst, eqvL, pyL, PyData.eqvAll]
/-- .. of at most a hundred thousand -/
def Sz (n : Nat) : Prop := n ≤ 100000
theorem de_tupZ {ts : TA} (h : DA K B ts ρ μ fun xs μ1 => Sz xs.length ∧ P (.tup xs) μ1) : DE K B (tTup ts) ρ μ P := de_tup h
theorem de_lstZ {ts : TA} (h : DA K B ts ρ μ fun xs μ1 => Sz xs.length ∧ P (.lst xs) μ1) : DE K B (tLst ts) ρ μ P := de_lst h
theorem de_lstOZ {ts : TA} (h : DA K B ts ρ μ fun xs μ1 => Sz xs.length ∧ P (.own μ1.length) (μ1 ++ [.lst xs])) : DE K B (tLst ts) ρ μ P := de_lstO h
/-- two things -/
def Two (ds : List D) (F : D → D → Prop) : Prop := ∃ x y, ds = [x, y] ∧ F x y
theorem two_i {F : D → D → Prop} (h : F x y) : Two [x, y] F := ⟨x, y, rfl, h⟩
theorem ds_parZ {ts : TA} {i j : Nat} {P : DEnds} (h : DA K B ts ρ μ fun ds μ1 => Two ds fun x y => P.nx ((ρ.set i (some x)).set j (some y)) μ1) : DS K B (tPar i j ts) ρ μ P := ds_par h
theorem q_parZ {ts : TA} {i j : Nat} {u : TS} {P : DEnds} (h : DA K B ts ρ μ fun ds μ1 => Two ds fun x y => DS K B u ((ρ.set i (some x)).set j (some y)) μ1 P) : DS K B (tSeq (tPar i j ts) u) ρ μ P := q_par h
theorem rs_anyL {lo hi : Option Int} (hl : Ls μ x ds) (h : P (.lst (cutD ds lo hi)) μ) : RS K (rSlA K) x lo hi μ P := fun G H al v A r Q hQ => .inl (rs_lst hl h G H al v A r Q hQ)
end
end Dl
set_option Elab.async false
set_option linter.all false
set_option maxRecDepth 100000
namespace L2
open PySem PySem.Spec PyProof.Rows
section
variable {X : Cx}
/-- o[i] of a list, by values -/
theorem get_list : PGet X (rIxL X.K) := by
  intro pins s σ H x y v u Q I rx ry h
  obtain ⟨p, xs, i, z, rfl, rfl, hq, he, q⟩ := h
  cases rx
  obtain ⟨t, rfl⟩ := ry
  obtain ⟨its, r, pl, hz⟩ := I.list hq
  obtain ⟨j, h1, h2, h3, h4, h5⟩ := atI_get he
  obtain ⟨w, ew, rw'⟩ := r.get h2
  have hl := r.length
  have hn := line63
  have fin : EP X pins σ Q w s := ⟨z, H, I, rw', q⟩
  by_cases h0 : 0 ≤ i
  · have hj : i.toNat = j := by
      rw [seqIndex_of h0 h5] at h1
      exact Option.some.inj h1
    exact wpAny_getItem_list pl.isList h0 (by omega) (by rw [hj]; simpa using ew) fin
  · have hj : (i + (its.toArray.size : Int)).toNat = j := by
      rw [seqIndex_neg (by omega) h4] at h1
      rw [List.size_toArray, ← hl]
      exact Option.some.inj h1
    exact wpAny_getItem_list_neg pl.isList (by omega) (by rw [List.size_toArray] <;> omega) (by omega) (by rw [hj]; simpa using ew) fin
end
end L2
namespace Dl
open PySem L2 PyProof.Rows
section
variable {K : PySem.W.Frag} {B : Bs} {ρ : En} {μ : Mu} {te to ti : TE} {t u : TS} {x y d : D} {ds : List D} {i j : Int}
theorem ro_ixLL {P : D → Mu → Prop} (hl : Ls μ x ds) (e : atI ds i = some d) (h : P d μ) : RO K (rIxL K) x (.int i) μ P := fun G H al v w A r1 r2 Q hQ => by
  obtain ⟨a, vs, rfl, sq, rs⟩ := hl.get A r1
  cases r2
  obtain ⟨w, hw, rw'⟩ := atI_rps rs e
  exact ⟨a, vs, i, w, rfl, rfl, sq, hw, hQ.now A rw' h⟩
theorem ds_augS {P : DEnds} {tip : TIp} {tset : TSet} {tget : V → V → Hp → VK → Prop} (h : DE K B to ρ μ fun o μ1 => DE K B ti ρ μ1 fun i μ2 => RO K tget o i μ2 fun x μ3 => DE K B te ρ μ3 fun y μ4 => RO K tip x y μ4 fun z μ5 => RSet K tset o i z μ5 fun μ6 => P.nx ρ μ6) : DS K B (tAugS to ti te tget tip tset) ρ μ P := fun σ G H al hB hσ hA De hD =>
  h σ G H al hB hσ hA _ fun vo o μ1 G1 H1 al1 n1 A1 r1 p1 => p1 σ G1 H1 al1 (hB.trans n1) (hσ.nx n1) A1 _ fun vi i μ2 G2 H2 al2 n2 A2 r2 p2 =>
    p2 G2 H2 al2 vo vi A2 (r1.nx n2) r2 _ fun vx x μ3 G3 H3 al3 n3 A3 r3 p3 =>
      p3 σ G3 H3 al3 ((hB.trans n1).trans (n2.trans n3)) (((hσ.nx n1).nx n2).nx n3) A3 _ fun vy y μ4 G4 H4 al4 n4 A4 r4 p4 =>
        p4 G4 H4 al4 vx vy A4 (r3.nx n4) r4 _ fun vz z μ5 G5 H5 al5 n5 A5 r5 p5 =>
          p5 G5 H5 al5 vo vi vz A5 ((((r1.nx n2).nx n3).nx n4).nx n5) (((r2.nx n3).nx n4).nx n5) r5 _ fun μ6 G6 H6 al6 n6 A6 p6 =>
            hD.nx _ _ μ6 G6 H6 al6 (((((n1.trans n2).trans n3).trans n4).trans n5).trans n6) ((((((hσ.nx n1).nx n2).nx n3).nx n4).nx n5).nx n6) A6 p6
theorem q_augS {P : DEnds} {tip : TIp} {tset : TSet} {tget : V → V → Hp → VK → Prop} (h : DE K B to ρ μ fun o μ1 => DE K B ti ρ μ1 fun i μ2 => RO K tget o i μ2 fun x μ3 => DE K B te ρ μ3 fun y μ4 => RO K tip x y μ4 fun z μ5 => RSet K tset o i z μ5 fun μ6 => DS K B u ρ μ6 P) : DS K B (tSeq (tAugS to ti te tget tip tset) u) ρ μ P := ds_seq (ds_augS h)
/-! ### fields, methods -/
/-- a field's data -/
def FldP (K : PySem.W.Frag) (μ : Mu) (x : D) (f : Str) (P : D → Prop) : Prop := ∃ C gs d, (x = .obj C gs ∨ ∃ k, x = .own k ∧ μ[k]? = some (.ins C gs)) ∧ Cls K C ∧ NoAttr K C f ∧ gs.lookup f = some d ∧ P d
theorem de_fldZ {f : Str} {P : D → Mu → Prop} (h : DE K B te ρ μ fun x μ1 => FldP K μ1 x f fun d => P d μ1) : DE K B (tFld K te f) ρ μ P := de_fld h
theorem fp_obj {f : Str} {C : Addr} {gs : List (Str × D)} {P : D → Prop} (c : Cls K C) (n : NoAttr K C f) (l : gs.lookup f = some d) (h : P d) : FldP K μ (.obj C gs) f P := ⟨C, gs, d, .inl rfl, c, n, l, h⟩
theorem fp_own {f : Str} {k : Nat} {C : Addr} {gs : List (Str × D)} {P : D → Prop} (hk : μ[k]? = some (.ins C gs)) (c : Cls K C) (n : NoAttr K C f) (l : gs.lookup f = some d) (h : P d) : FldP K μ (.own k) f P := ⟨C, gs, d, .inr ⟨k, rfl, hk⟩, c, n, l, h⟩
def MethP (μ : Mu) (Cc : Addr) (m : Str) (x : D) (P : Prop) : Prop := ∃ gs, (x = .obj Cc gs ∨ ∃ k, x = .own k ∧ μ[k]? = some (.ins Cc gs)) ∧ gs.lookup m = none ∧ P
theorem de_methZ {Cc : Addr} {m : Str} {C : CT} {E : XK} {PX : PXT} {ts : TA} {P : D → Mu → Prop} (hE : XAg K B PX E) (h : DE K B te ρ μ fun x μ1 => MethP μ1 Cc m x (DA K B ts ρ μ1 fun ds μ2 => C (x :: ds) μ2 P PX)) : DE K B (tMeth Cc m (spD K C) [] E te ts) ρ μ P := de_meth hE h
theorem mp_obj {Cc : Addr} {m : Str} {gs : List (Str × D)} {P : Prop} (l : gs.lookup m = none) (h : P) : MethP μ Cc m (.obj Cc gs) P := ⟨gs, .inl rfl, l, h⟩
theorem mp_own {Cc : Addr} {m : Str} {k : Nat} {gs : List (Str × D)} {P : Prop} (hk : μ[k]? = some (.ins Cc gs)) (l : gs.lookup m = none) (h : P) : MethP μ Cc m (.own k) P := ⟨gs, .inr ⟨k, rfl, hk⟩, l, h⟩
/-- a store into a field -/
def PutP (K : PySem.W.Frag) (μ : Mu) (x y : D) (f : Str) (P : Mu → Prop) : Prop := ∃ k C gs, x = .own k ∧ μ[k]? = some (.ins C gs) ∧ Cls K C ∧ NoAttr K C f ∧ gs.length < 1000 ∧ P (μ.set k (.ins C (putD f y gs)))
theorem ds_fldZ {f : Str} {tb : TE} {P : DEnds} (h : DE K B tb ρ μ fun y μ1 => DE K B te ρ μ1 fun x μ2 => PutP K μ2 x y f fun μ3 => P.nx ρ μ3) : DS K B (sFld K te tb f) ρ μ P := ds_fld h
theorem q_fldZ {f : Str} {tb : TE} {P : DEnds} (h : DE K B tb ρ μ fun y μ1 => DE K B te ρ μ1 fun x μ2 => PutP K μ2 x y f fun μ3 => DS K B u ρ μ3 P) : DS K B (tSeq (sFld K te tb f) u) ρ μ P := q_fld h
theorem pp_own {f : Str} {k : Nat} {C : Addr} {gs : List (Str × D)} {P : Mu → Prop} (hk : μ[k]? = some (.ins C gs)) (c : Cls K C) (n : NoAttr K C f) (l : gs.length < 1000) (h : P (μ.set k (.ins C (putD f y gs)))) : PutP K μ (.own k) y f P := ⟨k, C, gs, rfl, hk, c, n, l, h⟩
/-! ### steps in thought alone: what is known of the store is put otherwise -/
def Gh (K : PySem.W.Frag) (μ μ2 : Mu) : Prop := ∀ G H al, As K G H al μ → ∃ G', As K G' H al μ2 ∧ Nx G H al G' H al
theorem Gh.refl : Gh K μ μ := fun G H al A => ⟨G, A, .refl⟩
theorem Gh.trans {μ1 μ2 : Mu} (h : Gh K μ μ1) (h' : Gh K μ1 μ2) : Gh K μ μ2 := fun G H al A => by
  obtain ⟨G1, A1, n1⟩ := h G H al A
  obtain ⟨G2, A2, n2⟩ := h' G1 H al A1
  exact ⟨G2, A2, n1.trans n2⟩
theorem ds_ghost {P : DEnds} {μ2 : Mu} (g : Gh K μ μ2) (h : DS K B t ρ μ2 P) : DS K B t ρ μ P := fun σ G H al hB hσ hA De hD => by
  obtain ⟨G1, A1, n1⟩ := g G H al hA
  exact h σ G1 H al (hB.trans n1) (hσ.nx n1) A1 De (hD.nx' n1)
/-- .. behind a statement -/
theorem ds_ghostN {P : DEnds} (h : DS K B t ρ μ { P with nx := fun ρ1 μ1 => ∃ μ2, Gh K μ1 μ2 ∧ P.nx ρ1 μ2 }) : DS K B t ρ μ P := fun σ G H al hB hσ hA De hD =>
  h σ G H al hB hσ hA De ⟨fun σ' ρ' μ' G' H' al' n' hσ' A' p => by
    obtain ⟨μ2, g, p⟩ := p
    obtain ⟨G1, A1, n1⟩ := g G' H' al' A'
    exact hD.nx σ' ρ' μ2 G1 H' al' (n'.trans n1) (hσ'.nx n1) A1 p, hD.rt, hD.bk, hD.ct⟩
end
theorem rpf_own {K : PySem.W.Frag} {G : Hp} {al : List Addr} {a : Addr} {j : Nat} {d : D} {f : Str} (ha : al[j]? = some a) (r : Rp K G al (.ref a) d) : ∀ {gs : List (Str × D)} {fs : List (Str × V)}, Rpf K G al fs gs → gs.lookup f = some (.own j) → Rpf K G al fs (putD f d gs)
  | [], _, _, e => by simp at e
  | (g, x) :: gs, _, h, e => by
    cases h with
    | @cons _ v vs _ _ r0 t =>
      unfold putD
      rw [List.lookup_cons] at e
      split
      · rename_i hg
        subst hg
        simp at e
        subst e
        cases r0 with
        | own e2 => rw [ha] at e2; cases e2; exact .cons r t
      · rename_i hg
        have hg2 : (f == g) = false := by simp; exact fun e => hg e.symm
        rw [hg2] at e
        exact .cons r0 (rpf_own ha r t e)
/-- a list in a field is frozen -/
theorem gh_fld {K : PySem.W.Frag} {μ : Mu} {k j : Nat} {C : Addr} {gs : List (Str × D)} {f : Str} {ds : List D} (hk : μ[k]? = some (.ins C gs)) (hl : gs.lookup f = some (.own j)) (hj : μ[j]? = some (.lst ds)) : Gh K μ ((μ.set j .dead).set k (.ins C (putD f (.lst ds) gs))) := fun G H al A => by
  obtain ⟨a, ha, ga, vs, hv, rs⟩ := A.get hj
  obtain ⟨A1, n1⟩ := A.freeze ha hv ga
  have hjk : j ≠ k := fun e => by rw [e, hk] at hj; cases hj
  have hk1 : (μ.set j .dead)[k]? = some (.ins C gs) := by rw [List.getElem?_set_ne hjk]; exact hk
  obtain ⟨b, hb, gb, dx, fs, hfs, rf⟩ := A1.get hk1
  have r2 : Rp K (upd G a (.lst vs)) al (.ref a) (.lst ds) := .lst upd_same (rs.nx n1)
  have hup : upd H b (.ins C dx fs) = H := by
    funext z
    by_cases hz : z = b
    · subst hz; rw [upd_same, hfs]
    · rw [upd_ne hz]
  obtain ⟨A2, n2⟩ := A1.put (o := .ins C dx fs) (m' := .ins C (putD f (.lst ds) gs)) hb hk1 (by simp) ⟨gb, dx, fs, upd_same, rpf_own ha r2 rf hl⟩
  rw [hup] at A2 n2
  exact ⟨_, A2, n1.trans n2⟩
theorem atNN {α : Type} {xs : List α} {i : Int} (h0 : 0 ≤ i) (h1 : i < xs.length) : ∃ x, atI xs i = some x ∧ xs[i.toNat]? = some x := by
  have h : i.toNat < xs.length := by omega
  refine ⟨xs[i.toNat], ?_, List.getElem?_eq_getElem h⟩
  have e : ((i.toNat : Nat) : Int) = i := by omega
  have := atI_nat (List.getElem?_eq_getElem h)
  rw [e] at this
  exact this
theorem log2S {m : Int} (h0 : 0 < m) (h : m < 2 ^ 200) : m.natAbs.log2 < 9000 := by
  have h1 : m.natAbs < 2 ^ 200 := by omega
  have : m.natAbs.log2 < 200 := (Nat.log2_lt (by omega)).mpr h1
  omega
end Dl
set_option Elab.async false
set_option linter.all false
set_option maxRecDepth 100000
/-! sets of any number of texts: how many there are -/
namespace DlSet
open PySem PySem.Spec PyProof.Rows
abbrev setO (led : Bool) : Obj := { cls := .type "set", dict := none, data := .set #[] 0 (.fresh 0 0 led) }
def ded (xs : List Str) (i : Nat) : List Str := (xs.take i).foldl (fun σ v => if σ.any (· == v) then σ else σ ++ [v]) []
theorem ded_succ {xs : List Str} {i : Nat} {x : Str} (h : xs[i]? = some x) : ded xs (i + 1) = if (ded xs i).any (· == x) then ded xs i else ded xs i ++ [x] := by
  unfold ded
  rw [List.take_add_one, h, List.foldl_append]
  rfl
theorem ded_len (xs : List Str) (i : Nat) : (ded xs i).length ≤ i := by
  induction i with
  | zero => simp [ded]
  | succ i ih =>
    cases q : xs[i]? with
    | none =>
      have : xs.take (i + 1) = xs.take i := by rw [List.take_add_one, q]; simp
      unfold ded at ih ⊢
      rw [this]; omega
    | some x =>
      rw [ded_succ q]
      split
      · omega
      · simp; omega
section
variable {prog : Program} {w : World} {A : Around} {R : Result → Shared → Prop} {I : Addr} {fp wr : List Addr} {G : Array GenState → Array GenState → Prop} {n : Nat} {P : Nat → Value → Prop} {St : Nat → Shared → Prop}
theorem loopS (W : WalksS prog w A.in1 I fp wr G n P St) (S : Addr) (hSf : S ∉ fp) (xs : List Str) (hsz : xs.length = n) (hb : n + 1 < scanBound)
    (hval : ∀ i v, P i v → ∃ t, v = .str (xs.getD i Str.empty) t) :
    ∀ (k i : Nat) (s : Shared), n - i = k → i ≤ n → St i s →
      s.heap.SetOf (PySem.strKind prog w) S (fun k' => (ded xs i).any (· == k')) (ded xs i).length →
      (∀ s', Moved (S :: wr) G s s' → s'.heap.SetOf (PySem.strKind prog w) S (fun k' => (ded xs n).any (· == k')) (ded xs n).length → R (.ok (.ret .none)) s') →
      codeAny (model prog w) A (.builtin "set.update.loop" ⟨[.ref S, .ref I], []⟩) R s := by
  have hSw : S ∉ wr := fun h => hSf (W.sub _ h)
  have hsub : ∀ b ∈ wr, b ∈ S :: wr := fun b hb => List.mem_cons_of_mem _ hb
  intro k
  induction k with
  | zero =>
    intro i s hk hi hst hS hR
    have hin : i = n := by omega
    subst hin
    refine codeAny_builtin PyProof.Rows.F.entry_set_update_loop ?_
    rw [Around.under_plainId PyProof.Rows.F.plain_set_update_loop _]
    show wpAny _ A.in1 (pyNext (.ref I) >>= _) _ _ s
    refine wpAny_bind (W.done s _ _ hst fun s' hm => ?_)
    show wpAny _ A.in1 (ret Value.none) _ _ s'
    refine wpAny_pure (hR s' (hm.mono hsub) ?_)
    obtain ⟨o, es, ep, t, ho, rest⟩ := hS
    exact ⟨o, es, ep, t, hm.heap S _ hSw ho, rest⟩
  | succ k ih =>
    intro i s hk hi hst hS hR
    have hlt : i < n := by omega
    have hx : xs[i]? = some (xs.getD i Str.empty) := by
      rw [List.getD_eq_getElem?_getD, List.getElem?_eq_getElem (by omega)]
      rfl
    refine codeAny_builtin PyProof.Rows.F.entry_set_update_loop ?_
    rw [Around.under_plainId PyProof.Rows.F.plain_set_update_loop _]
    show wpAny _ A.in1 (pyNext (.ref I) >>= _) _ _ s
    refine wpAny_bind (W.item i s _ _ hlt hst fun v s' hP hst' hm => ?_)
    obtain ⟨t, rfl⟩ := hval i v hP
    have hS' : s'.heap.SetOf (PySem.strKind prog w) S (fun k' => (ded xs i).any (· == k')) (ded xs i).length := by
      obtain ⟨o, es, ep, tb, ho, rest⟩ := hS
      exact ⟨o, es, ep, tb, hm.heap S _ hSw ho, rest⟩
    show wpAny _ A.in1 (holding [Value.str (xs.getD i Str.empty) t] (setAdd S (.str (xs.getD i Str.empty) t)) >>= _) _ _ s'
    refine wpAny_bind (wpAny_holding ?_)
    unfold setAdd
    refine wpAny_holding ?_
    refine wpAny_bind ((PySem.strKind prog w).pyHash (k := xs.getD i Str.empty) (strKind_is _ _ _ _) ?_)
    have hroom : (ded xs i).length + 1 < scanBound := by have := ded_len xs i; omega
    refine wpAny_setAddHashed_of (knd := PySem.strKind prog w) (s := { s' with toks := s'.toks + 1 }) (strKind_is _ _ _ _) rfl hS' hroom fun h' hsb hS2 => ?_
    have hSi : h'.SetOf (PySem.strKind prog w) S (fun k' => (ded xs (i + 1)).any (· == k')) (ded xs (i + 1)).length := by
      refine SetOf_congr hS2 (fun k' => ?_) ?_
      · rw [ded_succ hx]
        by_cases hc : (ded xs i).any (· == xs.getD i Str.empty) = true
        · rw [if_pos hc]
          by_cases e : k' = xs.getD i Str.empty
          · subst e; rw [hc]; simp
          · rw [decide_eq_false e, Bool.or_false]
        · rw [if_neg hc, List.any_append]
          congr 1
          by_cases e : k' = xs.getD i Str.empty
          · subst e; simp
          · have : (xs.getD i Str.empty == k') = false := by simpa [beq_iff_eq] using (fun h' => e h'.symm)
            simp only [List.any_cons, List.any_nil, Bool.or_false, this]
            simpa using e
      · rw [ded_succ hx]
        split <;> simp
    refine wpAny_pure ⟨plainId_quiet PyProof.Rows.F.plain_set_update_loop _, ih (i + 1) _ (by omega) hlt (W.frame _ s' _ _ hst' (Nat.le_succ _) fun b hb o e => ?_) hSi fun s'' hm'' hS'' => ?_⟩
    · rw [hsb.2 b (fun h : b = S => hSf (by rw [← h]; exact hb))]; exact e
    · refine hR s'' (Moved.trans W.gtrans ((hm.mono hsub).then_heap (Nat.le_succ _) fun b o hb e => ?_) hm'') hS''
      rw [hsb.2 b (fun h : b = S => hb (by rw [h]; exact List.mem_cons_self))]; exact e
end
section
variable {prog : Program} {w : World} {A : Around} {E : Value → Shared → Prop} {s : Shared}
set_option maxHeartbeats 3200000 in
theorem call_set_texts {l : Addr} {items : Array Value} {xs : List Str} {Q : Value → Shared → Prop}
    (hh : A.handled = none) (hl : s.heap.IsList l items) (hi : PyProof.Rows.StrsAre items.toList xs) (hb : items.size + 1 < scanBound)
    (h : ∀ (h' : Heap) (tk : Nat), h'.SetOf (PySem.strKind prog w) s.heap.objs.size (fun k' => (ded xs items.size).any (· == k')) (ded xs items.size).length →
      (∀ b o, b < s.heap.objs.size → s.heap.get? b = some o → h'.get? b = some o) → Q (.ref s.heap.objs.size) { s with heap := h', toks := tk }) :
    wpAny (model prog w) A (call (.type "set") [.ref l]) Q E s := by
  obtain ⟨c, tl, hmro⟩ := PySem.F.called_set.mro
  have hmade := PySem.F.called_set.made
  have hsub := PySem.F.called_set.sub
  refine wpAny_call (codeAny_of_tree ?_)
  show wpAny _ _ (callAny (.type "set") _) _ _ _
  refine wpAny_pure ⟨Code.quiet_builtin _ (by decide +kernel), codeAny_builtin PySem.F.entry_type_call ?_⟩
  rw [Around.under_plain (weight_type_call_type "set" [.ref l] []) rfl]
  have h1 := PySem.F.called_set.notType
  have h2 := PySem.F.called_set.canCreate
  have hct := PySem.F.typeCall_set_1 (.ref l)
  repeat (any_goals (first | assumption | wp_step))
  refine codeAny_mono (code_set_new_1 (.ref l) (E := E) (Q₁ := fun obj s₁ => ∃ led : Bool, obj = .ref s.heap.objs.size ∧ s₁ = { s with heap := s.heap.push (setO led) }) fun led => ⟨led, rfl, rfl⟩) fun r s₁ hr => ?_
  match r, hr with
  | .error e, hr => exact hr
  | .ok .next, hr => exact hr.elim
  | .ok .brk, hr => exact hr.elim
  | .ok .cont, hr => exact hr.elim
  | .ok (.ret obj), hr =>
    obtain ⟨led, rfl, rfl⟩ := hr
    have hS : (s.heap.push (setO led)).get? s.heap.objs.size = some (setO led) := Heap.get?_push_size _ rfl
    have hT : Shared.TypeIs { s with heap := s.heap.push (setO led) } (.ref s.heap.objs.size) "set" := ⟨_, hS, rfl⟩
    have hli := PySem.F.called_set.init.lookup
    have hbi := PySem.F.called_set.init.bind (.ref s.heap.objs.size)
    repeat (any_goals (first | assumption | wp_step))
    refine codeAny_mono (codeAny_call_builtin (R := wants (fun r s₂ => r = .none ∧ ∃ h' tk, s₂ = { s with heap := h', toks := tk } ∧
        h'.SetOf (PySem.strKind prog w) s.heap.objs.size (fun k' => (ded xs items.size).any (· == k')) (ded xs items.size).length ∧
        (∀ b o, b < s.heap.objs.size → s.heap.get? b = some o → h'.get? b = some o)) E) PySem.F.called_set.init.plain PySem.F.entry_set_init (check_set_init_1 hT ?_)) fun r₂ s₂ hr₂ => ?_
    · obtain ⟨⟨ocls, odict, odata, oslots⟩, hol, hcl, nl, hdl⟩ := hl
      simp only at hcl hdl
      subst hcl; subst hdl
      have hol' : (s.heap.push (setO led)).get? l = some { cls := .type "list", dict := odict, data := .seq items nl, slots := oslots } := Heap.get?_push_of_some _ hol
      have hsls := PySem.F.sub_list_set
      have hslf := PySem.F.sub_list_frozenset
      have hne : (Value.type "list" == Value.type "dict") = false := by decide
      have hl1 : (s.heap.push (setO led)).IsList l items := ⟨_, hol', rfl, nl, rfl⟩
      unfold Builtin.«set.__init__» noKeywords Builtin.Frozenset.updateFrom
      generalize hPI : pyIter = PI
      wp_walk
      subst hPI
      refine wpAny_pyIter_list hl1 ?_
      refine wpAny_bind (wpAny_runValue ?_)
      have hlS : l < s.heap.objs.size := Heap.lt_size hol
      have hh3 : A.in1.in1.in1.handled = none := by simp [hh]
      have hneI : l ≠ (s.heap.push (setO led)).objs.size := by
        rw [Heap.size_push]; exact Nat.ne_of_lt (Nat.lt_succ_of_lt hlS)
      have hSf : s.heap.objs.size ∉ [(s.heap.push (setO led)).objs.size, l] := by
        rw [Heap.size_push]
        intro hx
        rcases List.mem_cons.mp hx with e | e
        · exact Nat.ne_of_lt (Nat.lt_succ_self _) e
        · exact Nat.ne_of_gt hlS (List.mem_singleton.mp e)
      have hsz : xs.length = items.size := by rw [← StrsAre.len_eq hi, Array.length_toList]
      refine loopS ((Walks.list hh3 _ l hneI items).toS) s.heap.objs.size hSf xs hsz hb (fun i v hv => SS.strs_at hi i v (by rw [Array.getElem?_toList]; exact hv)) items.size 0 _ rfl (Nat.zero_le _)
        ⟨⟨_, Heap.get?_push_size _ rfl, rfl, rfl⟩, (hl1.push _)⟩ ?_ fun s' hm hS' => ?_
      · have hget : ((s.heap.push (setO led)).push { cls := .type "list_iterator", data := .fields #[.ref l, .int 0 0] }).get? s.heap.objs.size = some (setO led) := Heap.get?_push_of_some _ hS
        exact PyProof.Rows.SetOf_congr ((PyProof.Rows.setObjOf_fresh (knd := PySem.strKind prog w) led).setOf hget (by unfold scanBound; omega)) (fun _ => by simp [ded]) (by simp [ded])
      · obtain ⟨h', g', d', tk', os'⟩ := s'
        have eg : g' = s.gens := hm.gens
        have ed : d' = s.drawn := hm.drawn
        have eo : os' = s.os := hm.os
        subst eg; subst ed; subst eo
        show wpAny _ _ _ _ _ _
        refine wpAny_pure ?_
        show wpAny _ _ (ret Value.none) _ _ _
        refine wpAny_pure ⟨rfl, h', tk', rfl, hS', fun b o hb' e => ?_⟩
        refine hm.heap b o ?_ (Heap.get?_push_of_some _ (Heap.get?_push_of_some _ e))
        intro hx
        rw [Heap.size_push] at hx
        rcases List.mem_cons.mp hx with e' | e'
        · exact Nat.ne_of_lt hb' e'
        · exact Nat.ne_of_lt (Nat.lt_succ_of_lt hb') (List.mem_singleton.mp e')
    · match r₂, hr₂ with
      | .error e, hr₂ => exact hr₂
      | .ok .next, hr₂ => exact hr₂.elim
      | .ok .brk, hr₂ => exact hr₂.elim
      | .ok .cont, hr₂ => exact hr₂.elim
      | .ok (.ret r), hr₂ =>
        obtain ⟨rfl, h', tk, rfl, hS', hk'⟩ := hr₂
        repeat (any_goals (first | assumption | wp_step))
        exact h _ _ hS' hk'
end
end DlSet
namespace L2
open PySem PySem.Spec PyProof.Rows
/-- len(set(xs)) of a list of texts -/
def tLenSetS (K : PySem.W.Frag) (ta : TE) : TE := fun σ H Q => ta σ H fun x H1 => ∃ (l : Addr) (xs : List Str), x = .ref l ∧ SqL K H1 l (xs.map V.str) ∧ xs.length ≤ 4000 ∧ Q (.int ((DlSet.ded xs xs.length).length : Nat)) H1
theorem pe_lenSetS {X : Cx} {a : Expr} {ta : TE} {p p2 q pos : Pos} (hg : Gl X "len") (hm : X.mg "len" = none) (hg2 : Gl X "set") (hm2 : X.mg "set" = none) (ha : PE X a ta) (hc : X.calm = true := by rfl)
    (na : starEach [a] X.env = (false, eval a X.env) :: starEach [] X.env := by rfl) : PE X (.Call (.Name "len" p) [.Call (.Name "set" p2) [a] [] q] [] pos) (tLenSetS X.K ta) := by
  refine ⟨fun pins s σ H Q I h => ?_⟩
  refine Call_ (ld_blt I hg hm boot_len ?_)
  refine PyProof.Rows.callWith_builtin1 (PyProof.Rows.args_cons ?_ rfl) rfl rfl
  refine Call_ (ld_blt I hg2 hm2 boot_set ?_)
  refine PyProof.Rows.callWith_type1 (PyProof.Rows.args_cons (thn (ha.run pins s σ H _ I h) fun v s1 ⟨x, H1, I1, r1, q1⟩ => PyProof.Rows.args_nil ?_) na) na rfl
  obtain ⟨l, xs, rfl, hq, hl, q1⟩ := q1
  cases r1
  obtain ⟨its, r, pl, hz⟩ := I1.list hq
  have hlen : its.toArray.size = xs.length := by rw [List.size_toArray, ← r.length, List.length_map]
  refine DlSet.call_set_texts (I1.ok.hd hc) pl.isList (by simpa using strsAre_of r) (by rw [hlen]; unfold scanBound; omega) fun h' tk hS hk => ?_
  refine PyProof.Rows.args_nil ?_
  rw [hlen] at hS
  obtain ⟨o, es, ep, t, ho, hex, hd, _, _, _, hf, hn⟩ := hS
  have I2 : Inv X pins σ H1 { s1 with heap := h', toks := tk } := I1.kept fun b o e => hk b o (Heap.lt_size e) e
  have hdl := DlSet.ded_len xs xs.length
  exact call_len_set ho hex hd hf (by rw [hn] <;> omega) ⟨.int _, H1, I2.tok _, ⟨_, by rw [hn]⟩, q1⟩
end L2
set_option Elab.async false
set_option linter.all false
set_option maxRecDepth 100000
namespace L2
open PySem
def rJoin (K : PySem.W.Frag) : V → List V → Hp → VK → Prop := fun x xs H Q => ∃ a p, ∃ ys : List Str, x = .str a ∧ xs = [.ref p] ∧ (SqL K H p (ys.map V.str) ∨ SqT K H p (ys.map V.str)) ∧ (ys.map (·.length)).sum + ys.length * a.length ≤ 16777216 ∧ Q (.str (Txt.join a ys)) H
end L2
namespace Dl
open PySem L2 PyProof.Rows
section
variable {K : PySem.W.Frag} {B : Bs} {ρ : En} {μ : Mu} {P : D → Mu → Prop} {te : TE} {x y : D} {ds : List D} {i j : Int}
theorem ty_str {s : Str} : ∀ G H al v, As K G H al μ → Rp K G al v (.str s) → tyV K "str" v H := fun G H al v A r => by
  cases r
  rfl
theorem rm_join {a : Str} {ys : List Str} (hl : Ls μ x (ys.map D.str)) (hz : (ys.map (·.length)).sum + ys.length * a.length ≤ 100000) (h : P (.str (Txt.join a ys)) μ) : RM K (rJoin K) (.str a) [x] μ P := fun G H al v vs A r rs Q hQ => by
  obtain ⟨w, rfl, r1⟩ := rps1 rs
  obtain ⟨p, ws, rfl, sq, rs2⟩ := hl.get A r1
  cases r
  have e := rs2.strs
  subst e
  exact ⟨a, p, ys, rfl, rfl, .inl sq, by omega, hQ.now A (.str _) h⟩
theorem de_lenSetS (h : DE K B te ρ μ fun x μ1 => ∃ xs : List Str, Ls μ1 x (xs.map D.str) ∧ xs.length ≤ 4000 ∧ P (.int ((DlSet.ded xs xs.length).length : Nat)) μ1) : DE K B (tLenSetS K te) ρ μ P := fun σ G H al hB hσ hA Q hQ =>
  h σ G H al hB hσ hA _ fun v d μ1 G1 H1 al1 n1 A1 r1 p1 => by
    obtain ⟨xs, ls, hl, p⟩ := p1
    obtain ⟨a, vs, rfl, sq, rs⟩ := ls.get A1 r1
    have e := rs.strs
    subst e
    exact ⟨a, xs, rfl, sq, hl, (hQ.nx n1).now A1 (.int _) p⟩
theorem de_lstRg1 (h : DE K B te ρ μ fun x μ1 => ∃ n : Int, x = .int n ∧ 0 ≤ n ∧ n ≤ 100000 ∧ P (.lst (rangeD 0 n.toNat)) μ1) : DE K B (tLstRg (tRg1 te)) ρ μ P := fun σ G H al hB hσ hA Q hQ =>
  h σ G H al hB hσ hA _ fun v d μ1 G1 H1 al1 n1 A1 r1 p1 => by
    obtain ⟨n, rfl, h0, h1, p⟩ := p1
    cases r1
    refine ⟨n, rfl, ⟨by omega, by omega, by omega, by omega, by omega⟩, fun q hq => ?_⟩
    obtain ⟨A2, n2⟩ := A1.frz (o := .lst (rgV 0 n)) hq
    refine hQ _ _ μ1 _ _ _ (n1.trans n2) A2 (.lst upd_same ?_) p
    unfold rgV rangeD
    rw [show (n - 0).toNat = n.toNat by omega]
    have : ∀ l : List Nat, Rps K (upd G1 q (.lst ((List.range n.toNat).map fun i => V.int (0 + (i : Nat))))) al1 (l.map fun i => V.int (0 + (i : Nat))) (l.map fun (i : Nat) => D.int (0 + (i : Int))) := by
      intro l
      induction l with
      | nil => exact .nil
      | cons a l ih => exact .cons (.int _) ih
    exact this _
theorem dt_imp {tt : TT} {P' Q' : Bool → Mu → Prop} (h : DT K B tt ρ μ P') (i : ∀ b μ', P' b μ' → Q' b μ') : DT K B tt ρ μ Q' := fun σ G H al hB hσ hA Q hQ => h σ G H al hB hσ hA Q fun b μ' G' H' al' n A p => hQ b μ' G' H' al' n A (i b μ' p)
theorem da_imp {ta : TA} {P' Q' : List D → Mu → Prop} (h : DA K B ta ρ μ P') (i : ∀ b μ', P' b μ' → Q' b μ') : DA K B ta ρ μ Q' := fun σ G H al hB hσ hA Q hQ => h σ G H al hB hσ hA Q fun vs b μ' G' H' al' n A r p => hQ vs b μ' G' H' al' n A r (i b μ' p)
/-- is None -/
def IsNP (x : D) (Q : Bool → Prop) : Prop := ∃ b, (b = true ↔ x = .non) ∧ Q b
theorem de_isNZ (h : DE K B te ρ μ fun x μ1 => IsNP x fun b => P (.bl b) μ1) : DE K B (tIsN te) ρ μ P := de_isN h
theorem de_notNZ (h : DE K B te ρ μ fun x μ1 => IsNP x fun b => P (.bl (!b)) μ1) : DE K B (tNotN te) ρ μ P := de_notN h
theorem np_t {Q : Bool → Prop} (h : Q true) : IsNP .non Q := ⟨true, by simp, h⟩
theorem np_f {Q : Bool → Prop} (hx : x ≠ .non) (h : Q false) : IsNP x Q := ⟨false, by simp [hx], h⟩
theorem np_int {Q : Bool → Prop} {i : Int} (h : Q false) : IsNP (.int i) Q := np_f (by simp) h
theorem np_bl {Q : Bool → Prop} {i : Bool} (h : Q false) : IsNP (.bl i) Q := np_f (by simp) h
theorem np_str {Q : Bool → Prop} {i : Str} (h : Q false) : IsNP (.str i) Q := np_f (by simp) h
theorem np_lst {Q : Bool → Prop} {i : List D} (h : Q false) : IsNP (.lst i) Q := np_f (by simp) h
theorem np_tup {Q : Bool → Prop} {i : List D} (h : Q false) : IsNP (.tup i) Q := np_f (by simp) h
theorem np_own {Q : Bool → Prop} {i : Nat} (h : Q false) : IsNP (.own i) Q := np_f (by simp) h
theorem np_obj {Q : Bool → Prop} {C : Addr} {gs : List (Str × D)} (h : Q false) : IsNP (.obj C gs) Q := np_f (by simp) h
/-- a sign in a text -/
theorem ro_inSg {c : Nat} {z : Str} (h : P (.bl (decide (c ∈ z.cps.toList))) μ) : RO K (rInA K) (.str ⟨#[c]⟩) (.str z) μ P := fun G H al v w A r1 r2 Q hQ => by
  cases r1; cases r2
  exact .inr (.inl ⟨c, z, rfl, rfl, hQ.now A (.bl _) h⟩)
/-- a text in a tuple of texts -/
theorem ro_inTS {s : Str} {ns : List Str} (hl : Ts y (ns.map D.str)) (h : P (.bl (decide (s ∈ ns))) μ) : RO K (rInA K) (.str s) y μ P := fun G H al v w A r1 r2 Q hQ => by
  obtain ⟨a, vs, rfl, sq, rs⟩ := hl.get A r2
  cases r1
  have e := rs.strs; subst e
  refine .inl ⟨a, _, rfl, .inr sq, rfl, flat_strs ns, hQ.now A (.bl _) ?_⟩
  rw [if_neg (by simp), inV_strs]; exact h
end
/-! ### names -/
def letters : List Nat := (List.range 26).map (· + 97)
def nameOk (s : Str) : Prop := 1 ≤ s.length ∧ s.length ≤ 8 ∧ ∀ c ∈ s.cps.toList, c ∈ letters
instance (s : Str) : Decidable (nameOk s) := by unfold nameOk; infer_instance
theorem letters_str : ("abcdefghijklmnopqrstuvwxyz" : Str).cps.toList = letters := by decide +kernel
theorem nameOk.strOk {s : Str} (h : nameOk s) : PyData.strOk s = true := by
  unfold PyData.strOk
  rw [← Array.all_toList, List.all_eq_true]
  intro c hc
  have := h.2.2 c hc
  unfold letters at this
  obtain ⟨i, hi, rfl⟩ := List.mem_map.mp this
  have := List.mem_range.mp hi
  simp; omega
theorem join_signs (cs : List Nat) : Txt.join ("" : Str) (cs.map fun c => (⟨#[c]⟩ : Str)) = ⟨cs.toArray⟩ := by
  have h1 : TL.joinL [] (cs.map fun c => [c]) = cs := by
    induction cs with
    | nil => rfl
    | cons c cs ih =>
      cases cs with
      | nil => rfl
      | cons d ds =>
        simp only [List.map_cons, TL.joinL] at ih ⊢
        rw [ih]
        rfl
  have h2 := SX.join_S [] (cs.map fun c => [c])
  rw [h1, List.map_map] at h2
  exact h2
end Dl
set_option Elab.async false
set_option linter.all false
set_option maxRecDepth 100000
/-! range of numbers of any size -/
namespace Dl
open PySem L2 PyProof.Rows
section
variable {X : Cx} {tg : Expr}
def iRng2W (ta : TA) : TI := fun σ H R => ta σ H fun vs H1 => ∃ i j : Int, vs = [.int i, .int j] ∧ R (Itr i (j - i).toNat) H1
end
section
variable {K : PySem.W.Frag} {B : Bs} {ρ : En} {μ : Mu} {ts : TA} {PI' : List D → (Mu → Prop) → Mu → Prop}
theorem di_range2W (h : DA K B ts ρ μ fun xs μ1 => ∃ lo n : Int, xs = [.int lo, .int n] ∧ PI' (rangeD lo (n - lo).toNat) (fun _ => True) μ1) : DI K B (iRng2W ts) ρ μ PI' := fun σ G H al hB hσ hA R hR =>
  h σ G H al hB hσ hA _ fun vs ds μ1 G1 H1 al1 n1 A1 r1 p1 => by
    obtain ⟨lo, n, rfl, p⟩ := p1
    obtain ⟨v, w, rfl, q1, q2⟩ := rps2 r1
    cases q1; cases q2
    exact ⟨lo, n, rfl, hR _ _ _ μ1 G1 H1 al1 n1 A1 itr_ok p⟩
end
section
variable {K : PySem.W.Frag} {B : Bs} {ρ : En} {μ : Mu} {P : DEnds} {c : TT} {t u : TS}
/-- a test that never comes out true -/
theorem q_assert (h : DT K B c ρ μ fun b μ1 => b = false ∧ μ1 = μ) (k : DS K B u ρ μ P) : DS K B (tSeq (tIfS c t tNext) u) ρ μ P :=
  q_when (dt_imp h fun b μ1 p => ⟨fun hb => absurd (p.1.symm.trans hb) (by simp), fun _ => by rw [p.2]; exact k⟩)
end
end Dl
set_option Elab.async false
set_option linter.all false
set_option maxRecDepth 100000
namespace Dl
open PySem L2 PyProof.Rows
section
variable {K : PySem.W.Frag} {B : Bs} {ρ : En} {μ : Mu} {ts : TA} {u : TS} {x y z : D}
def Three (ds : List D) (F : D → D → D → Prop) : Prop := ∃ x y z, ds = [x, y, z] ∧ F x y z
theorem three_i {F : D → D → D → Prop} (h : F x y z) : Three [x, y, z] F := ⟨x, y, z, rfl, h⟩
theorem ds_par3 {i j l : Nat} {P : DEnds} (h : DA K B ts ρ μ fun ds μ1 => Three ds fun x y z => P.nx (((ρ.set i (some x)).set j (some y)).set l (some z)) μ1) : DS K B (tPar3 i j l ts) ρ μ P := fun σ G H al hB hσ hA De hD =>
  h σ G H al hB hσ hA _ fun vs ds μ1 G1 H1 al1 n1 A1 r1 p1 => by
    obtain ⟨x, y, z, rfl, p⟩ := p1
    obtain ⟨v, ws, rfl, rx, r2⟩ := rps_cons r1
    obtain ⟨w, u, rfl, ry, rz⟩ := rps2 r2
    exact ⟨_, _, _, rfl, hD.nx _ _ μ1 G1 H1 al1 n1 ((((hσ.nx n1).set i rx).set j ry).set l rz) A1 p⟩
theorem q_par3 {i j l : Nat} {P : DEnds} (h : DA K B ts ρ μ fun ds μ1 => Three ds fun x y z => DS K B u (((ρ.set i (some x)).set j (some y)).set l (some z)) μ1 P) : DS K B (tSeq (tPar3 i j l ts) u) ρ μ P := ds_seq (ds_par3 h)
theorem ro_eqNI {i : Int} {P : D → Mu → Prop} (h : P (.bl false) μ) : RO K (rEqD K) .non (.int i) μ P := ro_eqD (n := 0) (m := 0) (.id _) (.id _) rfl rfl (by rw [show eqvD .non (.int i) = false by simp only [eqvD, D.py, PyData.eqv]]; exact h)
end
end Dl
set_option Elab.async false
set_option linter.all false
set_option maxRecDepth 100000
/-! dicts with keys ints and texts -/
namespace Dl
open PySem L2
def keyD : Key → D
  | .inl i => .int i
  | .inr s => .str s
def valD (kvs : List (Key × D)) (k : Key) : Option D := (kvs.find? fun kv => decide (kv.1 = k)).map (·.2)
def putKD (kvs : List (Key × D)) (k : Key) (v : D) : List (Key × D) :=
  if (kvs.any fun kv => decide (kv.1 = k)) = true then kvs.map (fun kv => if kv.1 = k then (kv.1, v) else kv) else kvs ++ [(k, v)]
def mergeKD (kvs more : List (Key × D)) : List (Key × D) := more.foldl (fun acc kv => putKD acc kv.1 kv.2) kvs
theorem rp_key {K : PySem.W.Frag} {G : Hp} {al : List Addr} {v : V} {k : Key} (h : Rp K G al v (keyD k)) : v = kV k := by
  cases k with
  | inl i => cases h; rfl
  | inr s => cases h; rfl
section
variable {K : PySem.W.Frag} {G H : Hp} {al : List Addr}
theorem Rpk.val : ∀ {gs : List (Key × D)} {kvs : List (Key × V)}, Rpk K G al kvs gs → ∀ k, (∀ d, valD gs k = some d → ∃ v, valV kvs k = some v ∧ Rp K G al v d) ∧ (valD gs k = none → valV kvs k = none)
  | [], _, h, k => by cases h; exact ⟨fun d e => (by cases e), fun _ => rfl⟩
  | (f, x) :: gs, _, h, k => by
    cases h with
    | @cons f v vs d ds r t =>
      have ih := t.val k
      by_cases e : f = k
      · refine ⟨fun d' e' => ?_, fun e' => ?_⟩
        · simp [valD, List.find?_cons, e] at e'
          subst e'
          exact ⟨v, valV_pos e, r⟩
        · simp [valD, List.find?_cons, e] at e'
      · have e1 : valD ((f, x) :: gs) k = valD gs k := by simp [valD, List.find?_cons, e]
        rw [e1, valV_neg (p := (f, v)) e]
        exact ih
theorem Rpk.any : ∀ {gs : List (Key × D)} {kvs : List (Key × V)}, Rpk K G al kvs gs → ∀ k, (kvs.any fun kv => decide (kv.1 = k)) = (gs.any fun kv => decide (kv.1 = k))
  | [], _, h, k => by cases h; rfl
  | (f, x) :: gs, _, h, k => by
    cases h with
    | cons r t => simp only [List.any_cons, t.any k]
theorem Rpk.append : ∀ {gs fs : List (Key × D)} {kvs ls : List (Key × V)}, Rpk K G al kvs gs → Rpk K G al ls fs → Rpk K G al (kvs ++ ls) (gs ++ fs)
  | [], _, _, _, h, h' => by cases h; exact h'
  | _ :: _, _, _, _, h, h' => by cases h with | cons r t => exact .cons r (t.append h')
theorem Rpk.repl {k : Key} {v : V} {d : D} (r : Rp K G al v d) : ∀ {gs : List (Key × D)} {kvs : List (Key × V)}, Rpk K G al kvs gs → Rpk K G al (kvs.map fun kv => if kv.1 = k then (kv.1, v) else kv) (gs.map fun kv => if kv.1 = k then (kv.1, d) else kv)
  | [], _, h => by cases h; exact .nil
  | (f, x) :: gs, _, h => by
    cases h with
    | cons r' t =>
      simp only [List.map_cons]
      by_cases e : f = k
      · rw [if_pos e, if_pos e]; exact .cons r (t.repl r)
      · rw [if_neg e, if_neg e]; exact .cons r' (t.repl r)
theorem Rpk.put {gs : List (Key × D)} {kvs : List (Key × V)} (h : Rpk K G al kvs gs) (k : Key) {v : V} {d : D} (r : Rp K G al v d) : Rpk K G al (putK kvs k v) (putKD gs k d) := by
  unfold putK putKD
  rw [h.any k]
  split
  · exact h.repl r
  · exact h.append (.cons r .nil)
theorem Rpk.length : ∀ {gs : List (Key × D)} {kvs : List (Key × V)}, Rpk K G al kvs gs → kvs.length = gs.length
  | [], _, h => by cases h; rfl
  | _ :: _, _, h => by cases h with | cons _ t => simp [t.length]
theorem Rpk.merge : ∀ {ms : List (Key × D)} {ns : List (Key × V)} {gs : List (Key × D)} {kvs : List (Key × V)}, Rpk K G al ns ms → Rpk K G al kvs gs → Rpk K G al (mergeK kvs ns) (mergeKD gs ms)
  | [], _, _, _, h, h' => by cases h; exact h'
  | (f, x) :: ms, _, gs, kvs, h, h' => by
    cases h with
    | @cons f v vs d ds r t =>
      show Rpk K G al (mergeK (putK kvs f v) vs) (mergeKD (putKD gs f x) ms)
      exact t.merge (h'.put f r)
end
/-- a dict as it stands -/
inductive Dt (μ : Mu) : D → List (Key × D) → Prop
  | dct (gs : List (Key × D)) : Dt μ (.dct gs) gs
  | own {k : Nat} {gs : List (Key × D)} (h : μ[k]? = some (.dK gs)) : Dt μ (.own k) gs
theorem Dt.get {K : PySem.W.Frag} {G H : Hp} {al : List Addr} {μ : Mu} {v : V} {d : D} {gs : List (Key × D)} (h : Dt μ d gs) (A : As K G H al μ) (r : Rp K G al v d) : ∃ a kvs, v = .ref a ∧ Rd H a (.dK kvs) ∧ Rpk K G al kvs gs := by
  cases h with
  | dct => cases r with | dct e rs => exact ⟨_, _, rfl, rd_mono A.sub e, rs⟩
  | own hk =>
    obtain ⟨a, ha, ga, vs, hv, rs⟩ := A.get hk
    cases r with
    | own e => rw [ha] at e; cases e; exact ⟨_, vs, rfl, .inl hv, rs⟩
section
variable {K : PySem.W.Frag} {B : Bs} {ρ : En} {μ : Mu} {td ty tv tx : TE} {P : D → Mu → Prop} {u : TS}
def DGetP (μ : Mu) (x y : D) (F : D → Prop) : Prop := ∃ gs k d, Dt μ x gs ∧ y = keyD k ∧ valD gs k = some d ∧ F d
def DInP (μ : Mu) (x y : D) (F : Bool → Prop) : Prop := ∃ gs k, Dt μ x gs ∧ y = keyD k ∧ F (valD gs k).isSome
theorem dgp_s {x d : D} {gs : List (Key × D)} {s : Str} {F : D → Prop} (h : Dt μ x gs) (e : valD gs (.inr s) = some d) (f : F d) : DGetP μ x (.str s) F := ⟨gs, .inr s, d, h, rfl, e, f⟩
theorem Rpk.isSome {G : Hp} {al : List Addr} {gs : List (Key × D)} {kvs : List (Key × V)} (h : Rpk K G al kvs gs) (k : Key) : (valV kvs k).isSome = (valD gs k).isSome := by
  cases q : valD gs k with
  | none => rw [(h.val k).2 q]; rfl
  | some d =>
    obtain ⟨v, e, _⟩ := (h.val k).1 d q
    rw [e]; rfl
theorem dget_k {H : Hp} {a : Addr} {kvs : List (Key × V)} {k : Key} (e : Rd H a (.dK kvs)) : DGet H a (kV k) (valV kvs k) := .inl ⟨kvs, k, e, rfl, rfl⟩
theorem de_dget (h : DE K B td ρ μ fun x μ1 => DE K B ty ρ μ1 fun y μ2 => DGetP μ2 x y fun d => P d μ2) : DE K B (tDGet td ty) ρ μ P := fun σ G H al hB hσ hA Q hQ =>
  h σ G H al hB hσ hA _ fun vx x μ1 G1 H1 al1 n1 A1 r1 p1 => p1 σ G1 H1 al1 (hB.trans n1) (hσ.nx n1) A1 _ fun vy y μ2 G2 H2 al2 n2 A2 r2 p2 => by
    obtain ⟨gs, k, d, dt, rfl, e, p⟩ := p2
    obtain ⟨a, kvs, rfl, ha, rk⟩ := dt.get A2 (r1.nx n2)
    obtain rfl := rp_key r2
    obtain ⟨v, ev, rv⟩ := (rk.val k).1 d e
    exact ⟨a, v, rfl, by rw [← ev]; exact dget_k ha, hQ v d μ2 G2 H2 al2 (n1.trans n2) A2 rv p⟩
theorem de_din (h : DE K B ty ρ μ fun y μ1 => DE K B td ρ μ1 fun x μ2 => DInP μ2 x y fun b => P (.bl b) μ2) : DE K B (tDIn ty td) ρ μ P := fun σ G H al hB hσ hA Q hQ =>
  h σ G H al hB hσ hA _ fun vy y μ1 G1 H1 al1 n1 A1 r1 p1 => p1 σ G1 H1 al1 (hB.trans n1) (hσ.nx n1) A1 _ fun vx x μ2 G2 H2 al2 n2 A2 r2 p2 => by
    obtain ⟨gs, k, dt, rfl, p⟩ := p2
    obtain ⟨a, kvs, rfl, ha, rk⟩ := dt.get A2 r2
    obtain rfl := rp_key r1
    refine ⟨a, _, rfl, dget_k ha, ?_⟩
    rw [rk.isSome k]
    exact hQ _ _ μ2 G2 H2 al2 (n1.trans n2) A2 (.bl _) p
theorem de_dnin (h : DE K B ty ρ μ fun y μ1 => DE K B td ρ μ1 fun x μ2 => DInP μ2 x y fun b => P (.bl (!b)) μ2) : DE K B (tDNotIn ty td) ρ μ P := fun σ G H al hB hσ hA Q hQ =>
  h σ G H al hB hσ hA _ fun vy y μ1 G1 H1 al1 n1 A1 r1 p1 => p1 σ G1 H1 al1 (hB.trans n1) (hσ.nx n1) A1 _ fun vx x μ2 G2 H2 al2 n2 A2 r2 p2 => by
    obtain ⟨gs, k, dt, rfl, p⟩ := p2
    obtain ⟨a, kvs, rfl, ha, rk⟩ := dt.get A2 r2
    obtain rfl := rp_key r1
    refine ⟨a, _, rfl, dget_k ha, ?_⟩
    rw [rk.isSome k]
    exact hQ _ _ μ2 G2 H2 al2 (n1.trans n2) A2 (.bl _) p
/-- {}: to be changed; frozen at once -/
theorem de_dnew (h : P (.own μ.length) (μ ++ [.dK []])) : DE K B tDNewK ρ μ P := fun σ G H al hB hσ hA Q hQ p hp => by
  obtain ⟨A2, n2⟩ := hA.own (o := .dK []) (m := .dK []) hp ⟨hA.sub.free hp, [], upd_same, .nil⟩
  exact hQ _ _ _ _ _ _ n2 A2 (.own (by rw [← hA.len]; simp)) h
def DPutP (μ : Mu) (x y z : D) (F : Mu → Prop) : Prop := ∃ j gs k, x = .own j ∧ μ[j]? = some (.dK gs) ∧ y = keyD k ∧ gs.length < 100000 ∧ F (μ.set j (.dK (putKD gs k z)))
theorem dpp_s {j : Nat} {z : D} {gs : List (Key × D)} {s : Str} {F : Mu → Prop} (h : μ[j]? = some (.dK gs)) (hl : gs.length < 100000) (f : F (μ.set j (.dK (putKD gs (.inr s) z)))) : DPutP μ (.own j) (.str s) z F := ⟨j, gs, .inr s, rfl, h, rfl, hl, f⟩
theorem ds_dput {P : DEnds} (h : DE K B tv ρ μ fun z μ1 => DE K B td ρ μ1 fun x μ2 => DE K B ty ρ μ2 fun y μ3 => DPutP μ3 x y z fun μ4 => P.nx ρ μ4) : DS K B (sDPut td ty tv) ρ μ P := fun σ G H al hB hσ hA De hD =>
  h σ G H al hB hσ hA _ fun vz z μ1 G1 H1 al1 n1 A1 r1 p1 => p1 σ G1 H1 al1 (hB.trans n1) (hσ.nx n1) A1 _ fun vx x μ2 G2 H2 al2 n2 A2 r2 p2 =>
    p2 σ G2 H2 al2 ((hB.trans n1).trans n2) ((hσ.nx n1).nx n2) A2 _ fun vy y μ3 G3 H3 al3 n3 A3 r3 p3 => by
    obtain ⟨j, gs, k, rfl, hk, rfl, hl, p⟩ := p3
    obtain ⟨a, ha, ga, kvs, hv, rk⟩ := A3.get hk
    obtain rfl := rp_key r3
    have r2' := r2.nx n3
    cases r2' with
    | own e =>
      rw [ha] at e
      cases e
      obtain ⟨A4, n4⟩ := A3.put (o := .dK (putK kvs k vz)) (m' := .dK (putKD gs k z)) ha hk (by simp) ⟨ga, _, upd_same, rk.put k ((r1.nx n2).nx n3)⟩
      exact ⟨_, _, rfl, DPut.k hv (by rw [rk.length]; exact Nat.lt_of_lt_of_le hl (by decide)), hD.nx _ _ _ _ _ _ (((n1.trans n2).trans n3).trans n4) ((((hσ.nx n1).nx n2).nx n3).nx n4) A4 p⟩
theorem q_dput {P : DEnds} (h : DE K B tv ρ μ fun z μ1 => DE K B td ρ μ1 fun x μ2 => DE K B ty ρ μ2 fun y μ3 => DPutP μ3 x y z fun μ4 => DS K B u ρ μ4 P) : DS K B (tSeq (sDPut td ty tv) u) ρ μ P := ds_seq (ds_dput h)
/-! ### displays -/
/-! ### freezing -/
end
end Dl
set_option Elab.async false
set_option linter.all false
set_option maxRecDepth 100000
/-! min(xs, default=d) -/
set_option Elab.async false
set_option linter.all false
set_option maxRecDepth 100000
namespace Dl
open PySem L2
theorem valD_snoc (k j : Key) (y : D) : ∀ kvs : List (Key × D), valD kvs k = none → valD (kvs ++ [(k, y)]) j = if j = k then some y else valD kvs j
  | [], _ => by
    by_cases e : j = k
    · subst e; simp [valD]
    · simp [valD, e, Ne.symm e]
  | (f, x) :: r, h => by
    by_cases ef : f = k
    · simp [valD, List.find?_cons, ef] at h
    · have h' : valD r k = none := by simpa [valD, List.find?_cons, ef] using h
      have ih := valD_snoc k j y r h'
      by_cases e : f = j
      · subst e
        simp [valD, List.find?_cons, ef]
      · have e1 : valD ((f, x) :: r ++ [(k, y)]) j = valD (r ++ [(k, y)]) j := by simp [valD, List.find?_cons, e]
        have e2 : valD ((f, x) :: r) j = valD r j := by simp [valD, List.find?_cons, e]
        rw [e1, e2, ih]
theorem valD_map (k j : Key) (y : D) : ∀ kvs : List (Key × D), valD (kvs.map fun kv => if kv.1 = k then (kv.1, y) else kv) j = (valD kvs j).map fun x => if j = k then y else x
  | [] => rfl
  | (f, x) :: r => by
    have ih := valD_map k j y r
    simp only [List.map_cons]
    by_cases ef : f = k
    · rw [if_pos ef]
      by_cases e : f = j
      · subst e; simp [valD, List.find?_cons, ef]
      · have e1 : ∀ z (l : List (Key × D)), valD ((f, z) :: l) j = valD l j := fun z l => by simp [valD, List.find?_cons, e]
        rw [e1, e1, ih]
    · rw [if_neg ef]
      by_cases e : f = j
      · subst e; simp [valD, List.find?_cons, ef]
      · have e1 : ∀ z (l : List (Key × D)), valD ((f, z) :: l) j = valD l j := fun z l => by simp [valD, List.find?_cons, e]
        rw [e1, e1, ih]
theorem valD_any (k : Key) : ∀ kvs : List (Key × D), (kvs.any fun kv => decide (kv.1 = k)) = (valD kvs k).isSome
  | [] => rfl
  | (f, x) :: r => by
    by_cases e : f = k
    · simp [valD, List.find?_cons, e]
    · have ih := valD_any k r
      simp only [List.any_cons, ih]
      simp [valD, List.find?_cons, e]
theorem valD_put (kvs : List (Key × D)) (k j : Key) (y : D) : valD (putKD kvs k y) j = if j = k then some y else valD kvs j := by
  unfold putKD
  rw [valD_any]
  cases q : valD kvs k with
  | none => simp only [Option.isSome_none, Bool.false_eq_true, if_false]; exact valD_snoc k j y kvs q
  | some z =>
    simp only [Option.isSome_some, if_true]
    rw [valD_map]
    by_cases e : j = k
    · subst e; rw [q]; simp
    · simp [e]
section
variable {K : PySem.W.Frag} {B : Bs} {ρ : En} {μ : Mu} {PG' : En → Mu → Prop}
/-- a list unpacked -/
theorem dg_unl {n : Nat} {gs : TGs} {ds : List D} {x : D} (hl : Ls μ x ds) (hn : ds.length = n) (h : DGs K B gs ds ρ μ PG') : DG K B (gUnl K n gs) x ρ μ PG' := fun σ G H al v hB hσ hA r Q hQ => by
  obtain ⟨a, ws, rfl, s, rs⟩ := hl.get hA r
  exact ⟨a, ws, rfl, s, rs.length.trans hn, h σ G H al ws hB hσ hA rs Q hQ⟩
end
end Dl
namespace Dl
open PySem L2 PyProof.Rows
/-- a comprehension within a comprehension -/
def rlS (scope sc : Scope) : Scope := { scope with names := scope.names.map fun (n, k) => if (k == NameKind.free && sc.kind == .function && sc.names.lookup n == some .cell) then (n, NameKind.cell) else (n, k) }
theorem relabel_eq {scope : Scope} {env : Env} : relabel scope env = rlS scope env.scope := rfl
theorem blkOk_rl {N : List Str} {sc0 scope scope' : Scope} {own : List (Str × Nat)} {env : Env} (he : env.scope = sc0) (h : blkC N (rlS scope sc0) scope' own = true) : BlkOk N (relabel scope env) scope' own := by
  rw [relabel_eq, he]
  exact blkOk_by h
end Dl
set_option Elab.async false
set_option linter.all false
set_option maxRecDepth 100000
namespace Dl
open PySem L2
section
variable {K : PySem.W.Frag} {B : Bs} {ρ : En} {μ : Mu} {te : TE} {tt : TT} {wi : TI} {g : TG} {vs : List Nat} {P : D → Mu → Prop}
/-- .. or not frozen: it may still change -/
theorem de_lcF (hg : GW g vs) (h : DI K B wi ρ μ fun ds S μ1 => ds.length ≤ 100000 ∧ ∃ Iv : Nat → List D → Mu → Prop, Iv 0 [] μ1 ∧ (∀ i acc μ', i ≤ ds.length → Iv i acc μ' → S μ') ∧
      (∀ i d acc μ', ds[i]? = some d → Iv i acc μ' → DG K B g d (wipeD ρ vs) μ' fun ρ2 μ2 => DT K B tt ρ2 μ2 fun b μ3 => (b = true → DE K B te ρ2 μ3 fun y μ4 => Iv (i + 1) (acc ++ [y]) μ4) ∧ (b = false → Iv (i + 1) acc μ3)) ∧
      (∀ acc μ', Iv ds.length acc μ' → P (.lst acc) μ' ∨ P (.own μ'.length) (μ' ++ [.lst acc]))) : DE K B (tLc wi g tt te vs) ρ μ P := fun σ G H al hB hσ hA Q hQ =>
  h σ G H al hB hσ hA _ fun J ds S μ1 G1 H1 al1 n1 A1 ok p1 => by
    obtain ⟨hlen, Iv, h0, hS, hs, hd⟩ := p1
    intro Dl hDl
    have nDl : Dl ∉ al1 := fun m => A1.here Dl m hDl
    have gDl : G1 Dl = none := A1.sub.free hDl
    -- a store to the list that is made
    have store : ∀ {G' H' al' μ' ac}, Nx G1 H1 al1 G' H' al' → As K G' H' al' μ' → G' Dl = none → Dl ∉ al' → As K G' (upd H' Dl (.lst ac)) al' μ' ∧ Nx G1 H1 al1 G' (upd H' Dl (.lst ac)) al' := by
      intro G' H' al' μ' ac n A g' nal
      refine ⟨⟨fun b u e => by rw [upd_ne (ne_of_none e g')]; exact A.sub _ _ e, A.nd, A.len, fun a m => ?_, fun k a o e1 e2 => ?_⟩, ⟨n.g, n.p, fun a u h m => ?_, n.out, n.new⟩⟩
      · have z : a ≠ Dl := fun z => nal (z ▸ m)
        rw [upd_ne z]; exact A.here a m
      · have z : a ≠ Dl := fun z => nal (z ▸ List.mem_of_getElem? e1)
        exact OkO.mono (Same.refl _) (Pre.refl _) (fun _ g => g) (by rw [upd_ne z]) (A.ok k a o e1 e2)
      · rw [upd_ne (ne_of_none h hDl)]; exact n.keep a u h m
    -- Dl stays where it is through a step
    have stay : ∀ {G' H' al' G'' H'' al'' u}, Nx G' H' al' G'' H'' al'' → H' Dl = some (.lst u) → G' Dl = none → Dl ∉ al' → H'' Dl = some (.lst u) ∧ G'' Dl = none ∧ Dl ∉ al'' := by
      intro G' H' al' G'' H'' al'' u n h g' nal
      refine ⟨n.keep Dl (.lst u) h nal, n.out Dl (by rw [h]; simp) (fun vs e => by rw [h] at e; cases e) nal g', fun m => ?_⟩
      rcases n.new Dl m with z | z
      · exact nal z
      · rw [h] at z; cases z
    obtain ⟨A0, N0⟩ := store (ac := []) .refl A1 gDl nDl
    refine ⟨fun i m H' => m = ds.length - i ∧ i ≤ ds.length ∧ ∃ G' al' μ' acc vacc, Nx G1 H1 al1 G' H' al' ∧ As K G' H' al' μ' ∧ H' Dl = some (.lst vacc) ∧ Rps K G' al' vacc acc ∧ G' Dl = none ∧ Dl ∉ al' ∧ acc.length ≤ i ∧ Iv i acc μ',
      ⟨ds.length, by simp, Nat.zero_le _, G1, al1, μ1, [], [], N0, A0, upd_same, .nil, gDl, nDl, Nat.le_refl _, h0⟩, ?_⟩
    rintro i m H' ⟨rfl, hi, G', al', μ', acc, vacc, n', A', hv, rv, g', nal, hacc, iv⟩
    obtain ⟨go, stop, yld⟩ := ok G' H' al' μ' n' A' (hS i acc μ' hi iv)
    by_cases hlt : i < ds.length
    · refine .inr ⟨go i hlt, fun H2 => ∃ G2 al2 μ2 acc vacc, Nx G1 H1 al1 G2 H2 al2 ∧ As K G2 H2 al2 μ2 ∧ H2 Dl = some (.lst vacc) ∧ Rps K G2 al2 vacc acc ∧ G2 Dl = none ∧ Dl ∉ al2 ∧ acc.length ≤ i + 1 ∧ Iv (i + 1) acc μ2, fun H2 q => ⟨ds.length - (i + 1), by omega, rfl, hlt, q⟩, fun x H3 y => ?_⟩
      obtain ⟨G3, n3, A3, r3⟩ := yld i x H3 y _ (List.getElem?_eq_getElem hlt)
      obtain ⟨hv3, g3, nal3⟩ := stay n3 hv g' nal
      have nn3 := n'.trans n3
      have hw : RpS K G3 al' (wipe σ vs) (wipeD ρ vs) := wipe_rps ((hσ.nx n1).nx nn3) vs
      have q := hs i _ acc μ' (List.getElem?_eq_getElem hlt) iv (wipe σ vs) G3 H3 al' x (((hB.trans n1).trans n').trans n3) hw A3 r3
      have q2 := hg x (wipe σ vs) H3 _ (q (fun σ2 H2 => tt σ2 H2 fun b H3 => if b = true then te σ2 H3 fun y H4 => ∃ acc, H4 Dl = some (.lst acc) ∧ acc.length < sizeLine ∧ (∃ G2 al2 μ2 acc' vacc, Nx G1 H1 al1 G2 (upd H4 Dl (.lst (acc ++ [y]))) al2 ∧ As K G2 (upd H4 Dl (.lst (acc ++ [y]))) al2 μ2 ∧ (upd H4 Dl (.lst (acc ++ [y]))) Dl = some (.lst vacc) ∧ Rps K G2 al2 vacc acc' ∧ G2 Dl = none ∧ Dl ∉ al2 ∧ acc'.length ≤ i + 1 ∧ Iv (i + 1) acc' μ2)
          else (∃ G2 al2 μ2 acc' vacc, Nx G1 H1 al1 G2 H3 al2 ∧ As K G2 H3 al2 μ2 ∧ H3 Dl = some (.lst vacc) ∧ Rps K G2 al2 vacc acc' ∧ G2 Dl = none ∧ Dl ∉ al2 ∧ acc'.length ≤ i + 1 ∧ Iv (i + 1) acc' μ2)) fun σ4 ρ4 μ4 G4 H4 al4 n4 hσ4 A4 p4 => ?_)
      · rw [wipe_wipe σ vs vs fun _ h => h] at q2
        exact q2
      · obtain ⟨hv4, g4, nal4⟩ := stay n4 hv3 g3 nal3
        have nn4 := nn3.trans n4
        refine p4 σ4 G4 H4 al4 ((hB.trans n1).trans nn4) hσ4 A4 _ fun b μ5 G5 H5 al5 n5 A5 p5 => ?_
        obtain ⟨hv5, g5, nal5⟩ := stay n5 hv4 g4 nal4
        have nn5 := nn4.trans n5
        cases b with
        | false =>
          rw [if_neg (by simp)]
          exact ⟨G5, al5, μ5, acc, vacc, nn5, A5, hv5, (((rv.nx n3).nx n4).nx n5), g5, nal5, Nat.le_succ_of_le hacc, p5.2 rfl⟩
        | true =>
          rw [if_pos rfl]
          refine p5.1 rfl σ4 G5 H5 al5 ((hB.trans n1).trans nn5) (hσ4.nx n5) A5 _ fun yv y μ6 G6 H6 al6 n6 A6 r6 p6 => ?_
          obtain ⟨hv6, g6, nal6⟩ := stay n6 hv5 g5 nal5
          have rv6 := (((rv.nx n3).nx n4).nx n5).nx n6
          obtain ⟨A7, n7⟩ := store (ac := vacc ++ [yv]) (nn5.trans n6) A6 g6 nal6
          refine ⟨vacc, hv6, ?_, G6, al6, μ6, acc ++ [y], vacc ++ [yv], n7, A7, upd_same, rv6.append (.cons r6 .nil), g6, nal6, by simp; omega, p6⟩
          rw [rv6.length]
          exact Nat.lt_of_lt_of_le (Nat.lt_of_le_of_lt hacc (Nat.lt_of_lt_of_le hlt hlen)) (by decide)
    · have e : i = ds.length := by omega
      subst e
      refine .inl ⟨stop _ (Nat.le_refl _), ?_⟩
      rcases hd acc μ' iv with pf | po
      rotate_left
      · have A7 : As K G' H' (al' ++ [Dl]) (μ' ++ [.lst acc]) := by
          refine ⟨A'.sub, ?_, by simp [A'.len], fun a m => ?_, fun k a o e1 e2 => ?_⟩
          · rw [List.nodup_append]
            exact ⟨A'.nd, by simp, fun a ha b hb => by
              obtain rfl := List.mem_singleton.mp hb
              exact fun e => nal (e ▸ ha)⟩
          · rcases List.mem_append.mp m with c | c
            · exact A'.here a c
            · obtain rfl := List.mem_singleton.mp c
              rw [hv]; simp
          · rcases Nat.lt_or_ge k al'.length with c | c
            · rw [List.getElem?_append_left c] at e1
              rw [List.getElem?_append_left (by rw [← A'.len]; exact c)] at e2
              exact OkO.mono (Same.refl _) ⟨[Dl], rfl⟩ (fun _ g => g) rfl (A'.ok k a o e1 e2)
            · rw [List.getElem?_append_right c] at e1
              rw [List.getElem?_append_right (by rw [← A'.len]; exact c)] at e2
              have hk : k - al'.length = 0 := by
                have := (List.getElem?_eq_some_iff.mp e1).1
                simp at this; omega
              rw [hk] at e1
              rw [← A'.len, hk] at e2
              simp at e1 e2
              subst e1; subst e2
              exact ⟨g', vacc, hv, rv.mono (Same.refl _) ⟨[Dl], rfl⟩⟩
        have n7 : Nx G1 H1 al1 G' H' (al' ++ [Dl]) := ⟨n'.g, n'.p.trans ⟨[Dl], rfl⟩, n'.keep, n'.out, fun a m => by
          rcases List.mem_append.mp m with c | c
          · exact n'.new a c
          · obtain rfl := List.mem_singleton.mp c
            exact .inr hDl⟩
        exact hQ _ _ _ _ _ _ (n1.trans n7) A7 (.own (by rw [← A'.len]; simp)) po
      have s1 : Same G' (upd G' Dl (.lst vacc)) := fun b u e => by rw [upd_ne (ne_of_none e g')]; exact e
      have A7 : As K (upd G' Dl (.lst vacc)) H' al' μ' := by
        refine ⟨fun b u e => ?_, A'.nd, A'.len, A'.here, fun k a o e1 e2 => ?_⟩
        · by_cases hb : b = Dl
          · subst hb; rw [upd_same] at e; rw [← e]; exact hv
          · rw [upd_ne hb] at e; exact A'.sub _ _ e
        · have z : a ≠ Dl := fun z => nal (z ▸ List.mem_of_getElem? e1)
          exact OkO.mono s1 (Pre.refl _) (fun _ g => by rw [upd_ne z]; exact g) rfl (A'.ok k a o e1 e2)
      have n7 : Nx G1 H1 al1 (upd G' Dl (.lst vacc)) H' al' := ⟨n'.g.trans s1, n'.p, n'.keep, fun a h t m g => by
        have z : a ≠ Dl := fun z => h (by rw [z]; exact hDl)
        rw [upd_ne z]; exact n'.out a h t m g, n'.new⟩
      exact hQ _ _ _ _ _ _ (n1.trans n7) A7 (.lst upd_same (rv.mono s1 (Pre.refl _))) pf
end
def rAbs : List V → Hp → VK → Prop := fun xs H Q => ∃ i, xs = [.int i] ∧ Q (.int (if i < 0 then -i else i)) H
section
variable {K : PySem.W.Frag} {μ : Mu} {P : D → Mu → Prop} {i : Int} {d : D} {ds : List D}
theorem rc_abs (h : P (.int (i.natAbs : Int)) μ) : RC K rAbs [.int i] μ P := fun G H al vs A r Q hQ => by
  obtain ⟨v, rfl, r1⟩ := rps1 r
  cases r1
  refine ⟨i, rfl, ?_⟩
  rw [show (if i < 0 then -i else i) = (i.natAbs : Int) by split <;> omega]
  exact hQ.now A (.int _) h
end
theorem intsG {ls : List Int} {i : Nat} {d : D} (h : (ls.map D.int)[i]? = some d) : ∃ n, ls[i]? = some n ∧ d = .int n := by
  rw [List.getElem?_map] at h
  cases q : ls[i]? with
  | none => rw [q] at h; cases h
  | some n => rw [q] at h; exact ⟨n, rfl, (Option.some.inj h).symm⟩
end Dl
set_option Elab.async false
set_option linter.all false
set_option maxRecDepth 100000
/-! a def called through its class, C.m(..); a head with more facts -/
namespace Dl
open PySem L2 PyProof.Rows
structure ClsFn (K : PySem.W.Frag) (C : Addr) (m : Str) (f : Addr) : Prop where
  rd : PySem.W.readsIn K C (.type "type") = true
  ga : PySem.W.specialIn K (.ref C) "__getattribute__" = some (some (.builtin "type.__getattribute__"))
  at_ : PySem.W.findCls K (.ref C) (.type "type") m = some (.val (.ref f))
  kp : PySem.W.keepIn K (.ref f) = true
def clsFnB (x m : Str) (K : PySem.W.Frag) : Bool := PySem.W.readsIn K (He.ga K x) (.type "type") && (He.eqO (PySem.W.specialIn K (.ref (He.ga K x)) "__getattribute__") (some (some (.builtin "type.__getattribute__"))) &&
  ((match PySem.W.findCls K (.ref (He.ga K x)) (.type "type") m with
    | some (.val (.ref f)) => decide (f = He.ma K (He.ga K x) m)
    | _ => false) && PySem.W.keepIn K (.ref (He.ma K (He.ga K x) m))))
theorem clsFnB_ok {K : PySem.W.Frag} {x m : Str} (h : clsFnB x m K = true) : ClsFn K (He.ga K x) m (He.ma K (He.ga K x) m) := by
  unfold clsFnB at h
  obtain ⟨h1, h2⟩ := He.ba h
  obtain ⟨h3, h4⟩ := He.ba h2
  obtain ⟨h5, h6⟩ := He.ba h4
  refine ⟨h1, He.eqO_ok h3, ?_, h6⟩
  split at h5
  · rename_i f e
    rw [e, of_decide_eq_true h5]
  · cases h5
section
variable {X : Cx} {CX : CXT} {k : Nat} {C f : Addr} {fd : FuncData} {ps : List Str} {ds : List Value} {dvs : List V} {sp : Sp} {E : XK} {o e : Expr} {es : List Expr} {m : Str} {pos apos : Pos} {t : TA} {pl : Sem Bool}
theorem pe_clsCall (he : PE X o (tC (.ref C))) (c : ClsFn X.K C m f) (F : FnOk X.prog X.w X.K X.mg X.base CX k f fd ps sp) (hr : Room k X.A) (hb : Binds X.K fd ps ds) (hd : Vals dvs ds) (hx : Passes CX X E) (ha : PA X (e :: es) t)
    (hst : starEach (e :: es) X.env = (false, eval e X.env) :: starEach es X.env := by rfl) (hpl : (backTo pos (starEach es X.env)).any (·.1) = false := by rfl)
    (ht : eval (.Call (.Attribute o m apos) (e :: es) [] pos) X.env = (do
      let ov ← eval o X.env
      standAt apos.atName
      let (f, first) ← holding [ov] (getMethod ov m pl)
      callWith pos f first (backTo pos (starEach (e :: es) X.env)) (backToKw pos (keywordEach [] X.env))) := by rfl) :
    PE X (.Call (.Attribute o m apos) (e :: es) [] pos) (tCall sp dvs E t) := by
  refine ⟨fun pins s σ H Q I h => ?_⟩
  refine PySem.W.methodCall_KW (pl := pl) (thn (he.run pins s σ H (fun x H1 => x = .ref C ∧ t σ H1 fun vs H2 => sp (vs ++ dvs) H2 Q E) I ⟨rfl, h⟩) fun u s1 ⟨x, H1, I1, rx, ex, q⟩ => ?_) ht
  subst ex
  obtain rfl : u = Value.ref C := rx
  refine PySem.W.method_cls I1.kIn c.ga (PySem.W.cls_value I1.kIn c.rd c.at_ rfl ?_)
  have I2 : Inv X pins σ H1 { s1 with toks := s1.toks + 1 } := I1.tok _
  refine PySem.W.callWith_K (h₀ := X.base) I.ok.mod.kin c.kp (thn (ha.run pos pins _ σ H1 _ I2 q) fun us s3 ⟨vs, H2, I3, r, q3⟩ => ⟨I3.kIn, ?_⟩) hst hpl
  exact run_fn F hr hb hd hx I3 r q3
end
/-! ### the head, with more facts -/
abbrev AlX : Type := He.AlD × Bool
def exAll (ex : List (PySem.W.Frag → Bool)) (K : PySem.W.Frag) : Bool := ex.all fun e => e K
theorem exAll_at {ex : List (PySem.W.Frag → Bool)} {K : PySem.W.Frag} (h : exAll ex K = true) (i : Nat) {e : PySem.W.Frag → Bool} (he : ex[i]? = some e := by rfl) : e K = true := List.all_eq_true.mp h e (List.mem_of_getElem? he)
end Dl
set_option Elab.async false
set_option linter.all false
set_option maxRecDepth 100000
/-! list(range(a, b)) of numbers of any size -/
set_option Elab.async false
set_option linter.all false
set_option maxRecDepth 100000
/-! int of a truth value; isinstance of own classes: what of the head it wants -/
namespace Dl
open PySem L2 PyProof.Rows
def obtB (x : Str) (K : PySem.W.Frag) : Bool := He.eqO (PySem.W.findIn K (.ref (He.ga K x)) "__class__") (some (some (.builtin "object.__class__"))) && (He.eqO (PySem.W.specialIn K (.builtin "object.__class__") "__get__") (some (some (.builtin "getset_descriptor.__get__"))) &&
  (decide (PySem.W.takesIn K (.builtin "object.__class__") = some true) && decide (PySem.W.mroIn K (He.ga K x) (.type "object") = some true)))
theorem obtB_ok {K : PySem.W.Frag} {x : Str} (c : Cls K (He.ga K x)) (h : obtB x K = true) : ObT K (He.ga K x) := by
  unfold obtB at h
  obtain ⟨h1, h2⟩ := He.ba h
  obtain ⟨h3, h4⟩ := He.ba h2
  obtain ⟨h5, h6⟩ := He.ba h4
  exact ⟨c, He.eqO_ok h1, He.eqO_ok h3, of_decide_eq_true h5, of_decide_eq_true h6⟩
def isB (x y : Str) (b : Bool) (K : PySem.W.Frag) : Bool := decide (PySem.W.kitOne K (.ref (He.ga K x)) (.ref (He.ga K y)) = some b)
theorem isB_ok {K : PySem.W.Frag} {x y : Str} {b : Bool} (h : isB x y b K = true) : PySem.W.kitOne K (.ref (He.ga K x)) (.ref (He.ga K y)) = some b := of_decide_eq_true h
/-- a method that a class has from the one over it -/
def sameM (x y m : Str) (K : PySem.W.Frag) : Bool := decide (He.ma K (He.ga K x) m = He.ma K (He.ga K y) m)
theorem sameM_ok {K : PySem.W.Frag} {x y m : Str} (h : sameM x y m K = true) : He.ma K (He.ga K x) m = He.ma K (He.ga K y) m := of_decide_eq_true h
end Dl
set_option Elab.async false
set_option linter.all false
set_option maxRecDepth 100000
/-! sorted(set(xs)) of a list of ints -/
namespace DlSet
open PySem PySem.Spec PyProof.Rows L2
abbrev setW (w : World) : Obj := { cls := .type "set", dict := none, data := .set #[] 0 (.fresh 0 0 (!w.params.followText "set-order")) }
section
variable {prog : Program} {w : World} {A : Around} {E : Value → Shared → Prop} {s : Shared}
set_option maxHeartbeats 3200000 in
theorem call_set_ints {l : Addr} {items : Array Value} {ns : List Int} {Q : Value → Shared → Prop}
    (hh : A.handled = none) (hl : s.heap.IsList l items) (hi : IntsAre items.toList ns) (hb : ns.length + 1 < scanBound)
    (h : ∀ (h' : Heap) (tk c : Nat), SetR w h' s.heap.objs.size (fun j => decide (j ∈ ns)) c → c ≤ ns.length → (∀ b o, b < s.heap.objs.size → s.heap.get? b = some o → h'.get? b = some o) → Q (.ref s.heap.objs.size) { s with heap := h', toks := tk }) :
    wpAny (model prog w) A (call (.type "set") [.ref l]) Q E s := by
  have hisz : items.size = ns.length := by
    have q := IntsAre.length hi
    rwa [Array.length_toList] at q
  obtain ⟨c, tl, hmro⟩ := PySem.F.called_set.mro
  have hmade := PySem.F.called_set.made
  have hsub := PySem.F.called_set.sub
  refine wpAny_call (codeAny_of_tree ?_)
  show wpAny _ _ (callAny (.type "set") _) _ _ _
  refine wpAny_pure ⟨Code.quiet_builtin _ (by decide +kernel), codeAny_builtin PySem.F.entry_type_call ?_⟩
  rw [Around.under_plain (weight_type_call_type "set" [.ref l] []) rfl]
  have h1 := PySem.F.called_set.notType
  have h2 := PySem.F.called_set.canCreate
  have hct := PySem.F.typeCall_set_1 (.ref l)
  repeat (any_goals (first | assumption | wp_step))
  refine codeAny_mono (code_set_led1 (.ref l) (E := E) (Q₁ := fun obj s₁ => obj = .ref s.heap.objs.size ∧ s₁ = { s with heap := s.heap.push (setW w) }) ⟨rfl, rfl⟩) fun r s₁ hr => ?_
  match r, hr with
  | .error e, hr => exact hr
  | .ok .next, hr => exact hr.elim
  | .ok .brk, hr => exact hr.elim
  | .ok .cont, hr => exact hr.elim
  | .ok (.ret obj), hr =>
    obtain ⟨rfl, rfl⟩ := hr
    have hS : (s.heap.push (setW w)).get? s.heap.objs.size = some (setW w) := Heap.get?_push_size _ rfl
    have hT : Shared.TypeIs { s with heap := s.heap.push (setW w) } (.ref s.heap.objs.size) "set" := ⟨_, hS, rfl⟩
    have hli := PySem.F.called_set.init.lookup
    have hbi := PySem.F.called_set.init.bind (.ref s.heap.objs.size)
    repeat (any_goals (first | assumption | wp_step))
    refine codeAny_mono (codeAny_call_builtin (R := wants (fun r s₂ => r = .none ∧ ∃ h' tk c, s₂ = { s with heap := h', toks := tk } ∧ SetR w h' s.heap.objs.size (fun j => decide (j ∈ ns)) c ∧ c ≤ ns.length ∧
        (∀ b o, b < s.heap.objs.size → s.heap.get? b = some o → h'.get? b = some o)) E) PySem.F.called_set.init.plain PySem.F.entry_set_init (check_set_init_1 hT ?_)) fun r₂ s₂ hr₂ => ?_
    · obtain ⟨⟨ocls, odict, odata, oslots⟩, hol, hcl, nl, hdl⟩ := hl
      simp only at hcl hdl
      subst hcl; subst hdl
      have hol' : (s.heap.push (setW w)).get? l = some { cls := .type "list", dict := odict, data := .seq items nl, slots := oslots } := Heap.get?_push_of_some _ hol
      have hsls := PySem.F.sub_list_set
      have hslf := PySem.F.sub_list_frozenset
      have hne : (Value.type "list" == Value.type "dict") = false := by decide
      have hl1 : (s.heap.push (setW w)).IsList l items := ⟨_, hol', rfl, nl, rfl⟩
      unfold Builtin.«set.__init__» noKeywords Builtin.Frozenset.updateFrom
      generalize hPI : pyIter = PI
      wp_walk
      subst hPI
      refine wpAny_pyIter_list hl1 ?_
      refine wpAny_bind (wpAny_runValue ?_)
      have hlS : l < s.heap.objs.size := Heap.lt_size hol
      have hh3 : A.in1.in1.in1.handled = none := by simp [hh]
      have hneI : l ≠ (s.heap.push (setW w)).objs.size := by
        rw [Heap.size_push]; exact Nat.ne_of_lt (Nat.lt_succ_of_lt hlS)
      have hSf : s.heap.objs.size ∉ [(s.heap.push (setW w)).objs.size, l] := by
        rw [Heap.size_push]
        intro hx
        rcases List.mem_cons.mp hx with e | e
        · exact Nat.ne_of_lt (Nat.lt_succ_self _) e
        · exact Nat.ne_of_gt hlS (List.mem_singleton.mp e)
      have hval : ∀ (i : Nat) (v : Value), items[i]? = some v → ∃ k t, ns[i]? = some k ∧ v = .int k t := by
        intro i v hv
        have hi' : i < ns.length := by rw [← hisz]; exact (Array.getElem?_eq_some_iff.mp hv).1
        obtain ⟨t, e⟩ := PyProof.Rows.IntsAre.int_at hi i v (by rw [Array.getElem?_toList]; exact hv)
        exact ⟨ns[i], t, List.getElem?_eq_getElem hi', by rw [e, List.getD_eq_getElem?_getD, List.getElem?_eq_getElem hi']; rfl⟩
      refine set_update_ints ((Walks.list hh3 _ l hneI items).toS) s.heap.objs.size hSf ns hisz hb hval (items.size - 0) 0 _ rfl (Nat.zero_le _) ⟨⟨_, Heap.get?_push_size _ rfl, rfl, rfl⟩, (hl1.push _)⟩ ⟨0, Nat.le_refl 0, setR_new_at (Heap.get?_push_of_some _ hS)⟩ fun s' c' hm hc' hS' => ?_
      obtain ⟨h', g', d', tk', os'⟩ := s'
      have eg : g' = s.gens := hm.gens
      have ed : d' = s.drawn := hm.drawn
      have eo : os' = s.os := hm.os
      subst eg; subst ed; subst eo
      show wpAny _ _ _ _ _ _
      refine wpAny_pure ?_
      show wpAny _ _ (ret Value.none) _ _ _
      rw [hisz] at hc'
      refine wpAny_pure ⟨rfl, h', tk', c', rfl, hS', hc', fun b o hb' e => ?_⟩
      refine hm.heap b o ?_ (Heap.get?_push_of_some _ (Heap.get?_push_of_some _ e))
      intro hx
      rw [Heap.size_push] at hx
      rcases List.mem_cons.mp hx with e' | e'
      · exact Nat.ne_of_lt hb' e'
      · exact Nat.ne_of_lt (Nat.lt_succ_of_lt hb') (List.mem_singleton.mp e')
    · match r₂, hr₂ with
      | .error e, hr₂ => exact hr₂
      | .ok .next, hr₂ => exact hr₂.elim
      | .ok .brk, hr₂ => exact hr₂.elim
      | .ok .cont, hr₂ => exact hr₂.elim
      | .ok (.ret r), hr₂ =>
        obtain ⟨rfl, h', tk, c, rfl, hS', hc', hk'⟩ := hr₂
        repeat (any_goals (first | assumption | wp_step))
        exact h _ _ c hS' hc' hk'
end
end DlSet
namespace Dl
open PySem L2 PyProof.Rows
section
variable {X : Cx}
def rSetI (K : PySem.W.Frag) (w : World) : List V → Hp → VK → Prop := fun xs H Q => ∃ (l : Addr) (ns : List Int), xs = [.ref l] ∧ SqL K H l (ns.map V.int) ∧ ns.length ≤ 4000 ∧ ∀ p c, H p = none → c ≤ ns.length → Q (.ref p) (upd H p (SetO w p (fun j => decide (j ∈ ns)) c))
theorem cr_setI (hc : X.calm = true) : CallR X (.type "set") (rSetI X.K X.w) := by
  intro pins s σ H vs us Q I r h
  obtain ⟨l, ns, rfl, hs, hl, q⟩ := h
  obtain ⟨its, rv, pl, hz⟩ := I.list hs
  rw [Vals.ref1 r]
  refine DlSet.call_set_ints (I.ok.hd hc) pl.isList (by simpa using rv.ints) (by unfold scanBound; omega) fun h' tk c hS hcl hk => ?_
  have hn := I.hok.fresh (Nat.le_refl s.heap.objs.size)
  exact ⟨.ref s.heap.objs.size, upd H s.heap.objs.size (SetO X.w s.heap.objs.size (fun j => decide (j ∈ ns)) c), I.laid (t' := tk) (fun b o e => hk b o (Heap.lt_size e) e) (Nat.le_refl _) (setO_new hS), rfl, q _ c hn hcl⟩
def tSortSet (K : PySem.W.Frag) (ta : TE) : TE := fun σ H Q => ta σ H fun x H1 => ∃ (l : Addr) (ns : List Int), x = .ref l ∧ SqL K H1 l (ns.map V.int) ∧ ns.length < 64 ∧ ∀ (a p : Addr) (c : Nat) (ms : List Int) (w : World), H1 a = none → p ≠ a → H1 p = none → ms.Pairwise (· < ·) → (∀ k : Int, k ∈ ms ↔ k ∈ ns) → Q (.ref p) (upd (upd H1 a (SetO w a (fun j => decide (j ∈ ns)) c)) p (.lst (ms.map V.int)))
/-- sorted(set(xs)) -/
theorem pe_sortSet {a : Expr} {ta : TE} {p p2 q pos : Pos} (hg : Gl X "sorted") (hm : X.mg "sorted" = none) (hg2 : Gl X "set") (hm2 : X.mg "set" = none) (ha : PE X a ta) (hc : X.calm = true := by rfl)
    (na : starEach [a] X.env = (false, eval a X.env) :: starEach [] X.env := by rfl) : PE X (.Call (.Name "sorted" p) [.Call (.Name "set" p2) [a] [] q] [] pos) (tSortSet X.K ta) := by
  refine ⟨fun pins s σ H Q I h => ?_⟩
  refine Call_ (ld_blt I hg hm boot_sorted ?_)
  refine PyProof.Rows.callWith_builtin1 (PyProof.Rows.args_cons ?_ rfl) rfl rfl
  refine Call_ (ld_blt I hg2 hm2 boot_set ?_)
  refine PyProof.Rows.callWith_type1 (PyProof.Rows.args_cons (thn (ha.run pins s σ H _ I h) fun v s1 ⟨x, H1, I1, r1, q1⟩ => PyProof.Rows.args_nil ?_) na) na rfl
  obtain ⟨l, ns, rfl, hq, hl, q1⟩ := q1
  cases r1
  refine thn (cr_setI hc pins s1 σ H1 [.ref l] [.ref l] (fun x H2 => ∃ a c, x = .ref a ∧ H1 a = none ∧ c ≤ ns.length ∧ H2 = upd H1 a (SetO X.w a (fun j => decide (j ∈ ns)) c)) I1 (.cons rfl .nil) ⟨l, ns, rfl, hq, by omega, fun a c hp hcl => ⟨a, c, rfl, hp, hcl, rfl⟩⟩) fun v s2 ⟨x, H2, I2, r2, a, c, e1, hn, hcl, e2⟩ => ?_
  subst e1; subst e2
  cases r2
  refine PyProof.Rows.args_nil ?_
  refine cr_sortedSet hc pins s2 σ _ [.ref a] [.ref a] Q I2 (.cons rfl .nil) ⟨a, _, c, rfl, upd_same, by omega, fun ms pp hpw hms hlen hpn => ?_⟩
  have hne : pp ≠ a := fun e => by rw [e, upd_same] at hpn; cases hpn
  exact q1 a pp c ms X.w hn hne (by rwa [upd_ne hne] at hpn) hpw (fun k => by rw [hms]; simp)
end
section
variable {K : PySem.W.Frag} {B : Bs} {ρ : En} {μ : Mu} {ta : TE} {P : D → Mu → Prop}
/-- sorted(set(xs)): frozen -/
theorem de_sortSet (h : DE K B ta ρ μ fun x μ1 => ∃ ns : List Int, Ls μ1 x (ns.map D.int) ∧ ns.length < 64 ∧ ∀ ms : List Int, ms.Pairwise (· < ·) → (∀ k, k ∈ ms ↔ k ∈ ns) → P (.lst (ms.map D.int)) μ1) : DE K B (tSortSet K ta) ρ μ P := fun σ G H al hB hσ hA Q hQ =>
  h σ G H al hB hσ hA _ fun v x μ1 G1 H1 al1 n1 A1 r1 p1 => by
    obtain ⟨ns, ls, hl, p⟩ := p1
    obtain ⟨l, us, rfl, sq, rs⟩ := ls.get A1 r1
    have e := rs.ints
    subst e
    refine ⟨l, ns, rfl, sq, hl, fun a pp c ms w ha hne hp hpw hms => ?_⟩
    obtain ⟨A2, n2⟩ := A1.frz (o := SetO w a (fun j => decide (j ∈ ns)) c) ha
    obtain ⟨A3, n3⟩ := A2.frz (p := pp) (o := .lst (ms.map V.int)) (by rw [upd_ne hne]; exact hp)
    exact hQ _ _ μ1 _ _ _ ((n1.trans n2).trans n3) A3 (.lst upd_same (Rps.of_ints ms)) (p ms hpw hms)
end
end Dl
set_option Elab.async false
set_option linter.all false
set_option maxRecDepth 100000
/-! list.count of texts; slices stored; dict(pairs), d.get(k, x) -/
namespace Dl
open PySem L2 PyProof.Rows
/-! ### xs.count(text) -/
section
variable {K : PySem.W.Frag} {B : Bs} {ρ : En} {μ : Mu} {to td ty tx : TE} {tl th : TO} {P : D → Mu → Prop}
/-! ### d.get(k, x), dict(pairs) -/
theorem Dt.isD {G H : Hp} {al : List Addr} {v : V} {d : D} {gs : List (Key × D)} (h : Dt μ d gs) (A : As K G H al μ) (r : Rp K G al v d) : ∃ a, v = .ref a ∧ IsD H a := by
  obtain ⟨a, kvs, rfl, ha, _⟩ := h.get A r
  exact ⟨a, rfl, .inl ⟨kvs, ha⟩⟩
theorem de_dget2 (h : DE K B td ρ μ fun x μ1 => (∃ gs, Dt μ1 x gs) ∧ DE K B ty ρ μ1 fun y μ2 => DE K B tx ρ μ2 fun z μ3 => ∃ gs k, Dt μ3 x gs ∧ y = keyD k ∧ P ((valD gs k).getD z) μ3) : DE K B (tDGet2 td ty tx) ρ μ P := fun σ G H al hB hσ hA Q hQ =>
  h σ G H al hB hσ hA _ fun vx x μ1 G1 H1 al1 n1 A1 r1 p1 => by
    obtain ⟨⟨gs0, d0⟩, p1⟩ := p1
    obtain ⟨a, rfl, isd⟩ := d0.isD A1 r1
    refine ⟨a, rfl, isd, p1 σ G1 H1 al1 (hB.trans n1) (hσ.nx n1) A1 _ fun vy y μ2 G2 H2 al2 n2 A2 r2 p2 => p2 σ G2 H2 al2 ((hB.trans n1).trans n2) ((hσ.nx n1).nx n2) A2 _ fun vz z μ3 G3 H3 al3 n3 A3 r3 p3 => ?_⟩
    obtain ⟨gs, k, dt, rfl, p⟩ := p3
    obtain ⟨a', kvs, e, ha, rk⟩ := dt.get A3 ((r1.nx n2).nx n3)
    cases e
    obtain rfl := rp_key (r2.nx n3)
    refine ⟨_, dget_k ha, ?_⟩
    have nn := (n1.trans n2).trans n3
    cases q : valD gs k with
    | none =>
      rw [q] at p
      rw [(rk.val k).2 q]
      exact hQ _ _ μ3 G3 H3 al3 nn A3 r3 p
    | some d =>
      rw [q] at p
      obtain ⟨v, ev, rv⟩ := (rk.val k).1 d q
      rw [ev]
      exact hQ _ _ μ3 G3 H3 al3 nn A3 rv p
def rDictP (K : PySem.W.Frag) : List V → Hp → VK → Prop := fun xs H Q => ∃ (a : Addr) (ps : List Addr) (kvs : List (Key × V)), xs = [.ref a] ∧ SqL K H a (ps.map V.ref) ∧ Paired (fun p kv => SqT K H p [kV kv.1, kv.2]) ps kvs ∧ ∀ p, H p = none → Q (.ref p) (upd H p (.dK (mergeK [] kvs)))
theorem pairs_rps {G H : Hp} {al : List Addr} (s : Same G H) : ∀ {gs : List (Key × D)} {us : List V}, Rps K G al us (gs.map fun kv => .tup [keyD kv.1, kv.2]) → ∃ (ps : List Addr) (kvs : List (Key × V)), us = ps.map V.ref ∧ Paired (fun p kv => SqT K H p [kV kv.1, kv.2]) ps kvs ∧ Rpk K G al kvs gs
  | [], _, h => by cases h; exact ⟨[], [], rfl, .nil, .nil⟩
  | (k, d) :: gs, _, h => by
    obtain ⟨v, ws, rfl, r, t⟩ := rps_cons h
    obtain ⟨ps, kvs, rfl, pr, rk⟩ := pairs_rps s (gs := gs) t
    cases r with
    | tup e rs =>
      obtain ⟨v1, v2, rfl, r1, r2⟩ := rps2 rs
      obtain rfl := rp_key r1
      exact ⟨_ :: ps, (k, v2) :: kvs, rfl, .cons (.inl (.inl (s _ _ e))) pr, .cons r2 rk⟩
theorem rc_dictP {x : D} {gs : List (Key × D)} (hl : Ls μ x (gs.map fun kv => .tup [keyD kv.1, kv.2])) (h : P (.dct (mergeKD [] gs)) μ ∨ P (.own μ.length) (μ ++ [.dK (mergeKD [] gs)])) : RC K (rDictP K) [x] μ P := fun G H al vs A r Q hQ => by
  obtain ⟨v, rfl, r1⟩ := rps1 r
  obtain ⟨a, us, rfl, sq, ru⟩ := hl.get A r1
  obtain ⟨ps, kvs, rfl, pr, rk⟩ := pairs_rps A.sub ru
  refine ⟨a, ps, kvs, rfl, sq, pr, fun p hp => ?_⟩
  have rm := rk.merge (gs := []) (kvs := []) .nil
  rcases h with h | h
  · obtain ⟨A2, n2⟩ := A.frz (o := .dK (mergeK [] kvs)) hp
    exact hQ _ _ μ _ _ _ n2 A2 (.dct (.inl upd_same) (rm.mono n2.g n2.p)) h
  · obtain ⟨A2, n2⟩ := A.own (o := .dK (mergeK [] kvs)) (m := .dK (mergeKD [] gs)) hp ⟨A.sub.free hp, _, upd_same, rm.mono (Same.refl _) ⟨[p], rfl⟩⟩
    exact hQ _ _ _ _ _ _ n2 A2 (.own (by rw [← A.len]; simp)) h
end
end Dl
set_option Elab.async false
set_option linter.all false
namespace Dl
open PySem L2 PyProof.Rows
/-- a part of a tuple -/
theorem rs_anyT {K : PySem.W.Frag} {μ : Mu} {x : D} {ds : List D} {P : D → Mu → Prop} {lo hi : Option Int} (hl : Ts x ds) (hne : ¬ (HT.sIx ds.length 0 lo = 0 ∧ HT.sIx ds.length ds.length hi = ds.length)) (h : P (.tup (cutD ds lo hi)) μ) : RS K (rSlA K) x lo hi μ P := fun G H al v A r Q hQ => by
  obtain ⟨a, ws, rfl, s, rs⟩ := hl.get A r
  refine .inr (.inr ⟨a, ws, rfl, s, by rw [rs.length]; exact hne, fun p hp => ?_⟩)
  obtain ⟨A2, n2⟩ := A.frz (o := .tup (cutV ws lo hi)) hp
  exact hQ _ _ μ _ _ _ n2 A2 (.tup upd_same ((cut_rps rs lo hi).nx n2)) h
theorem rps_own {K : PySem.W.Frag} {G : Hp} {al : List Addr} {a : Addr} {j : Nat} {d : D} (ha : al[j]? = some a) (r : Rp K G al (.ref a) d) : ∀ {ds : List D} {vs : List V}, Rps K G al vs (ds ++ [.own j]) → Rps K G al vs (ds ++ [d])
  | [], _, h => by
    cases h with
    | cons r0 t =>
      cases r0 with
      | own e2 => rw [ha] at e2; cases e2; exact .cons r t
  | x :: ds, _, h => by
    cases h with
    | cons r0 t => exact .cons r0 (rps_own ha r t)
/-- the last thing of a list, a list itself, is frozen -/
theorem gh_app {K : PySem.W.Frag} {μ : Mu} {k j : Nat} {ds es : List D} (hk : μ[k]? = some (.lst (ds ++ [.own j]))) (hkj : j ≠ k) (hj : μ[j]? = some (.lst es)) : Gh K μ ((μ.set j .dead).set k (.lst (ds ++ [.lst es]))) := fun G H al A => by
  obtain ⟨a, ha, ga, vs, hv, rs⟩ := A.get hj
  obtain ⟨A1, n1⟩ := A.freeze ha hv ga
  have hk1 : (μ.set j .dead)[k]? = some (.lst (ds ++ [.own j])) := by rw [List.getElem?_set_ne hkj]; exact hk
  obtain ⟨b, hb, gb, us, hus, ru⟩ := A1.get hk1
  have r2 : Rp K (upd G a (.lst vs)) al (.ref a) (.lst es) := .lst upd_same (rs.nx n1)
  have hup : upd H b (.lst us) = H := by
    funext z
    by_cases hz : z = b
    · subst hz; rw [upd_same, hus]
    · rw [upd_ne hz]
  obtain ⟨A2, n2⟩ := A1.put (o := .lst us) (m' := .lst (ds ++ [.lst es])) hb hk1 (by simp) ⟨gb, us, upd_same, rps_own ha r2 ru⟩
  rw [hup] at A2 n2
  exact ⟨_, A2, n1.trans n2⟩
/-- a dict in a field is frozen -/
theorem gh_fldK {K : PySem.W.Frag} {μ : Mu} {k j : Nat} {C : Addr} {gs : List (Str × D)} {f : Str} {ps : List (Key × D)} (hk : μ[k]? = some (.ins C gs)) (hl : gs.lookup f = some (.own j)) (hj : μ[j]? = some (.dK ps)) : Gh K μ ((μ.set j .dead).set k (.ins C (putD f (.dct ps) gs))) := fun G H al A => by
  obtain ⟨a, ha, ga, vs, hv, rs⟩ := A.get hj
  obtain ⟨A1, n1⟩ := A.freeze ha hv ga
  have hk1 : (μ.set j .dead)[k]? = some (.ins C gs) := by
    rw [List.getElem?_set_ne fun e => by rw [e, hk] at hj; cases hj]
    exact hk
  obtain ⟨b, hb, gb, dx, fs, hfs, rf⟩ := A1.get hk1
  have hup : upd H b (.ins C dx fs) = H := by
    funext z
    by_cases hz : z = b
    · subst hz; rw [upd_same, hfs]
    · rw [upd_ne hz]
  obtain ⟨A2, n2⟩ := A1.put (o := .ins C dx fs) (m' := .ins C (putD f (.dct ps) gs)) hb hk1 (by simp) ⟨gb, dx, fs, upd_same, rpf_own ha (.dct (.inl upd_same) (rs.mono n1.g n1.p)) rf hl⟩
  rw [hup] at A2 n2
  exact ⟨_, A2, n1.trans n2⟩
end Dl
set_option Elab.async false
set_option linter.all false
set_option maxRecDepth 100000
set_option maxHeartbeats 2000000
/-! exceptions that are caught and kept as values -/
namespace PySem.W
open PySem PySem.Spec PySem.Calls PyProof.Rows
end PySem.W
namespace Dl
open PySem PySem.Spec PyProof.Rows L2
/-- e.n, e a caught exception -/
def tXfK (K : PySem.W.Frag) (n : Str) (te : TE) : TE := fun σ H Q => te σ H fun x H1 => ∃ (a C dx : Addr) (fs : List (Str × V)) (v : V), x = .ref a ∧ H1 a = some (ExV (.ref C) (some dx) a) ∧ H1 dx = some (.xd fs) ∧ XfC K C ∧ PySem.W.findIn K (.ref C) n = some none ∧ fs.lookup n = some v ∧ Q v H1
end Dl
set_option Elab.async false
set_option linter.all false
set_option maxRecDepth 100000
set_option maxHeartbeats 2000000
/-! exceptions over data: raised with fields, caught, looked at -/
namespace Dl
open PySem PySem.Spec PyProof.Rows L2
/-! ### raise C(e, ..), C's own __init__ -/
/-- C.__init__ is ValueError's -/
structure ReI (K : PySem.W.Frag) (C : Addr) : Prop where
  rd : PySem.W.readsIn K C (.type "type") = true
  ga : PySem.W.specialIn K (.ref C) "__getattribute__" = some (some (.builtin "type.__getattribute__"))
  at_ : PySem.W.findCls K (.ref C) (.type "type") "__init__" = some (.val (.builtin "ValueError.__init__"))
def reiB (x : Str) (K : PySem.W.Frag) : Bool := PySem.W.readsIn K (He.ga K x) (.type "type") && (He.eqO (PySem.W.specialIn K (.ref (He.ga K x)) "__getattribute__") (some (some (.builtin "type.__getattribute__"))) &&
  (match PySem.W.findCls K (.ref (He.ga K x)) (.type "type") "__init__" with
    | some (.val (.builtin f)) => decide (f = "ValueError.__init__")
    | _ => false))
theorem reiB_ok {K : PySem.W.Frag} {x : Str} (h : reiB x K = true) : ReI K (He.ga K x) := by
  unfold reiB at h
  obtain ⟨h1, h2⟩ := He.ba h
  obtain ⟨h3, h5⟩ := He.ba h2
  refine ⟨h1, He.eqO_ok h3, ?_⟩
  split at h5
  · rename_i f e
    rw [e, of_decide_eq_true h5]
  · cases h5
section
variable {X : Cx} {o e : Expr} {es : List Expr} {ta : TA} {pos apos : Pos} {C : Addr}
theorem pe_reinit {pl : Sem Bool} (he : PE X o (tC (.ref C))) (c : ReI X.K C) (ha : PA X (e :: es) ta)
    (hst : starEach (e :: es) X.env = (false, eval e X.env) :: starEach es X.env := by rfl) (hpl : (backTo pos (starEach es X.env)).any (·.1) = false := by rfl)
    (ht : eval (.Call (.Attribute o "__init__" apos) (e :: es) [] pos) X.env = (do
      let ov ← eval o X.env; standAt apos.atName
      let (f, first) ← holding [ov] (getMethod ov "__init__" pl); callWith pos f first (backTo pos (starEach (e :: es) X.env)) (backToKw pos (keywordEach [] X.env))) := by rfl) :
    PE X (.Call (.Attribute o "__init__" apos) (e :: es) [] pos) (tVeI X.K ta) := by
  refine ⟨fun pins s σ H Q I h => ?_⟩
  refine PySem.W.methodCall_KW (pl := pl) (thn (he.run pins s σ H (fun x H1 => x = .ref C ∧ H1 = H) I ⟨rfl, rfl⟩) fun u s1 ⟨x, H1, I1, rx, ex, eH⟩ => ?_) ht
  cases ex
  cases (show u = Value.ref C from rx)
  rw [eH] at I1
  refine PySem.W.method_cls I1.kIn c.ga (PySem.W.cls_value I1.kIn c.rd c.at_ rfl ?_)
  show wpAny _ _ (callWith pos (Value.builtin "ValueError.__init__") [] (backTo pos (starEach (e :: es) X.env)) []) _ _ _
  refine PyProof.Rows.callWith_method1 (thn (ha.run pos pins _ σ H _ (I1.tok _) h) fun us s1 ⟨vs, H1, I1, r1, a, C, ws, ev, hl, T, ea, q⟩ => ?_) hst hpl
  cases ev
  cases r1 with
  | @cons _ u0 _ ur ra rw' =>
    cases (show u0 = Value.ref a from ra)
    refine oinit_ok T I1 ea ?_ fun s' J => ⟨.non, H1, J, rfl, q⟩
    rw [← Paired.length rw', sizeLine_eq]
    omega
end
/-- what a class with an own __init__ of fields must say -/
def oexB (x : Str) (K : PySem.W.Frag) : Bool := (match K.lookup (He.ga K x) with
  | some ⟨.type "type", _, .cls cd, sl⟩ => (match cd.mro, sl.toList with
    | .ref C' :: bm, [_, _, _, _, some (.builtin n), _] => C' == He.ga K x && n == "ValueError.__new__" && !cd.hasDel && cd.hasDict && PySem.HandSPX.refsVE bm
    | _, _ => false)
  | _ => false) && (He.eqO (PySem.W.findIn K (.ref (He.ga K x)) "__setattr__") (some (some (.builtin "object.__setattr__"))) && (decide (PySem.W.subIn K (.ref (He.ga K x)) (.type "BaseException") = some true) &&
    (decide (PySem.W.typeIn K (.ref (He.ga K x)) = some (.type "type")) && PySem.W.keepIn K (.ref (He.ga K x)))))
theorem oexB_ok {K : PySem.W.Frag} {x : Str} (h : oexB x K = true) : OexC K (He.ga K x) := by
  unfold oexB at h
  obtain ⟨q, h2⟩ := He.ba h
  obtain ⟨h3, h4⟩ := He.ba h2
  obtain ⟨h5, h6⟩ := He.ba h4
  obtain ⟨h7, h8⟩ := He.ba h6
  refine ⟨?_, He.eqO_ok h3, of_decide_eq_true h5, of_decide_eq_true h7, h8⟩
  split at q
  · rename_i dd cd sl ho
    split at q
    · rename_i C' bm k0 k1 k2 k3 n k5 hm hs
      simp only [Bool.and_eq_true, beq_iff_eq, Bool.not_eq_true'] at q
      obtain ⟨⟨⟨⟨e1, e2⟩, hdel⟩, hdi⟩, ht⟩ := q
      obtain ⟨nm, bs, mro, ns, qn, hd, sn, sub, ab, col, del⟩ := cd
      dsimp only at hm hdel hdi
      subst hm hdel hdi e1 e2
      have hsl : sl = #[k0, k1, k2, k3, some (.builtin "ValueError.__new__"), k5] := by
        obtain ⟨l⟩ := sl
        simp only at hs
        rw [hs]
      subst hsl
      exact ⟨_, _, _, _, _, _, _, _, _, _, _, _, _, _, _, ho, ht⟩
    · cases q
  · cases q
/-- the fields that an __init__ has stored -/
def fsOf {α : Type} (ns : List Str) (ws : List α) : List (Str × α) := (ns.zip ws).reverse
/-- the promise of an __init__ that stores what it is handed -/
def spX (C : Addr) (ns : List Str) : Sp := fun vs H Q _ => ∃ (a : Addr) (ws : List V), vs = .ref a :: ws ∧ ws.length = ns.length ∧ H a = some (exo a C none) ∧ ∀ dx, H dx = none → dx ≠ a → Q .non (upd (upd H dx (exd dx (fsOf ns ws))) a (exo a C (some dx)))
theorem upd_upd {H : Hp} {a : Addr} {o u : HO} : upd (upd H a o) a u = upd H a u := by
  funext b
  by_cases e : b = a
  · rw [e, upd_same, upd_same]
  · rw [upd_ne e, upd_ne e, upd_ne e]
theorem upd_comm {H : Hp} {a b : Addr} {o u : HO} (h : a ≠ b) : upd (upd H a o) b u = upd (upd H b u) a o := by
  funext c
  by_cases e : c = a
  · rw [e, upd_ne h, upd_same, upd_same]
  · by_cases e2 : c = b
    · rw [e2, upd_same, upd_ne h.symm, upd_same]
    · rw [upd_ne e2, upd_ne e, upd_ne e, upd_ne e2]
def tInit3 (K : PySem.W.Frag) (m f g h : Str) : TS := tSeq (tDrop (tVeI K (tCons (tVar 0) (tCons (tC (.str m)) tNil)))) (tSeq (tOst K f (tVar 0) (tVar 1)) (tSeq (tOst K g (tVar 0) (tVar 2)) (tOst K h (tVar 0) (tVar 3))))
section
variable {P : Program} {w : World} {K : PySem.W.Frag} {mg : Str → Option Value} {base : Heap} {x qual : Str} {st : Stmt} {f : Addr} {fd : FuncData} {k : Nat} {C : Addr}
theorem fn_X3 {m p1 p2 p3 p4 f1 f2 f3 : Str} (F : FunD K x qual (defArgs st) (defBody st) (defScope st) [] [] f fd) (S : FnScope [p1, p2, p3, p4] [p1, p2, p3, p4] (defScope st)) (T : OexC K C) (h1 : PySem.W.findIn K (.ref C) f1 = some none) (h2 : PySem.W.findIn K (.ref C) f2 = some none) (h3 : PySem.W.findIn K (.ref C) f3 = some none)
    (body : ∀ (cdv : Value) (A : Around) (outer : List Env) (s : Shared) (H : Hp) (E : XK), Room k (A.deeper (envOfC qual (defScope st) s.heap.objs.size f cdv)) → PSs (cxOf (L2.CX P w) P w K mg base [p1, p2, p3, p4] qual (defScope st) f cdv A outer s H E) (defBody st) (tInit3 K m f1 f2 f3)) :
    FnOk P w K mg base (L2.CX P w) (k + 1) f fd [p1, p2, p3, p4] (spX C [f1, f2, f3]) := by
  refine F.ok S (fun vs H Q E h => ?_) (fun cdv A outer s H vs Q E hr h => ⟨_, body cdv A outer s H E hr, ?_⟩)
  · obtain ⟨a, ws, rfl, hl, _⟩ := h
    simp [hl]
  · obtain ⟨a, ws, rfl, hl, ha, q⟩ := h
    match ws, hl with
    | [y1, y2, y3], _ =>
      refine ⟨.ref a, rfl, a, C, [.str m], rfl, by simp, T, ha, ?_⟩
      refine ⟨y1, rfl, .ref a, rfl, a, C, rfl, T, h1, .inl ⟨ha, fun dx hd ne => ?_⟩⟩
      refine ⟨y2, rfl, .ref a, rfl, a, C, rfl, T, h2, .inr ⟨dx, [(f1, y1)], upd_same, by rw [upd_ne ne, upd_same], by simp, ?_⟩⟩
      refine ⟨y3, rfl, .ref a, rfl, a, C, rfl, T, h3, .inr ⟨dx, [(f2, y2), (f1, y1)], by rw [upd_ne ne.symm, upd_same], upd_same, by simp, ?_⟩⟩
      have z := q dx hd ne
      rw [upd_upd, upd_comm ne.symm, upd_upd]
      exact z
end
theorem rpf_app {K : PySem.W.Frag} {G : Hp} {al : List Addr} {fs fs' : List (Str × V)} {gs gs' : List (Str × D)} (h : Rpf K G al fs gs) (h' : Rpf K G al fs' gs') : Rpf K G al (fs ++ fs') (gs ++ gs') := by
  induction gs generalizing fs with
  | nil => cases h; exact h'
  | cons d ds ih => cases h with | cons r t => exact .cons r (ih t)
theorem rpf_fsOf {K : PySem.W.Frag} {G : Hp} {al : List Addr} : ∀ (ns : List Str) {vs : List V} {ds : List D}, Rps K G al vs ds → Rpf K G al (fsOf ns vs) (fsOf ns ds)
  | [], _, _, _ => by simp [fsOf]; exact .nil
  | n :: ns, _, _, .nil => by simp [fsOf]; exact .nil
  | n :: ns, _, _, .cons r t => by
    have z := rpf_app (rpf_fsOf ns t) (.cons (f := n) r .nil)
    simpa [fsOf] using z
/-- raise C(e, ..), C storing its arguments -/
def tRaiseO (C : Addr) (sp : Sp) (ta : TA) (E : XK) : TS := fun _ σ H => tMkO C sp [] ta σ H fun cls d H' => E cls d H'
theorem ds_raiseO {K : PySem.W.Frag} {B : Bs} {ρ : En} {μ : Mu} {P : DEnds} {C : Addr} {ns : List Str} {ta : TA} {E : XK} {PX : PXT} (hE : XAg K B PX E) (h : DA K B ta ρ μ fun ds μ1 => ds.length = ns.length ∧ ns.length ≤ 100 ∧ PX C (fsOf ns ds) μ1) : DS K B (tRaiseO C (spX C ns) ta E) ρ μ P := fun σ G H al hB hσ hA De hD =>
  h σ G H al hB hσ hA _ fun vs ds μ1 G1 H1 al1 n1 A1 r1 p1 => by
    obtain ⟨hl, hn, p⟩ := p1
    have hv : vs.length = ns.length := r1.length.trans hl
    refine ⟨by omega, fun a na => ⟨a, vs, by rw [List.append_nil], hv, upd_same, fun dx hd ne => ⟨rfl, dx, fsOf ns vs, upd_same, by rw [upd_ne ne, upd_same], ?_, ?_⟩⟩⟩
    · rw [upd_ne ne] at hd; exact hd
    · rw [upd_ne ne] at hd
      have e : upd (del (upd (upd (upd H1 a (exo a C none)) dx (exd dx (fsOf ns vs))) a (exo a C (some dx))) a) dx (.xd (fsOf ns vs)) = upd H1 dx (.xd (fsOf ns vs)) := by
        funext b
        by_cases hb : b = dx
        · rw [hb, upd_same, upd_same]
        · rw [upd_ne hb, upd_ne hb]
          by_cases hba : b = a
          · rw [hba, del_same, na]
          · rw [del_ne hba, upd_ne hba, upd_ne hb, upd_ne hba]
      rw [e]
      obtain ⟨A2, n2⟩ := A1.frz (o := .xd (fsOf ns vs)) hd
      refine hE C (fsOf ns ds) (some dx) μ1 _ _ al1 (hB.trans (n1.trans n2)) A2 (.inr ⟨dx, fsOf ns vs, rfl, upd_same, ?_⟩) p
      exact rpf_fsOf ns (r1.nx n2)
/-! ### try -/
abbrev PWT := Addr → List (Str × D) → En → Mu → Prop
section
variable {K : PySem.W.Frag} {B : Bs} {ρ : En} {μ : Mu} {te ta : TE} {ts : TA} {P : D → Mu → Prop} {PW : PWT} {W : WX} {C : CT} {dvs : List V} {dds : List D}
/-! ### isinstance, fields -/
theorem de_xf {n : Str} (h : DE K B te ρ μ fun x μ1 => ∃ Cc gs d, x = .exc Cc gs ∧ XfC K Cc ∧ PySem.W.findIn K (.ref Cc) n = some none ∧ gs.lookup n = some d ∧ P d μ1) : DE K B (tXfK K n te) ρ μ P := fun σ G H al hB hσ hA Q hQ =>
  h σ G H al hB hσ hA _ fun v x μ1 G1 H1 al1 n1 A1 r1 p1 => by
    obtain ⟨Cc, gs, d, rfl, hx, hn, hl, p⟩ := p1
    cases r1 with
    | exc e hd rf =>
      obtain ⟨w, lw, rw'⟩ := rf.look hl
      rcases hd with ⟨rfl, rfl⟩ | ⟨dx, rfl, hd⟩
      · cases lw
      · exact ⟨_, Cc, dx, _, w, rfl, A1.sub _ _ e, A1.sub _ _ hd, hx, hn, lw, hQ _ _ μ1 _ _ _ n1 A1 rw' p⟩
end
/-! ### what the text says of the refusals -/
/-- fields of a refusal -/
structure KXf (K : PySem.W.Frag) (x : Str) (fs : List Str) : Prop where
  xf : XfC K (He.ga K x)
  no : ∀ f ∈ fs, PySem.W.findIn K (.ref (He.ga K x)) f = some none
  ox : OexC K (He.ga K x)
def kxfB (x : Str) (fs : List Str) (K : PySem.W.Frag) : Bool := xfB K (He.ga K x) && (oexB x K && fs.all fun f => He.eqO (PySem.W.findIn K (.ref (He.ga K x)) f) (some none))
theorem kxfB_ok {x : Str} {fs : List Str} {K : PySem.W.Frag} (h : kxfB x fs K = true) : KXf K x fs := by
  unfold kxfB at h
  obtain ⟨h1, h2⟩ := He.ba h
  obtain ⟨h3, h4⟩ := He.ba h2
  exact ⟨xfB_ok h1, fun f hf => He.eqO_ok (List.all_eq_true.mp h4 f hf), oexB_ok h3⟩
end Dl
set_option Elab.async false
set_option linter.all false
set_option maxRecDepth 100000
/-! small rules: exceptions and None, == of texts -/
namespace Dl
open PySem L2 PyProof.Rows
section
variable {K : PySem.W.Frag} {B : Bs} {ρ : En} {μ : Mu} {te : TE} {P : D → Mu → Prop}
theorem np_exc {Q : Bool → Prop} {C : Addr} {gs : List (Str × D)} (h : Q false) : IsNP (.exc C gs) Q := np_f (by simp) h
theorem ro_eqS {i j : Str} (h1 : PyData.strOk i = true) (h2 : PyData.strOk j = true) (h : P (.bl (decide (i = j))) μ) : RO K (rEqD K) (.str i) (.str j) μ P := ro_eqD (n := 0) (m := 0) (.id _) (.id _) h1 h2 (by rw [eqvD_str]; exact h)
theorem ro_neS {i j : Str} (h1 : PyData.strOk i = true) (h2 : PyData.strOk j = true) (h : P (.bl (!decide (i = j))) μ) : RO K (rNeD K) (.str i) (.str j) μ P := ro_neD (n := 0) (m := 0) (.id _) (.id _) h1 h2 (by rw [eqvD_str]; exact h)
theorem ro_eqSS {i : Str} (h1 : PyData.strOk i = true) (h : P (.bl true) μ) : RO K (rEqD K) (.str i) (.str i) μ P := ro_eqS h1 h1 (by simpa using h)
theorem ro_neSS {i : Str} (h1 : PyData.strOk i = true) (h : P (.bl false) μ) : RO K (rNeD K) (.str i) (.str i) μ P := ro_neS h1 h1 (by simpa using h)
theorem ro_eqSd {i j : Str} (h1 : PyData.strOk i = true) (h2 : PyData.strOk j = true) (hn : i ≠ j) (h : P (.bl false) μ) : RO K (rEqD K) (.str i) (.str j) μ P := ro_eqS h1 h2 (by simpa [hn] using h)
theorem ro_neSd {i j : Str} (h1 : PyData.strOk i = true) (h2 : PyData.strOk j = true) (hn : i ≠ j) (h : P (.bl true) μ) : RO K (rNeD K) (.str i) (.str j) μ P := ro_neS h1 h2 (by simpa [hn] using h)
/-- fields of a caught exception -/
def XfP (K : PySem.W.Frag) (n : Str) (x : D) (Q : D → Prop) : Prop := ∃ Cc gs d, x = .exc Cc gs ∧ XfC K Cc ∧ PySem.W.findIn K (.ref Cc) n = some none ∧ gs.lookup n = some d ∧ Q d
theorem de_xfZ {n : Str} (h : DE K B te ρ μ fun x μ1 => XfP K n x fun d => P d μ1) : DE K B (tXfK K n te) ρ μ P := de_xf h
theorem xf_i {n x : Str} {fs : List Str} {gs : List (Str × D)} {d : D} {Q : D → Prop} (k : KXf K x fs) (hn : n ∈ fs) (hl : gs.lookup n = some d) (h : Q d) : XfP K n (.exc (He.ga K x) gs) Q := ⟨_, _, _, rfl, k.xf, k.no _ hn, hl, h⟩
end
end Dl
set_option Elab.async false
set_option linter.all false
set_option maxRecDepth 100000
/-! range downwards -/
set_option Elab.async false
set_option linter.all false
set_option maxRecDepth 100000
/-! tuple(x), a number in a tuple, list(dict) -/
set_option Elab.async false
set_option linter.all false
set_option maxRecDepth 100000
set_option maxHeartbeats 2000000
/-! lambdas handed to a def -/
set_option Elab.async false
set_option linter.all false
set_option maxRecDepth 100000
set_option maxHeartbeats 2000000
/-! lambdas over data; the head and the end with tables -/
set_option Elab.async false
set_option linter.all false
set_option maxRecDepth 100000
/-! str(i) -/
namespace Dl
open PySem L2 PyProof.Rows
abbrev rStrI : List V → Hp → VK → Prop := fun xs H Q => ∃ i : Int, xs = [.int i] ∧ i.natAbs.log2 < 1920 ∧ Q (.str (toString i)) H
theorem rc_strI {K : PySem.W.Frag} {μ : Mu} {P : D → Mu → Prop} {i : Int} (hi : i.natAbs.log2 < 1920) (h : P (.str (toString i)) μ) : RC K rStrI [.int i] μ P := fun G H al vs A r Q hQ => by
  cases r with
  | cons r1 r2 =>
    cases r2
    cases r1
    exact ⟨i, rfl, hi, hQ.now A (.str _) h⟩
end Dl
set_option Elab.async false
set_option linter.all false
set_option maxRecDepth 100000
/-! x in l, items of any depth -/
namespace Dl
open PySem L2 PyProof.Rows
/-- the first in the second, both nodup -/
theorem nodup_len {α : Type} [DecidableEq α] : ∀ {xs ys : List α}, xs.Nodup → (∀ x ∈ xs, x ∈ ys) → xs.length ≤ ys.length
  | [], _, _, _ => by simp
  | x :: r, ys, nd, h => by
    have hn := List.nodup_cons.mp nd
    have hx := h x (by simp)
    have := nodup_len (ys := ys.erase x) hn.2 fun z hz => by
      rw [List.mem_erase_of_ne]
      · exact h z (by simp [hz])
      · rintro rfl; exact hn.1 hz
    rw [List.length_erase_of_mem hx] at this
    have := List.length_pos_of_mem hx
    simp
    omega
end Dl
set_option Elab.async false
set_option linter.all false
set_option maxRecDepth 100000
/-! the head's facts over a told list of objects -/
namespace Dl
open PySem L2 PyProof.Rows
def obsLG (as : List Addr) (fa : List He.Fa) (fn : List He.DefD) (ex : List (PySem.W.Frag → Bool)) (g : Addr → Option Obj) : AlX := (He.obsD fa fn (He.frG g as), exAll ex (He.frG g as))
def hookL (as : List Addr) (fa : List He.Fa) (fn : List He.DefD) (ex : List (PySem.W.Frag → Bool)) : PySem.W.Hook where
  α := AlX
  obs := fun s => obsLG as fa fn ex s.heap.get?
  val := fun _ => (He.valD fn, true)
  says := fun _ h => ∃ K : PySem.W.Frag, K.In h ∧ He.SaysD fa fn K ∧ exAll ex K = true
  of := fun _ _ e => ⟨_, He.frG_in, congrArg Prod.fst e, congrArg Prod.snd e⟩
  keeps := fun _ _ _ ⟨K, hK, c⟩ k => ⟨K, PySem.W.Frag.In.keeps hK k, c⟩
theorem obsLG_eq {as : List Addr} {fa : List He.Fa} {fn : List He.DefD} {ex : List (PySem.W.Frag → Bool)} {g : Addr → Option Obj} {s : Shared} (h : ∀ a, g a = s.heap.get? a) : obsLG as fa fn ex g = (hookL as fa fn ex).obs s := by
  have e : g = s.heap.get? := funext h
  rw [e] <;> rfl
/-! with tables -/
/-! ### the run, looked at thrice -/
/-! ### a slice as a target; room -/
theorem fn_tyA {K : PySem.W.Frag} {f : Addr} (h : PySem.W.isFn K (.ref f) = true) : PySem.W.typeIn K (.ref f) = some (.type "function") := beq_iff_eq.mp h
end Dl
set_option Elab.async false
set_option linter.all false
set_option maxRecDepth 100000
/-! a dict that is walked stands locked for that time -/
namespace Dl
open PySem L2
/-- G2 is G1 but for locks of dicts -/
def Lk (G G' : Hp) : Prop := ∀ b o, G b = some o → G' b = some o ∨ ((∃ kvs, o = .dK kvs ∨ ∃ o', o = .frz o' (.dK kvs)) ∧ ∀ kvs, Rd G b (.dK kvs) → Rd G' b (.dK kvs))
section
variable {K : PySem.W.Frag} {G G' : Hp} {al al' : List Addr}
theorem Lk.plain (s : Lk G G') {b : Addr} {o : HO} (h : G b = some o) (n1 : ∀ kvs, o ≠ .dK kvs) (n2 : ∀ o' kvs, o ≠ .frz o' (.dK kvs)) : G' b = some o := by
  rcases s b o h with z | ⟨⟨kvs, z | ⟨o', z⟩⟩, _⟩
  · exact z
  · exact absurd z (n1 kvs)
  · exact absurd z (n2 o' kvs)
theorem Lk.rd (s : Lk G G') {b : Addr} {kvs : List (Key × V)} (h : Rd G b (.dK kvs)) : Rd G' b (.dK kvs) := by
  rcases h with h | ⟨o, h⟩
  · rcases s b _ h with z | ⟨_, z⟩
    · exact .inl z
    · exact z _ (.inl h)
  · rcases s b _ h with z | ⟨_, z⟩
    · exact .inr ⟨o, z⟩
    · exact z _ (.inr ⟨o, h⟩)
end
end Dl
set_option Elab.async false
set_option linter.all false
set_option maxRecDepth 100000
/-! Dl37: == and != of things of own classes, any answer -/
namespace Dl
open PySem L2 PyProof.Rows
/-- what == of a class asks: things of the class, numbers, lists, tuples -/
structure KEq (K : PySem.W.Frag) (x : Str) : Prop where
  ob : ObT K (He.ga K x)
  is : PySem.W.kitOne K (.ref (He.ga K x)) (.ref (He.ga K x)) = some true
  no : ∀ n ∈ (["int", "list", "tuple"] : List String), PySem.W.kitOne K (.type n) (.ref (He.ga K x)) = some false ∧ PySem.W.notFirst K (He.ga K x) (.type n) = true
theorem KEq.nf {K : PySem.W.Frag} {x : Str} (k : KEq K x) : PySem.W.notFirst K (He.ga K x) (.ref (He.ga K x)) = true := by simp [PySem.W.notFirst]
section
variable {K : PySem.W.Frag} {μ : Mu} {P : D → Mu → Prop} {x y : D} {C : Addr} {gs : List (Str × D)} {tb : Value} {Ct : CT} {E : XK}
/-- a thing of the class at C -/
def InO (μ : Mu) (C : Addr) (x : D) : Prop := ∃ gs, x = .obj C gs ∨ ∃ k, x = .own k ∧ μ[k]? = some (.ins C gs)
theorem InO.get {G H : Hp} {al : List Addr} {v : V} (h : InO μ C x) (A : As K G H al μ) (r : Rp K G al v x) : ∃ a dx fs, v = .ref a ∧ H a = some (.ins C dx fs) := by
  obtain ⟨gs, rfl | ⟨k, rfl, hk⟩⟩ := h
  · cases r with
    | obj e rf => exact ⟨_, _, _, rfl, A.sub _ _ e⟩
  · obtain ⟨a, ha, ok⟩ := A.get hk
    cases r with
    | own e =>
      rw [ha] at e
      cases e
      obtain ⟨ga, dx, fs, hv, rf⟩ := ok
      exact ⟨_, _, _, rfl, hv⟩
end
end Dl
set_option Elab.async false
set_option linter.all false
set_option maxRecDepth 100000
/-! the top's run in pieces, the state behind each told -/
namespace Dl
open PySem PySem.W PySem.Calls PyProof.Rows HandSHeadRun
section
variable (st : SharedT → Thread → Option (SharedT × Thread)) (n0 : Nat) (ann : Option Value)
/-- so many steps, none of them the last one -/
def stepsF : Nat → SharedT → Thread → Option (SharedT × Thread)
  | 0, s, t => some (s, t)
  | m + 1, s, t => match through t with
    | true => none
    | false => match stepOk n0 ann t with
      | false => none
      | true => match st s t with
        | none => none
        | some (s2, t2) => frS s2 fun s2 => stepsF m s2 t2
/-- to the end of a piece of the text -/
def pieceF (b : Nat) : Nat → SharedT → Thread → Option (Flow × SharedT × Code × Pos)
  | 0, _, _ => none
  | m + 1, s, t => match endAt b t with
    | some f => some (f, s, t.code, t.pos)
    | none => match stepOk n0 ann t with
      | false => none
      | true => match st s t with
        | none => none
        | some (s2, t2) => frS s2 fun s2 => pieceF b m s2 t2
end
section
variable {tb : String → Option Builtin} {p : Program} {w : World} {n0 : Nat} {ann : Option Value}
theorem stepsF_ok : ∀ {m : Nat} {s s' : SharedT} {t t' : Thread}, stepsF (stepT (denote tb) p w) n0 ann m s t = some (s', t') → topGo tb p w n0 ann m s.abs t = some (s'.abs, t')
  | 0, _, _, _, _, h => by cases h; rfl
  | m + 1, s, s', t, t', h => by
    unfold stepsF at h
    unfold topGo
    cases e1 : through t with
    | true => rw [e1] at h; cases h
    | false =>
      cases e2 : stepOk n0 ann t with
      | false => rw [e1, e2] at h; cases h
      | true =>
        cases e3 : stepT (denote tb) p w s t with
        | none => rw [e1, e2, e3] at h; cases h
        | some r =>
          rw [e1, e2, e3] at h
          have h2 : (frS r.1 fun s2 => stepsF (stepT (denote tb) p w) n0 ann m s2 r.2) = some (s', t') := h
          rw [frS_eq] at h2
          have e4 := stepT_spec (s' := r.1) (t' := r.2) e3
          simp only [e4]
          exact stepsF_ok h2
theorem pieceF_ok {b : Nat} : ∀ {m : Nat} {s s' : SharedT} {t : Thread} {f : Flow} {c : Code} {q : Pos}, pieceF (stepT (denote tb) p w) n0 ann b m s t = some (f, s', c, q) → segRun tb p w n0 ann b m s.abs t = some (f, s'.abs, c, q)
  | 0, _, _, _, _, _, _, h => by cases h
  | m + 1, s, s', t, f, c, q, h => by
    unfold pieceF at h
    unfold segRun
    cases e1 : endAt b t with
    | some g => rw [e1] at h; cases h; rfl
    | none =>
      cases e2 : stepOk n0 ann t with
      | false => rw [e1, e2] at h; cases h
      | true =>
        cases e3 : stepT (denote tb) p w s t with
        | none => rw [e1, e2, e3] at h; cases h
        | some r =>
          rw [e1, e2, e3] at h
          have h2 : (frS r.1 fun s2 => pieceF (stepT (denote tb) p w) n0 ann b m s2 r.2) = some (f, s', c, q) := h
          rw [frS_eq] at h2
          have e4 := stepT_spec (s' := r.1) (t' := r.2) e3
          simp only [e4]
          exact pieceF_ok h2
end
/-- the step, by the library's twins -/
noncomputable abbrev stQ (p : Program) (w : World) : SharedT → Thread → Option (SharedT × Thread) := stepQ (denQ tabQ) p w
theorem stQ_eq (p : Program) (w : World) : stepT (denote treeTable) p w = stQ p w := by
  unfold stQ
  rw [stepQ_eq, denQ_eq, tabQ_eq]
abbrev cdOf (p : Program) (env : Env) : Code := .body (behindTheImports p) env
section
variable {p : Program} {w : World} {n0 : Nat} {ann : Option Value} {env : Env} {qp pos pos' : Pos} {S S' r : SharedT}
theorem cp_piece {a b m N : Nat} (h : pieceF (stQ p w) n0 ann 1 m S (piecesOf (((behindTheImports p).drop a).take b) env (cdOf p env) pos [topFrame qp]) = some (.next, S', cdOf p env, pos'))
    (k : topRun treeTable p w n0 ann N S'.abs (restOf ((behindTheImports p).drop (a + b)) env (cdOf p env) pos' [topFrame qp]) = some r.abs) :
    topRun treeTable p w n0 ann (m + N) S.abs (restOf ((behindTheImports p).drop a) env (cdOf p env) pos [topFrame qp]) = some r.abs := by
  rw [← stQ_eq] at h
  have z := piece_app (pieceF_ok h) (rest := (behindTheImports p).drop (a + b)) k
  rw [← List.drop_drop, List.take_append_drop] at z
  exact z
theorem cp_last {a m : Nat} (e : (behindTheImports p).drop a = []) (h : goF (stQ p w) n0 ann m S ⟨doneF .next, cdOf p env, pos, [topFrame qp]⟩ = some r) :
    topRun treeTable p w n0 ann m S.abs (restOf ((behindTheImports p).drop a) env (cdOf p env) pos [topFrame qp]) = some r.abs := by
  rw [← stQ_eq] at h
  rw [e]
  exact piece_nil (goF_ok h)
theorem cp_block {m N : Nat} (h : pieceF (stQ p w) n0 ann 1 m S (blockOf (behindTheImports p) env (cdOf p env) pos [topFrame qp]) = some (.next, S', cdOf p env, pos'))
    (k : topRun treeTable p w n0 ann N S'.abs (restOf ((behindTheImports p).drop 0) env (cdOf p env) pos' [topFrame qp]) = some r.abs) :
    topRun treeTable p w n0 ann (m + N) S.abs ⟨denote treeTable (cdOf p env), cdOf p env, pos, [topFrame qp]⟩ = some r.abs := by
  rw [← stQ_eq] at h
  exact piece_block (pieceF_ok h) k
theorem cp_pre {m N : Nat} {t : Thread} (h : stepsF (stQ p w) n0 ann m S t = some (S', ⟨denQ tabQ (cdOf p env), cdOf p env, pos, [topFrame qp]⟩))
    (k : topRun treeTable p w n0 ann N S'.abs ⟨denote treeTable (cdOf p env), cdOf p env, pos, [topFrame qp]⟩ = some r.abs) : topRun treeTable p w n0 ann (m + N) S.abs t = some r.abs := by
  rw [← stQ_eq] at h
  have e : denQ tabQ (cdOf p env) = denote treeTable (cdOf p env) := by rw [denQ_eq, tabQ_eq]
  rw [e] at h
  exact go_top (stepsF_ok h) k
end
/-- the top, told by its end -/
structure TopEnd (r : OpenRow) (q : Program) (loose : List PySem.Str) (H : Hook) (ob : SharedT → H.α) (M : Nat) (w : World) (os : OsState) (s : SharedT) : Prop where
  run : topRun treeTable r.prog w (boot_heap w.params).objs.size (bootAnn w) M ⟨boot_heap w.params, #[], boot_drawn, boot_toks, os⟩ (topStub r.prog) = some s.abs
  l1 : looksF r.prog (boot_heap w.params) s.abs = true
  l2 : seenQ q loose (importedModules r.prog.main.body) (fun s => xlAt q [] s && recOk r.toRowW.records s) s.abs = openGood q loose
  l3 : ob s = H.val w
theorem cp_boot {p : Program} {w : World} {os : OsState} {T : BT} {n N : Nat} {r : SharedT} (e : putAll (boot_heap w.params).objs.toList .nil 0 = some (T, n))
    (k : topRun treeTable p w n (bootAnn w) N (bootT w os (T, n)).abs (topStub p) = some r.abs) :
    topRun treeTable p w (boot_heap w.params).objs.size (bootAnn w) N ⟨boot_heap w.params, #[], boot_drawn, boot_toks, os⟩ (topStub p) = some r.abs := by
  have eh := putAll_heap e
  have en : n = (boot_heap w.params).objs.size := by
    rw [← eh]
    exact (absHeap_size T n _).symm
  subst en
  have eb : (bootT w os (T, (boot_heap w.params).objs.size)).abs = ⟨boot_heap w.params, #[], boot_drawn, boot_toks, os⟩ := by
    unfold bootT SharedT.abs
    rw [eh]
  rw [eb] at k
  exact k
theorem cp_mono {p : Program} {w : World} {n0 : Nat} {ann : Option Value} {N M : Nat} {s r : Shared} {t : Thread} (le : Nat.ble N M = true) (k : topRun treeTable p w n0 ann N s t = some r) : topRun treeTable p w n0 ann M s t = some r := by
  have z := topRun_mono (M - N) N s t r k
  have := Nat.le_of_ble_eq_true le
  rw [Nat.add_sub_cancel' this] at z
  exact z
theorem left_cp {p q : Program} {loose : List PySem.Str} {Xt : Shared → Bool} {α : Type} {Yf : Shared → α} {Ya : World → α} {N M : Nat}
    (e : opening p = plainProg p.main.scope.names) (hN : Nat.ble 600 N = true) (f : ∀ s, fenceModules? p s = some s) (le : Nat.ble M N = true)
    (run : ∀ (w : World) (os : OsState), ∃ s : SharedT, topRun treeTable p w (boot_heap w.params).objs.size (bootAnn w) M ⟨boot_heap w.params, #[], boot_drawn, boot_toks, os⟩ (topStub p) = some s.abs ∧ looksF p (boot_heap w.params) s.abs = true ∧ openSeen q loose (importedModules p.main.body) Xt true s.abs = openGood q loose ∧ Yf s.abs = Ya w) : LeftO p q loose Xt Yf Ya N true := by
  intro w
  obtain ⟨⟨h, gs, d, k, os⟩, a, a'⟩ := Option.map_eq_some_iff.mp (boot_open e hN f w)
  have a4 : h = boot_heap w.params ∧ gs = Array.mk [] ∧ d = boot_drawn ∧ k = boot_toks := by simpa using a'
  obtain ⟨rfl, rfl, rfl, rfl⟩ := a4
  obtain ⟨s, r, z1, z2, z3⟩ := run w os
  have r2 := cp_mono le r
  have top : topFrom treeTable p w N ⟨boot_heap w.params, Array.mk [], boot_drawn, boot_toks, os⟩ = some s.abs := by
    unfold topFrom
    dsimp only
    rw [boot_ns]
    have r3 : topRun treeTable p w (boot_heap w.params).objs.size ((boot_heap w.params).nsMap mainGlobals "__annotations__") N ⟨boot_heap w.params, Array.mk [], boot_drawn, boot_toks, os⟩ (topStub p) = some s.abs := r2
    have z4 : (staticsOk (importedModules p.main.body) (boot_heap w.params) s.abs.heap && namesBound p s.abs.heap && gensDone s.abs && laidKept (boot_heap w.params) s.abs.heap) = true := z1
    have r4 : ∀ k : Shared → Option Shared, (topRun treeTable p w (boot_heap w.params).objs.size ((boot_heap w.params).nsMap mainGlobals "__annotations__") N ⟨boot_heap w.params, Array.mk [], boot_drawn, boot_toks, os⟩ (topStub p)).bind k = k s.abs := fun k => by rw [r3]; rfl
    refine (r4 _).trans ?_
    rw [z4]
  unfold openEnds
  rw [a]
  show (topFrom treeTable p w N _).map _ = _
  rw [top]
  exact congrArg some (Prod.ext z2 z3)
theorem head_cp {r : OpenRow} {q : Program} {H : Hook} {ob : SharedT → H.α} {M : Nat} {loose : List PySem.Str} {d : DefRec} {kwd : List (PySem.Str × PySem.Expr)} (ho : ∀ s : SharedT, ob s = H.obs s.abs)
    (e : opening r.prog = plainProg r.prog.main.scope.names) (f : ∀ s, fenceModules? r.prog s = some s) (run : ∀ w os, ∃ s, TopEnd r q loose H ob M w os s)
    (hdef : defOf q r.name = some (d, kwd)) (hp : r.prog.theDef r.name = some (d.params, d.body, d.scope)) (hk : kwWritten? d.params.kwonlyargs d.params.kw_defaults = some kwd)
    (hwr : (!r.writes || r.records.isEmpty) = true) (k1 : r.wellSaid = true) (ok : (chainsOk q && opensWell r.prog && (frees r.toRowW && r.within.isEmpty)) = true) (hb : r.prog.bare) (hw : r.toRowW.promised)
    (call : WalkO q loose (XL q []) H.says r.toRowW d kwd fun f vs => PySem.call f vs) : r.Holds := by
  have left : LeftO r.prog q loose (fun s => xlAt q [] s && recOk r.toRowW.records s) H.obs H.val (M + 600) true := by
    refine left_cp (M := M) e (Nat.ble_eq_true_of_le (by omega)) f (Nat.ble_eq_true_of_le (by omega)) fun w os => ?_
    obtain ⟨s, z⟩ := run w os
    refine ⟨s, z.run, z.l1, ?_, (ho s).symm.trans z.l3⟩
    rw [seenQ_eq]
    exact z.l2
  exact holds_open (r := r) (q := q) (loose := loose) (XP := XL q []) (YP := H.says) (d := d) (kwd := kwd) left H.of H.keeps (fun s z => xl_of s (Bool.and_eq_true_iff.mp z).1) XL.keeps hdef hp hk (fun s z => recFacts_of (Bool.and_eq_true_iff.mp z).2) hwr k1 ok hb hw call
end Dl
namespace Dl
open PySem PySem.W L2
/-! words for the states -/
abbrev vi (i : Int) (t : Nat) : Value := .int i t
abbrev vs (x : String) (t : Nat) : Value := .str (Str.ofString x) t
abbrev vr (a : Nat) : Value := .ref a
abbrev vt (x : String) : Value := .type x
abbrev vb (x : String) : Value := .builtin x
abbrev vn : Value := .none
abbrev ob_tu (l : List Value) : Obj := ⟨.type "tuple", none, .seq l.toArray 0, #[]⟩
abbrev ob_co (l : List Value) : Obj := ⟨.type "code", none, .fields l.toArray, #[]⟩
abbrev ob_fi (c : Value) (l : List Value) : Obj := ⟨c, none, .fields l.toArray, #[]⟩
abbrev en (P : Params) (x : String) (t : Nat) (v : Value) : DictEntry := ⟨PyData.keyHash P (Str.ofString x), .str (Str.ofString x) t, v⟩
abbrev ob_di (l : List DictEntry) (n : Nat) : Obj := ⟨.type "dict", none, .dict l.toArray n, #[]⟩
abbrev ob_fu (c : Value) (s : Stmt) (x q : String) (g : Addr) (df kd dc md : Value) (an : Option Addr) (cd ct : Value) : Obj :=
  ⟨c, none, .func { name := Str.ofString x, qualname := Str.ofString q, params := defArgs s, body := .stmts (defBody s), scope := defScope s, globals := g, closure := [], defaults := df, kwdefaults := kd, doc := dc, pyModule := md, annotations := an, code := cd, closureTuple := ct, builtins := 0 }, #[]⟩
abbrev bn (o : Obj) (l r : BT) : BT := .node o l r
abbrev bz : BT := .nil
noncomputable abbrev stA' (T : Params → BT) (n toks : Nat) (w : World) (os : OsState) : SharedT := ⟨T w.params, n, (boot_heap w.params).life, #[], boot_drawn, toks, os⟩
end Dl
set_option Elab.async false
set_option linter.all false
set_option maxRecDepth 100000
/-! l.count(x), l.index(x) over data -/
namespace L2
open PySem PySem.Spec PyProof.Rows
end L2
set_option Elab.async false
set_option linter.all false
set_option maxRecDepth 100000
namespace Dl
open PySem L2 PyProof.Rows
/-! ### looked at as it is now, however deep -/
inductive Al2 (R : D → D → Prop) : List D → List D → Prop
  | nil : Al2 R [] []
  | cons {x d : D} {xs ds : List D} : R x d → Al2 R xs ds → Al2 R (x :: xs) (d :: ds)
theorem Al2.refl {R : D → D → Prop} (h : ∀ x, R x x) : ∀ xs : List D, Al2 R xs xs
  | [] => .nil
  | x :: xs => .cons (h x) (Al2.refl h xs)
theorem Al2.app {R : D → D → Prop} : ∀ {xs ds ys es : List D}, Al2 R xs ds → Al2 R ys es → Al2 R (xs ++ ys) (ds ++ es)
  | _, _, _, _, .nil, h => h
  | _, _, _, _, .cons a b, h => .cons a (b.app h)
/-- to a depth -/
def FzN (μ : Mu) : Nat → D → D → Prop
  | 0, x, d => x = d
  | n + 1, x, d => x = d ∨ (∃ k xs ds, x = .own k ∧ d = .lst ds ∧ μ[k]? = some (.lst xs) ∧ Al2 (FzN μ n) xs ds) ∨ (∃ xs ds, x = .tup xs ∧ d = .tup ds ∧ Al2 (FzN μ n) xs ds) ∨ (∃ xs ds, x = .lst xs ∧ d = .lst ds ∧ Al2 (FzN μ n) xs ds)
theorem FzN.id {μ : Mu} : ∀ {n : Nat} (d : D), FzN μ n d d
  | 0, _ => rfl
  | _ + 1, _ => .inl rfl
theorem al2_dp {K : PySem.W.Frag} {G H : Hp} {al : List Addr} {R : D → D → Prop} (h : ∀ {v : V} {x d : D} {n : Nat}, R x d → d.shp n = true → Rp K G al v x → Dp K H v d.py) : ∀ {vs : List V} {xs ds : List D} {n : Nat}, Al2 R xs ds → shpL ds n = true → Rps K G al vs xs → DpAll K H vs (pyL ds)
  | _, _, _, _, .nil, _, .nil => by unfold pyL; exact .nil
  | _, _, _, n, .cons a b, hs, .cons r t => by
    unfold pyL; unfold shpL at hs; simp at hs
    exact .cons (h a hs.1 r) (al2_dp h b hs.2 t)
theorem FzN.dp {K : PySem.W.Frag} {G H : Hp} {al : List Addr} {μ : Mu} (A : As K G H al μ) : ∀ {q : Nat} {v : V} {x d : D} {n : Nat}, FzN μ q x d → d.shp n = true → Rp K G al v x → Dp K H v d.py
  | 0, _, _, _, _, h, hs, r => by
    cases h
    exact dp_of A.sub hs r
  | q + 1, v, x, d, n, h, hs, r => by
    rcases h with rfl | ⟨k, xs, ds, rfl, rfl, hk, hl⟩ | ⟨xs, ds, rfl, rfl, hl⟩ | ⟨xs, ds, rfl, rfl, hl⟩
    · exact dp_of A.sub hs r
    · obtain ⟨a, ha, ga, ws, hv, rw'⟩ := A.get hk
      cases r with
      | own e =>
        rw [ha] at e; cases e
        unfold D.py; unfold D.shp at hs; simp at hs
        exact .lst (.inl (.inl hv)) (al2_dp (fun a b c => FzN.dp A a b c) hl hs.2 rw')
    · cases r with
      | tup e r =>
        unfold D.py; unfold D.shp at hs; simp at hs
        exact .tup (.inl (.inl (A.sub _ _ e))) (al2_dp (fun a b c => FzN.dp A a b c) hl hs.2 r)
    · cases r with
      | lst e r =>
        unfold D.py; unfold D.shp at hs; simp at hs
        exact .lst (.inl (.inl (A.sub _ _ e))) (al2_dp (fun a b c => FzN.dp A a b c) hl hs.2 r)
end Dl
set_option Elab.async false
set_option linter.all false
set_option maxRecDepth 100000
namespace L2
open PySem
end L2
namespace Dl
open PySem L2 PyProof.Rows
theorem strOk_iff {s : Str} : PyData.strOk s = true ↔ ∀ c ∈ s.cps.toList, c < 1114112 := by
  unfold PyData.strOk
  rw [Array.all_eq_true']
  simp
end Dl
set_option Elab.async false
set_option linter.all false
set_option maxRecDepth 100000
/-! dicts with tuple keys -/
namespace Dl
open PySem PySem.Spec PyProof.Rows L2
/-! ### .. over data -/
/-! ### a dict with tuple keys stands locked while it is walked -/
section
variable {K : PySem.W.Frag} {G G' : Hp} {al al' : List Addr} {a : Addr}
def Un (G G' : Hp) (a : Addr) : Prop := (∃ o kvs, G a = some (.frz o (.dT kvs))) ∧ ∀ b, b ≠ a → G' b = G b
theorem Un.plain (s : Un G G' a) {b : Addr} {o : HO} (h : G b = some o) (n : ∀ o' kvs, o ≠ .frz o' (.dT kvs)) : G' b = some o := by
  obtain ⟨⟨o1, kvs, e⟩, u⟩ := s
  rw [u b fun z => by rw [z, e] at h; cases h; exact n _ _ rfl]
  exact h
theorem Un.rd (s : Un G G' a) {b : Addr} {kvs : List (Key × V)} (h : Rd G b (.dK kvs)) : Rd G' b (.dK kvs) := by
  rcases h with h | ⟨o, h⟩
  · exact .inl (s.plain h fun _ _ => nofun)
  · exact .inr ⟨o, s.plain h fun _ _ => nofun⟩
end
end Dl
/-! d.get(None), d.pop(k), dict(d): dicts with tuple keys -/
/-! dicts with tuple keys, as data -/
namespace Dl
open PySem L2
section
variable {K : PySem.W.Frag} {G H : Hp} {al : List Addr}
theorem Rps.app {us vs : List V} {ds es : List D} (h : Rps K G al us ds) (h' : Rps K G al vs es) : Rps K G al (us ++ vs) (ds ++ es) := by
  induction ds generalizing us with
  | nil => cases h; exact h'
  | cons d ds ih => cases h with | cons r t => exact .cons r (ih t)
end
end Dl
/-! zip of two lists or two tuples; isinstance(x, (list, tuple)) -/
set_option Elab.async false
set_option linter.all false
set_option maxRecDepth 100000
/-! a tuple of texts that stands in a module -/
set_option Elab.async false
set_option linter.all false
set_option maxRecDepth 100000
/-! dicts with tuple keys: their keys walked -/
namespace Dl
open PySem PySem.Spec PyProof.Rows L2
theorem Al2.len {R : D → D → Prop} : ∀ {xs ds : List D}, Al2 R xs ds → xs.length = ds.length
  | _, _, .nil => rfl
  | _, _, .cons _ t => by simp [t.len]
theorem Al2.get {R : D → D → Prop} : ∀ {xs ds : List D}, Al2 R xs ds → ∀ {i : Nat} {x : D}, xs[i]? = some x → ∃ d, ds[i]? = some d ∧ R x d
  | _, _, .cons a t, 0, x, h => by cases h; exact ⟨_, rfl, a⟩
  | _, _, .cons a t, i + 1, x, h => t.get (by simpa using h)
end Dl
set_option Elab.async false
set_option linter.all false
set_option maxRecDepth 100000
/-! sorted(..) of data -/
namespace L2
open PySem PySem.Spec PyProof.Rows PySem.Calls
end L2
set_option Elab.async false
set_option linter.all false
set_option maxRecDepth 100000
/-! a method called with its two arguments by name, the other way about, in a try's body -/
set_option Elab.async false
set_option linter.all false
set_option maxRecDepth 100000
/-! try: .. with except clauses that keep no name -/
namespace L2
open PySem PySem.Spec PyProof.Rows
inductive HdsM (X : Cx) : List ExceptHandler → List (Value × TS) → Prop
  | nil : HdsM X [] []
  | cons {x : Str} {c : Value} {ts : TS} {b₀ : Stmt} {suite : List Stmt} {np pos' : Pos} {hds : List ExceptHandler} {l : List (Value × TS)} (hc : Names X x c)
      (hsu : ∀ (a : Addr) (pn : List (Addr × Obj)), PSs (X.suite a pn) (b₀ :: suite) ts) (r : HdsM X hds l) :
      HdsM X (.ExceptHandler (some (.Name x np)) none (b₀ :: suite) pos' :: hds) ((c, ts) :: l)
def many3 (l : List (Value × TS)) : List (Value × (Addr → Value → Option Addr → TS)) := l.map fun p => (p.1, fun _ _ _ => p.2)
theorem HdsM.ok {X : Cx} : ∀ {hds : List ExceptHandler} {l : List (Value × TS)}, HdsM X hds l → HdsOk X hds (many3 l)
  | _, _, .nil => .nil
  | _, _, .cons hc hsu r => .cons hc (fun a oe cls d pn _ _ => hsu a ((a, oe) :: pn)) r.ok
end L2
set_option Elab.async false
set_option linter.all false
set_option maxRecDepth 100000
/-! xs.insert(i, y) -/
set_option Elab.async false
set_option linter.all false
set_option maxRecDepth 100000
/-! dicts with tuple keys: sorted(d), d.pop(k) -/
namespace L2
open PySem PySem.Spec PyProof.Rows PySem.Calls
end L2
namespace L2.DX
open PySem PySem.Spec PyProof.Rows L2
end L2.DX
set_option Elab.async false
set_option linter.all false
set_option maxRecDepth 100000
/-! for k in reversed(range(n)) -/
set_option Elab.async false
set_option linter.all false
set_option maxRecDepth 100000
/-! texts: split, int(text), str of both, steps of two -/
namespace L2
open PySem
def rStrA : List V → Hp → VK → Prop := fun xs H Q => (∃ i : Int, xs = [.int i] ∧ i.natAbs.log2 < 1920 ∧ Q (.str (toString i)) H) ∨ ∃ a, xs = [.str a] ∧ Q (.str a) H
theorem call_strA {X : Cx} : CallR X (.type "str") rStrA := call_str_int.or SkE.call_str_str
end L2
namespace Dl
open PySem L2 PyProof.Rows
section
variable {K : PySem.W.Frag} {B : Bs} {ρ : En} {μ : Mu} {P : D → Mu → Prop}
theorem rc_strAI {i : Int} (hi : i.natAbs.log2 < 1920) (h : P (.str (toString i)) μ) : RC K rStrA [.int i] μ P := fun G H al vs A r Q hQ => by
  obtain ⟨w, rfl, r1⟩ := rps1 r
  cases r1
  exact .inl ⟨i, rfl, hi, hQ.now A (.str _) h⟩
theorem rc_strAS {a : Str} (h : P (.str a) μ) : RC K rStrA [.str a] μ P := fun G H al vs A r Q hQ => by
  obtain ⟨w, rfl, r1⟩ := rps1 r
  cases r1
  exact .inr ⟨a, rfl, hQ.now A (.str _) h⟩
end
end Dl
set_option Elab.async false
set_option linter.all false
set_option maxRecDepth 100000
/-! [G a for a in xs] told by what the data are of -/
namespace Dl
open PySem L2 PyProof.Rows
section
variable {K : PySem.W.Frag} {B : Bs} {ρ : En} {μ : Mu} {te : TE} {wi : TI} {g : TG} {vs : List Nat} {P : D → Mu → Prop}
theorem lc_each {α : Type} (xs : List α) (F G : α → D) (hg : GW g vs) (h : DI K B wi ρ μ fun ds S μ1 => S μ1 ∧ ds = xs.map F ∧ xs.length ≤ 100000 ∧ (∀ (i : Nat) (a : α), xs[i]? = some a → DG K B g (F a) (wipeD ρ vs) μ1 fun ρ2 μ2 => μ2 = μ1 ∧ DE K B te ρ2 μ1 fun y μ3 => y = G a ∧ μ3 = μ1) ∧ Fresh (xs.map G) μ1 P) : DE K B (tLc wi g tYes te vs) ρ μ P := by
  refine de_lcF hg fun σ G1 H al hB hσ hA R hR => h σ G1 H al hB hσ hA R fun J ds S μ1 G1 H1 al1 n1 A1 ok p => hR J ds S μ1 G1 H1 al1 n1 A1 ok ?_
  obtain ⟨hS, rfl, hl, hs, hp⟩ := p
  refine ⟨by rw [List.length_map]; exact hl, fun i acc μ' => acc = (xs.take i).map G ∧ μ' = μ1, ⟨by simp, rfl⟩, fun i acc μ' _ h => by rw [h.2]; exact hS, fun i d acc μ' hd h => ?_, fun acc μ' h => ?_⟩
  · obtain ⟨rfl, rfl⟩ := h
    rw [List.getElem?_map] at hd
    obtain ⟨a, ha, rfl⟩ := Option.map_eq_some_iff.mp hd
    refine fun σ G H al v hB hσ hA rv Q hQ => hs i a ha σ G H al v hB hσ hA rv Q fun σ2 ρ2 μ2 G2 H2 al2 n2 hσ2 A2 p2 => hQ σ2 ρ2 μ2 G2 H2 al2 n2 hσ2 A2 ?_
    obtain ⟨rfl, p2⟩ := p2
    refine dt_yes ⟨fun _ => p2.imp fun y μ3 ⟨e1, e2⟩ => ⟨?_, e2⟩, fun z => by cases z⟩
    rw [e1, List.take_add_one, ha]
    simp
  · obtain ⟨rfl, rfl⟩ := h
    rw [List.length_map, List.take_length]
    exact hp
end
end Dl
set_option Elab.async false
set_option linter.all false
set_option maxRecDepth 100000
namespace Dl
open PySem L2 PyProof.Rows
def topS (i : Nat) : Stmt := PySem.Challenge.pw_readround_k75_house_texts.main.body.getD i (.Pass ⟨0, 0, 0, 0⟩)
abbrev R : PySem.W.OpenRow := PySem.W.OpenLaw.row PySem.Challenge.rw_readround_k75_house_texts
noncomputable section
open PySem.W PySem.Calls HandSHeadRun
noncomputable def env0 : Env := { scope := R.prog.main.scope, locals := mainNs, globals := mainNs, cells := [], code := (vr 13), frame := some 14 }
def o11 : Obj := ob_tu []
def o12 : Obj := ob_fi vn []
def o13 : Obj := ob_co [(vs "<module>" 182), (vs "<module>" 183), (vs "/claim/cut.py" 184), (vi 1 0), (vi 0 0), (vi 0 0), (vi 0 0), (vi 0 0), (vr 11), (.bool false), (vi 181 0), (vr 12), vn, vn, vn, vn, (vi 185 0), (vi 1 0), (vs "/claim/cut.py" 186)]
def o14 : Obj := ⟨(vt "frame"), none, .plain, #[some (vr 13), some (vr 3), some (vr 3), none, some (vs "__main__" 164), none, some (vr 0)]⟩
def o3 (P : Params) : Obj := ob_di [en P "__name__" 165 (vs "readround.errors" 194), en P "__doc__" 166 vn, en P "__package__" 167 vn, en P "__loader__" 168 (vb "__main__.__loader__#opaque"), en P "__spec__" 169 vn, en P "__annotations__" 170 (vr 6), en P "__builtins__" 171 (vr 4), en P "__file__" 173 (vs "/claim/cut.py" 172), en P "__cached__" 174 vn, en P "_wall" 193 (vr 21), en P "ReadError" 213 (vr 31), en P "BadCalendar" 229 (vr 44), en P "BadFeast" 245 (vr 56), en P "BadRow" 261 (vr 68), en P "BadHouse" 277 (vr 80), en P "NoDay" 293 (vr 92), en P "NoRow" 309 (vr 104)] 17
def o12_1 : Obj := ob_fi vn [(vi 1 0), (vi 0 0), (vr 20), (vi 5 0), (vi 0 0), (vr 27), (vi 7 0), (vi 0 0), (vr 40), (vi 9 0), (vi 0 0), (vr 52), (vi 11 0), (vi 0 0), (vr 64), (vi 13 0), (vi 0 0), (vr 76), (vi 15 0), (vi 0 0), (vr 88), (vi 17 0), (vi 0 0), (vr 100)]
def o15 : Obj := ob_tu []
def o16 : Obj := ob_fi vn []
def o17 : Obj := ob_tu [(vs "k" 190)]
def o18 : Obj := ob_tu []
def o19 : Obj := ob_fu vn (topS 0) "_wall" "_wall" 0 vn vn vn vn none vn vn
def o20 : Obj := ob_co [(vs "_wall" 187), (vs "_wall" 188), (vs "/claim/cut.py" 189), (vi 1 0), (vi 1 0), (vi 0 0), (vi 0 0), (vi 3 0), (vr 15), (.bool true), (vi 181 0), (vr 16), vn, (vr 17), (vr 18), (vr 19), (vi 191 0), (vi 1 0), (vs "/claim/cut.py" 192)]
def o21 : Obj := ob_fu (vt "function") (topS 0) "_wall" "_wall" 3 vn vn vn (vs "__main__" 164) none (vr 20) vn
def o22 : Obj := ob_tu [(vt "ValueError")]
def o23 : Obj := ob_fi (vt "builtin_function_or_method") [(vb "type.__prepare__"), (vt "type")]
def o24 (P : Params) : Obj := ob_di [en P "__module__" 203 (vs "readround.errors" 194), en P "__qualname__" 205 (vs "ReadError" 204), en P "__firstlineno__" 207 (vi 5 206), en P "__static_attributes__" 208 (vr 29)] 4
def o25 : Obj := ob_tu []
def o26 : Obj := ob_fi vn []
def o27 : Obj := ob_co [(vs "ReadError" 198), (vs "ReadError" 199), (vs "/claim/cut.py" 200), (vi 5 0), (vi 0 0), (vi 0 0), (vi 0 0), (vi 0 0), (vr 25), (.bool false), (vi 181 0), (vr 26), vn, vn, vn, vn, (vi 201 0), (vi 5 0), (vs "/claim/cut.py" 202)]
def o28 : Obj := ⟨(vt "frame"), none, .plain, #[some (vr 27), some (vr 3), some (vr 24), none, some (vs "readround.errors" 194), none, some (vr 0)]⟩
def o29 : Obj := ob_tu []
def o30 (P : Params) : Obj := ob_di [en P "__module__" 203 (vs "readround.errors" 194), en P "__firstlineno__" 207 (vi 5 206), en P "__static_attributes__" 208 (vr 29), en P "__weakref__" 210 (vr 32), en P "__doc__" 211 vn] 3
def o31 : Obj := ⟨(vt "type"), none, .cls (ClassData.mk (Str.ofString "ReadError") [(vt "ValueError")] [(vr 31), (vt "ValueError"), (vt "Exception"), (vt "BaseException"), (vt "object")] 30 (Str.ofString "ReadError") true [] [(vr 44), (vr 56), (vr 68), (vr 80), (vr 92), (vr 104)] false none false), #[some (vr 22), none, some (vs "ReadError" 196), some (vs "ReadError" 204), some (vb "ValueError.__new__"), some (.bool true)]⟩
def o32 : Obj := ob_fi (vt "getset_descriptor") [(vs "__weakref__" 209), (vr 31), (vb "ExceptionGroup.__weakref__"), vn]
def o33 : Obj := ob_fi (vt "super") [(vr 31), (vr 31), (vr 31)]
def o34 : Obj := ob_fi (vt "builtin_function_or_method") [(vb "object.__init_subclass__"), (vr 31)]
def o35 : Obj := ob_tu [(vr 31)]
def o36 : Obj := ob_fi (vt "builtin_function_or_method") [(vb "type.__prepare__"), (vt "type")]
def o37 (P : Params) : Obj := ob_di [en P "__module__" 221 (vs "readround.errors" 194), en P "__qualname__" 223 (vs "BadCalendar" 222), en P "__firstlineno__" 225 (vi 7 224), en P "__static_attributes__" 226 (vr 42)] 4
def o38 : Obj := ob_tu []
def o39 : Obj := ob_fi vn []
def o40 : Obj := ob_co [(vs "BadCalendar" 216), (vs "BadCalendar" 217), (vs "/claim/cut.py" 218), (vi 7 0), (vi 0 0), (vi 0 0), (vi 0 0), (vi 0 0), (vr 38), (.bool false), (vi 181 0), (vr 39), vn, vn, vn, vn, (vi 219 0), (vi 7 0), (vs "/claim/cut.py" 220)]
def o41 : Obj := ⟨(vt "frame"), none, .plain, #[some (vr 40), some (vr 3), some (vr 37), none, some (vs "readround.errors" 194), none, some (vr 0)]⟩
def o42 : Obj := ob_tu []
def o43 (P : Params) : Obj := ob_di [en P "__module__" 221 (vs "readround.errors" 194), en P "__firstlineno__" 225 (vi 7 224), en P "__static_attributes__" 226 (vr 42), en P "__doc__" 227 vn] 2
def o44 : Obj := ⟨(vt "type"), none, .cls (ClassData.mk (Str.ofString "BadCalendar") [(vr 31)] [(vr 44), (vr 31), (vt "ValueError"), (vt "Exception"), (vt "BaseException"), (vt "object")] 43 (Str.ofString "BadCalendar") true [] [] false none false), #[some (vr 35), none, some (vs "BadCalendar" 214), some (vs "BadCalendar" 222), some (vb "ValueError.__new__"), some (.bool true)]⟩
def o45 : Obj := ob_fi (vt "super") [(vr 44), (vr 44), (vr 44)]
def o46 : Obj := ob_fi (vt "builtin_function_or_method") [(vb "object.__init_subclass__"), (vr 44)]
def o47 : Obj := ob_tu [(vr 31)]
def o48 : Obj := ob_fi (vt "builtin_function_or_method") [(vb "type.__prepare__"), (vt "type")]
def o49 (P : Params) : Obj := ob_di [en P "__module__" 237 (vs "readround.errors" 194), en P "__qualname__" 239 (vs "BadFeast" 238), en P "__firstlineno__" 241 (vi 9 240), en P "__static_attributes__" 242 (vr 54)] 4
def o50 : Obj := ob_tu []
def o51 : Obj := ob_fi vn []
def o52 : Obj := ob_co [(vs "BadFeast" 232), (vs "BadFeast" 233), (vs "/claim/cut.py" 234), (vi 9 0), (vi 0 0), (vi 0 0), (vi 0 0), (vi 0 0), (vr 50), (.bool false), (vi 181 0), (vr 51), vn, vn, vn, vn, (vi 235 0), (vi 9 0), (vs "/claim/cut.py" 236)]
def o53 : Obj := ⟨(vt "frame"), none, .plain, #[some (vr 52), some (vr 3), some (vr 49), none, some (vs "readround.errors" 194), none, some (vr 0)]⟩
def o54 : Obj := ob_tu []
def o55 (P : Params) : Obj := ob_di [en P "__module__" 237 (vs "readround.errors" 194), en P "__firstlineno__" 241 (vi 9 240), en P "__static_attributes__" 242 (vr 54), en P "__doc__" 243 vn] 2
def o56 : Obj := ⟨(vt "type"), none, .cls (ClassData.mk (Str.ofString "BadFeast") [(vr 31)] [(vr 56), (vr 31), (vt "ValueError"), (vt "Exception"), (vt "BaseException"), (vt "object")] 55 (Str.ofString "BadFeast") true [] [] false none false), #[some (vr 47), none, some (vs "BadFeast" 230), some (vs "BadFeast" 238), some (vb "ValueError.__new__"), some (.bool true)]⟩
def o57 : Obj := ob_fi (vt "super") [(vr 56), (vr 56), (vr 56)]
def o58 : Obj := ob_fi (vt "builtin_function_or_method") [(vb "object.__init_subclass__"), (vr 56)]
def o59 : Obj := ob_tu [(vr 31)]
def o60 : Obj := ob_fi (vt "builtin_function_or_method") [(vb "type.__prepare__"), (vt "type")]
def o61 (P : Params) : Obj := ob_di [en P "__module__" 253 (vs "readround.errors" 194), en P "__qualname__" 255 (vs "BadRow" 254), en P "__firstlineno__" 257 (vi 11 256), en P "__static_attributes__" 258 (vr 66)] 4
def o62 : Obj := ob_tu []
def o63 : Obj := ob_fi vn []
def o64 : Obj := ob_co [(vs "BadRow" 248), (vs "BadRow" 249), (vs "/claim/cut.py" 250), (vi 11 0), (vi 0 0), (vi 0 0), (vi 0 0), (vi 0 0), (vr 62), (.bool false), (vi 181 0), (vr 63), vn, vn, vn, vn, (vi 251 0), (vi 11 0), (vs "/claim/cut.py" 252)]
def o65 : Obj := ⟨(vt "frame"), none, .plain, #[some (vr 64), some (vr 3), some (vr 61), none, some (vs "readround.errors" 194), none, some (vr 0)]⟩
def o66 : Obj := ob_tu []
def o67 (P : Params) : Obj := ob_di [en P "__module__" 253 (vs "readround.errors" 194), en P "__firstlineno__" 257 (vi 11 256), en P "__static_attributes__" 258 (vr 66), en P "__doc__" 259 vn] 2
def o68 : Obj := ⟨(vt "type"), none, .cls (ClassData.mk (Str.ofString "BadRow") [(vr 31)] [(vr 68), (vr 31), (vt "ValueError"), (vt "Exception"), (vt "BaseException"), (vt "object")] 67 (Str.ofString "BadRow") true [] [] false none false), #[some (vr 59), none, some (vs "BadRow" 246), some (vs "BadRow" 254), some (vb "ValueError.__new__"), some (.bool true)]⟩
def o69 : Obj := ob_fi (vt "super") [(vr 68), (vr 68), (vr 68)]
def o70 : Obj := ob_fi (vt "builtin_function_or_method") [(vb "object.__init_subclass__"), (vr 68)]
def o71 : Obj := ob_tu [(vr 31)]
def o72 : Obj := ob_fi (vt "builtin_function_or_method") [(vb "type.__prepare__"), (vt "type")]
def o73 (P : Params) : Obj := ob_di [en P "__module__" 269 (vs "readround.errors" 194), en P "__qualname__" 271 (vs "BadHouse" 270), en P "__firstlineno__" 273 (vi 13 272), en P "__static_attributes__" 274 (vr 78)] 4
def o74 : Obj := ob_tu []
def o75 : Obj := ob_fi vn []
def o76 : Obj := ob_co [(vs "BadHouse" 264), (vs "BadHouse" 265), (vs "/claim/cut.py" 266), (vi 13 0), (vi 0 0), (vi 0 0), (vi 0 0), (vi 0 0), (vr 74), (.bool false), (vi 181 0), (vr 75), vn, vn, vn, vn, (vi 267 0), (vi 13 0), (vs "/claim/cut.py" 268)]
def o77 : Obj := ⟨(vt "frame"), none, .plain, #[some (vr 76), some (vr 3), some (vr 73), none, some (vs "readround.errors" 194), none, some (vr 0)]⟩
def o78 : Obj := ob_tu []
def o79 (P : Params) : Obj := ob_di [en P "__module__" 269 (vs "readround.errors" 194), en P "__firstlineno__" 273 (vi 13 272), en P "__static_attributes__" 274 (vr 78), en P "__doc__" 275 vn] 2
def o80 : Obj := ⟨(vt "type"), none, .cls (ClassData.mk (Str.ofString "BadHouse") [(vr 31)] [(vr 80), (vr 31), (vt "ValueError"), (vt "Exception"), (vt "BaseException"), (vt "object")] 79 (Str.ofString "BadHouse") true [] [] false none false), #[some (vr 71), none, some (vs "BadHouse" 262), some (vs "BadHouse" 270), some (vb "ValueError.__new__"), some (.bool true)]⟩
def o81 : Obj := ob_fi (vt "super") [(vr 80), (vr 80), (vr 80)]
def o82 : Obj := ob_fi (vt "builtin_function_or_method") [(vb "object.__init_subclass__"), (vr 80)]
def o83 : Obj := ob_tu [(vr 31)]
def o84 : Obj := ob_fi (vt "builtin_function_or_method") [(vb "type.__prepare__"), (vt "type")]
def o85 (P : Params) : Obj := ob_di [en P "__module__" 285 (vs "readround.errors" 194), en P "__qualname__" 287 (vs "NoDay" 286), en P "__firstlineno__" 289 (vi 15 288), en P "__static_attributes__" 290 (vr 90)] 4
def o86 : Obj := ob_tu []
def o87 : Obj := ob_fi vn []
def o88 : Obj := ob_co [(vs "NoDay" 280), (vs "NoDay" 281), (vs "/claim/cut.py" 282), (vi 15 0), (vi 0 0), (vi 0 0), (vi 0 0), (vi 0 0), (vr 86), (.bool false), (vi 181 0), (vr 87), vn, vn, vn, vn, (vi 283 0), (vi 15 0), (vs "/claim/cut.py" 284)]
def o89 : Obj := ⟨(vt "frame"), none, .plain, #[some (vr 88), some (vr 3), some (vr 85), none, some (vs "readround.errors" 194), none, some (vr 0)]⟩
def o90 : Obj := ob_tu []
def o91 (P : Params) : Obj := ob_di [en P "__module__" 285 (vs "readround.errors" 194), en P "__firstlineno__" 289 (vi 15 288), en P "__static_attributes__" 290 (vr 90), en P "__doc__" 291 vn] 2
def o92 : Obj := ⟨(vt "type"), none, .cls (ClassData.mk (Str.ofString "NoDay") [(vr 31)] [(vr 92), (vr 31), (vt "ValueError"), (vt "Exception"), (vt "BaseException"), (vt "object")] 91 (Str.ofString "NoDay") true [] [] false none false), #[some (vr 83), none, some (vs "NoDay" 278), some (vs "NoDay" 286), some (vb "ValueError.__new__"), some (.bool true)]⟩
def o93 : Obj := ob_fi (vt "super") [(vr 92), (vr 92), (vr 92)]
def o94 : Obj := ob_fi (vt "builtin_function_or_method") [(vb "object.__init_subclass__"), (vr 92)]
def o95 : Obj := ob_tu [(vr 31)]
def o96 : Obj := ob_fi (vt "builtin_function_or_method") [(vb "type.__prepare__"), (vt "type")]
def o97 (P : Params) : Obj := ob_di [en P "__module__" 301 (vs "readround.errors" 194), en P "__qualname__" 303 (vs "NoRow" 302), en P "__firstlineno__" 305 (vi 17 304), en P "__static_attributes__" 306 (vr 102)] 4
def o98 : Obj := ob_tu []
def o99 : Obj := ob_fi vn []
def o100 : Obj := ob_co [(vs "NoRow" 296), (vs "NoRow" 297), (vs "/claim/cut.py" 298), (vi 17 0), (vi 0 0), (vi 0 0), (vi 0 0), (vi 0 0), (vr 98), (.bool false), (vi 181 0), (vr 99), vn, vn, vn, vn, (vi 299 0), (vi 17 0), (vs "/claim/cut.py" 300)]
def o101 : Obj := ⟨(vt "frame"), none, .plain, #[some (vr 100), some (vr 3), some (vr 97), none, some (vs "readround.errors" 194), none, some (vr 0)]⟩
def o102 : Obj := ob_tu []
def o103 (P : Params) : Obj := ob_di [en P "__module__" 301 (vs "readround.errors" 194), en P "__firstlineno__" 305 (vi 17 304), en P "__static_attributes__" 306 (vr 102), en P "__doc__" 307 vn] 2
def o104 : Obj := ⟨(vt "type"), none, .cls (ClassData.mk (Str.ofString "NoRow") [(vr 31)] [(vr 104), (vr 31), (vt "ValueError"), (vt "Exception"), (vt "BaseException"), (vt "object")] 103 (Str.ofString "NoRow") true [] [] false none false), #[some (vr 95), none, some (vs "NoRow" 294), some (vs "NoRow" 302), some (vb "ValueError.__new__"), some (.bool true)]⟩
def o105 : Obj := ob_fi (vt "super") [(vr 104), (vr 104), (vr 104)]
def o106 : Obj := ob_fi (vt "builtin_function_or_method") [(vb "object.__init_subclass__"), (vr 104)]
def o3_1 (P : Params) : Obj := ob_di [en P "__name__" 165 (vs "readround.rows" 585), en P "__doc__" 166 vn, en P "__package__" 167 vn, en P "__loader__" 168 (vb "__main__.__loader__#opaque"), en P "__spec__" 169 vn, en P "__annotations__" 170 (vr 6), en P "__builtins__" 171 (vr 4), en P "__file__" 173 (vs "/claim/cut.py" 172), en P "__cached__" 174 vn, en P "_wall" 193 (vr 21), en P "ReadError" 213 (vr 31), en P "BadCalendar" 229 (vr 44), en P "BadFeast" 245 (vr 56), en P "BadRow" 261 (vr 68), en P "BadHouse" 277 (vr 80), en P "NoDay" 293 (vr 92), en P "NoRow" 309 (vr 104), en P "NeverDone" 338 (vr 123), en P "LETTERS" 342 (vs "abcdefghijklmnopqrstuvwxyz" 341), en P "is_number" 351 (vr 132), en P "is_name" 357 (vr 137), en P "are_numbers" 363 (vr 142), en P "need_day" 372 (vr 149), en P "Calendar" 451 (vr 206), en P "good_years" 459 (vr 215), en P "is_put" 466 (vr 222), en P "good_puts" 472 (vr 227), en P "Feast" 584 (vr 301), en P "Row" 665 (vr 357)] 29
def o12_2 : Obj := ob_fi vn [(vi 1 0), (vi 0 0), (vr 20), (vi 5 0), (vi 0 0), (vr 27), (vi 7 0), (vi 0 0), (vr 40), (vi 9 0), (vi 0 0), (vr 52), (vi 11 0), (vi 0 0), (vr 64), (vi 13 0), (vi 0 0), (vr 76), (vi 15 0), (vi 0 0), (vr 88), (vi 17 0), (vi 0 0), (vr 100), (vi 19 0), (vi 0 0), (vr 112), (vi 28 0), (vi 0 0), (vr 131), (vi 30 0), (vi 0 0), (vr 136), (vi 34 0), (vi 0 0), (vr 141), (vi 39 0), (vi 0 0), (vr 148), (vi 42 0), (vi 0 0), (vr 155), (vi 78 0), (vi 0 0), (vr 214), (vi 82 0), (vi 0 0), (vr 221), (vi 84 0), (vi 0 0), (vr 226), (vi 90 0), (vi 0 0), (vr 233), (vi 136 0), (vi 0 0), (vr 311)]
def o31_1 : Obj := ⟨(vt "type"), none, .cls (ClassData.mk (Str.ofString "ReadError") [(vt "ValueError")] [(vr 31), (vt "ValueError"), (vt "Exception"), (vt "BaseException"), (vt "object")] 30 (Str.ofString "ReadError") true [] [(vr 44), (vr 56), (vr 68), (vr 80), (vr 92), (vr 104), (vr 123)] false none false), #[some (vr 22), none, some (vs "ReadError" 196), some (vs "ReadError" 204), some (vb "ValueError.__new__"), some (.bool true)]⟩
def o107 : Obj := ob_tu [(vr 31)]
def o108 : Obj := ob_fi (vt "builtin_function_or_method") [(vb "type.__prepare__"), (vt "type")]
def o109 (P : Params) : Obj := ob_di [en P "__module__" 317 (vs "readround.errors" 194), en P "__qualname__" 319 (vs "NeverDone" 318), en P "__firstlineno__" 321 (vi 19 320), en P "__init__" 331 (vr 120), en P "__static_attributes__" 335 (vr 121)] 5
def o110 : Obj := ob_tu []
def o111 : Obj := ob_fi vn [(vi 21 0), (vi 4 0), (vr 119)]
def o112 : Obj := ob_co [(vs "NeverDone" 312), (vs "NeverDone" 313), (vs "/claim/cut.py" 314), (vi 19 0), (vi 0 0), (vi 0 0), (vi 0 0), (vi 0 0), (vr 110), (.bool false), (vi 181 0), (vr 111), vn, vn, vn, vn, (vi 315 0), (vi 19 0), (vs "/claim/cut.py" 316)]
def o113 : Obj := ⟨(vt "frame"), none, .plain, #[some (vr 112), some (vr 3), some (vr 109), none, some (vs "readround.errors" 194), none, some (vr 0)]⟩
def o114 : Obj := ob_tu []
def o115 : Obj := ob_fi vn []
def o116 : Obj := ob_tu [(vs "self" 325), (vs "name" 326), (vs "due" 327), (vs "room" 328)]
def o117 : Obj := ob_tu []
def o118 : Obj := ob_fu vn (inClass (topS 9) 0) "__init__" "NeverDone.__init__" 0 vn vn vn vn none vn vn
def o119 : Obj := ob_co [(vs "__init__" 322), (vs "NeverDone.__init__" 323), (vs "/claim/cut.py" 324), (vi 21 0), (vi 4 0), (vi 0 0), (vi 0 0), (vi 3 0), (vr 114), (.bool true), (vi 181 0), (vr 115), vn, (vr 116), (vr 117), (vr 118), (vi 329 0), (vi 21 0), (vs "/claim/cut.py" 330)]
def o120 : Obj := ob_fu (vt "function") (inClass (topS 9) 0) "__init__" "NeverDone.__init__" 3 vn vn vn (vs "readround.errors" 194) none (vr 119) vn
def o121 : Obj := ob_tu [(vs "due" 332), (vs "name" 333), (vs "room" 334)]
def o122 (P : Params) : Obj := ob_di [en P "__module__" 317 (vs "readround.errors" 194), en P "__firstlineno__" 321 (vi 19 320), en P "__init__" 331 (vr 120), en P "__static_attributes__" 335 (vr 121), en P "__doc__" 336 vn] 2
def o123 : Obj := ⟨(vt "type"), none, .cls (ClassData.mk (Str.ofString "NeverDone") [(vr 31)] [(vr 123), (vr 31), (vt "ValueError"), (vt "Exception"), (vt "BaseException"), (vt "object")] 122 (Str.ofString "NeverDone") true [] [] false none false), #[some (vr 107), none, some (vs "NeverDone" 310), some (vs "NeverDone" 318), some (vb "ValueError.__new__"), some (.bool true)]⟩
def o124 : Obj := ob_fi (vt "super") [(vr 123), (vr 123), (vr 123)]
def o125 : Obj := ob_fi (vt "builtin_function_or_method") [(vb "object.__init_subclass__"), (vr 123)]
def o126 : Obj := ob_tu []
def o127 : Obj := ob_fi vn []
def o128 : Obj := ob_tu [(vs "thing" 346), (vs "least" 347), (vs "most" 348)]
def o129 : Obj := ob_tu []
def o130 : Obj := ob_fu vn (topS 12) "is_number" "is_number" 0 vn vn vn vn none vn vn
def o131 : Obj := ob_co [(vs "is_number" 343), (vs "is_number" 344), (vs "/claim/cut.py" 345), (vi 28 0), (vi 3 0), (vi 0 0), (vi 0 0), (vi 3 0), (vr 126), (.bool true), (vi 181 0), (vr 127), vn, (vr 128), (vr 129), (vr 130), (vi 349 0), (vi 28 0), (vs "/claim/cut.py" 350)]
def o132 : Obj := ob_fu (vt "function") (topS 12) "is_number" "is_number" 3 vn vn vn (vs "readround.kinds" 339) none (vr 131) vn
def o133 : Obj := ob_tu []
def o134 : Obj := ob_fi vn []
def o135 : Obj := ob_fu vn (topS 13) "is_name" "is_name" 0 vn vn vn vn none vn vn
def o136 : Obj := ob_co [(vs "is_name" 352), (vs "is_name" 353), (vs "/claim/cut.py" 354), (vi 30 0), (vi 1 0), (vi 0 0), (vi 0 0), (vi 3 0), (vr 133), (.bool true), (vi 181 0), (vr 134), vn, vn, vn, (vr 135), (vi 355 0), (vi 30 0), (vs "/claim/cut.py" 356)]
def o137 : Obj := ob_fu (vt "function") (topS 13) "is_name" "is_name" 3 vn vn vn (vs "readround.kinds" 339) none (vr 136) vn
def o138 : Obj := ob_tu []
def o139 : Obj := ob_fi vn []
def o140 : Obj := ob_fu vn (topS 14) "are_numbers" "are_numbers" 0 vn vn vn vn none vn vn
def o141 : Obj := ob_co [(vs "are_numbers" 358), (vs "are_numbers" 359), (vs "/claim/cut.py" 360), (vi 34 0), (vi 4 0), (vi 0 0), (vi 0 0), (vi 3 0), (vr 138), (.bool true), (vi 181 0), (vr 139), vn, vn, vn, (vr 140), (vi 361 0), (vi 34 0), (vs "/claim/cut.py" 362)]
def o142 : Obj := ob_fu (vt "function") (topS 14) "are_numbers" "are_numbers" 3 vn vn vn (vs "readround.kinds" 339) none (vr 141) vn
def o143 : Obj := ob_tu []
def o144 : Obj := ob_fi vn []
def o145 : Obj := ob_tu [(vs "number" 369)]
def o146 : Obj := ob_tu []
def o147 : Obj := ob_fu vn (topS 16) "need_day" "need_day" 0 vn vn vn vn none vn vn
def o148 : Obj := ob_co [(vs "need_day" 366), (vs "need_day" 367), (vs "/claim/cut.py" 368), (vi 39 0), (vi 1 0), (vi 0 0), (vi 0 0), (vi 3 0), (vr 143), (.bool true), (vi 181 0), (vr 144), vn, (vr 145), (vr 146), (vr 147), (vi 370 0), (vi 39 0), (vs "/claim/cut.py" 371)]
def o149 : Obj := ob_fu (vt "function") (topS 16) "need_day" "need_day" 3 vn vn vn (vs "readround.calendars" 364) none (vr 148) vn
def o150 : Obj := ob_tu []
def o151 : Obj := ob_fi (vt "builtin_function_or_method") [(vb "type.__prepare__"), (vt "type")]
def o152 (P : Params) : Obj := ob_di [en P "__module__" 380 (vs "readround.calendars" 364), en P "__qualname__" 382 (vs "Calendar" 381), en P "__firstlineno__" 384 (vi 42 383), en P "__init__" 393 (vr 163), en P "__eq__" 401 (vr 170), en P "years" 408 (vr 177), en P "turn" 415 (vr 184), en P "long" 423 (vr 191), en P "first" 433 (vr 198), en P "at" 439 (vr 203), en P "__static_attributes__" 443 (vr 204)] 11
def o153 : Obj := ob_tu []
def o154 : Obj := ob_fi vn [(vi 44 0), (vi 4 0), (vr 162), (vi 54 0), (vi 4 0), (vr 169), (vi 57 0), (vi 4 0), (vr 176), (vi 60 0), (vi 4 0), (vr 183), (vi 63 0), (vi 4 0), (vr 190), (vi 67 0), (vi 4 0), (vr 197), (vi 72 0), (vi 4 0), (vr 202)]
def o155 : Obj := ob_co [(vs "Calendar" 375), (vs "Calendar" 376), (vs "/claim/cut.py" 377), (vi 42 0), (vi 0 0), (vi 0 0), (vi 0 0), (vi 0 0), (vr 153), (.bool false), (vi 181 0), (vr 154), vn, vn, vn, vn, (vi 378 0), (vi 42 0), (vs "/claim/cut.py" 379)]
def o156 : Obj := ⟨(vt "frame"), none, .plain, #[some (vr 155), some (vr 3), some (vr 152), none, some (vs "readround.calendars" 364), none, some (vr 0)]⟩
def o157 : Obj := ob_tu []
def o158 : Obj := ob_fi vn []
def o159 : Obj := ob_tu [(vs "self" 388), (vs "years" 389), (vs "days" 390)]
def o160 : Obj := ob_tu []
def o161 : Obj := ob_fu vn (inClass (topS 17) 0) "__init__" "Calendar.__init__" 0 vn vn vn vn none vn vn
def o162 : Obj := ob_co [(vs "__init__" 385), (vs "Calendar.__init__" 386), (vs "/claim/cut.py" 387), (vi 44 0), (vi 2 0), (vi 0 0), (vi 0 0), (vi 3 0), (vr 157), (.bool true), (vi 181 0), (vr 158), vn, (vr 159), (vr 160), (vr 161), (vi 391 0), (vi 44 0), (vs "/claim/cut.py" 392)]
def o163 : Obj := ob_fu (vt "function") (inClass (topS 17) 0) "__init__" "Calendar.__init__" 3 vn vn vn (vs "readround.calendars" 364) none (vr 162) vn
def o164 : Obj := ob_tu []
def o165 : Obj := ob_fi vn []
def o166 : Obj := ob_tu [(vs "self" 397), (vs "other" 398)]
def o167 : Obj := ob_tu []
def o168 : Obj := ob_fu vn (inClass (topS 17) 1) "__eq__" "Calendar.__eq__" 0 vn vn vn vn none vn vn
def o169 : Obj := ob_co [(vs "__eq__" 394), (vs "Calendar.__eq__" 395), (vs "/claim/cut.py" 396), (vi 54 0), (vi 2 0), (vi 0 0), (vi 0 0), (vi 3 0), (vr 164), (.bool true), (vi 181 0), (vr 165), vn, (vr 166), (vr 167), (vr 168), (vi 399 0), (vi 54 0), (vs "/claim/cut.py" 400)]
def o170 : Obj := ob_fu (vt "function") (inClass (topS 17) 1) "__eq__" "Calendar.__eq__" 3 vn vn vn (vs "readround.calendars" 364) none (vr 169) vn
def o171 : Obj := ob_tu []
def o172 : Obj := ob_fi vn []
def o173 : Obj := ob_tu [(vs "self" 405)]
def o174 : Obj := ob_tu []
def o175 : Obj := ob_fu vn (inClass (topS 17) 2) "years" "Calendar.years" 0 vn vn vn vn none vn vn
def o176 : Obj := ob_co [(vs "years" 402), (vs "Calendar.years" 403), (vs "/claim/cut.py" 404), (vi 57 0), (vi 1 0), (vi 0 0), (vi 0 0), (vi 3 0), (vr 171), (.bool true), (vi 181 0), (vr 172), vn, (vr 173), (vr 174), (vr 175), (vi 406 0), (vi 57 0), (vs "/claim/cut.py" 407)]
def o177 : Obj := ob_fu (vt "function") (inClass (topS 17) 2) "years" "Calendar.years" 3 vn vn vn (vs "readround.calendars" 364) none (vr 176) vn
def o178 : Obj := ob_tu []
def o179 : Obj := ob_fi vn []
def o180 : Obj := ob_tu [(vs "self" 412)]
def o181 : Obj := ob_tu []
def o182 : Obj := ob_fu vn (inClass (topS 17) 3) "turn" "Calendar.turn" 0 vn vn vn vn none vn vn
def o183 : Obj := ob_co [(vs "turn" 409), (vs "Calendar.turn" 410), (vs "/claim/cut.py" 411), (vi 60 0), (vi 1 0), (vi 0 0), (vi 0 0), (vi 3 0), (vr 178), (.bool true), (vi 181 0), (vr 179), vn, (vr 180), (vr 181), (vr 182), (vi 413 0), (vi 60 0), (vs "/claim/cut.py" 414)]
def o184 : Obj := ob_fu (vt "function") (inClass (topS 17) 3) "turn" "Calendar.turn" 3 vn vn vn (vs "readround.calendars" 364) none (vr 183) vn
def o185 : Obj := ob_tu []
def o186 : Obj := ob_fi vn []
def o187 : Obj := ob_tu [(vs "self" 419), (vs "year" 420)]
def o188 : Obj := ob_tu []
def o189 : Obj := ob_fu vn (inClass (topS 17) 4) "long" "Calendar.long" 0 vn vn vn vn none vn vn
def o190 : Obj := ob_co [(vs "long" 416), (vs "Calendar.long" 417), (vs "/claim/cut.py" 418), (vi 63 0), (vi 2 0), (vi 0 0), (vi 0 0), (vi 3 0), (vr 185), (.bool true), (vi 181 0), (vr 186), vn, (vr 187), (vr 188), (vr 189), (vi 421 0), (vi 63 0), (vs "/claim/cut.py" 422)]
def o191 : Obj := ob_fu (vt "function") (inClass (topS 17) 4) "long" "Calendar.long" 3 vn vn vn (vs "readround.calendars" 364) none (vr 190) vn
def o192 : Obj := ob_tu []
def o193 : Obj := ob_fi vn []
def o194 : Obj := ob_tu [(vs "self" 427), (vs "year" 428), (vs "turns" 429), (vs "place" 430)]
def o195 : Obj := ob_tu []
def o196 : Obj := ob_fu vn (inClass (topS 17) 5) "first" "Calendar.first" 0 vn vn vn vn none vn vn
def o197 : Obj := ob_co [(vs "first" 424), (vs "Calendar.first" 425), (vs "/claim/cut.py" 426), (vi 67 0), (vi 2 0), (vi 0 0), (vi 0 0), (vi 3 0), (vr 192), (.bool true), (vi 181 0), (vr 193), vn, (vr 194), (vr 195), (vr 196), (vi 431 0), (vi 67 0), (vs "/claim/cut.py" 432)]
def o198 : Obj := ob_fu (vt "function") (inClass (topS 17) 5) "first" "Calendar.first" 3 vn vn vn (vs "readround.calendars" 364) none (vr 197) vn
def o199 : Obj := ob_tu []
def o200 : Obj := ob_fi vn []
def o201 : Obj := ob_fu vn (inClass (topS 17) 6) "at" "Calendar.at" 0 vn vn vn vn none vn vn
def o202 : Obj := ob_co [(vs "at" 434), (vs "Calendar.at" 435), (vs "/claim/cut.py" 436), (vi 72 0), (vi 2 0), (vi 0 0), (vi 0 0), (vi 3 0), (vr 199), (.bool true), (vi 181 0), (vr 200), vn, vn, vn, (vr 201), (vi 437 0), (vi 72 0), (vs "/claim/cut.py" 438)]
def o203 : Obj := ob_fu (vt "function") (inClass (topS 17) 6) "at" "Calendar.at" 3 vn vn vn (vs "readround.calendars" 364) none (vr 202) vn
def o204 : Obj := ob_tu [(vs "begins" 440), (vs "lengths" 441), (vs "whole" 442)]
def o205 (P : Params) : Obj := ob_di [en P "__module__" 380 (vs "readround.calendars" 364), en P "__firstlineno__" 384 (vi 42 383), en P "__init__" 393 (vr 163), en P "__eq__" 401 (vr 170), en P "years" 408 (vr 177), en P "turn" 415 (vr 184), en P "long" 423 (vr 191), en P "first" 433 (vr 198), en P "at" 439 (vr 203), en P "__static_attributes__" 443 (vr 204), en P "__dict__" 445 (vr 207), en P "__weakref__" 447 (vr 208), en P "__doc__" 448 vn, en P "__hash__" 449 vn] 5
def o206 : Obj := ⟨(vt "type"), none, .cls (ClassData.mk (Str.ofString "Calendar") [(vt "object")] [(vr 206), (vt "object")] 205 (Str.ofString "Calendar") true [] [] false none false), #[none, none, some (vs "Calendar" 373), some (vs "Calendar" 381), some (vb "object.__new__"), some (.bool true)]⟩
def o207 : Obj := ob_fi (vt "getset_descriptor") [(vs "__dict__" 444), (vr 206), (vb "function.__dict__"), (vb "function.__dict__#set")]
def o208 : Obj := ob_fi (vt "getset_descriptor") [(vs "__weakref__" 446), (vr 206), (vb "ExceptionGroup.__weakref__"), vn]
def o209 : Obj := ob_fi (vt "super") [(vr 206), (vr 206), (vr 206)]
def o210 : Obj := ob_fi (vt "builtin_function_or_method") [(vb "object.__init_subclass__"), (vr 206)]
def o211 : Obj := ob_tu []
def o212 : Obj := ob_fi vn []
def o213 : Obj := ob_fu vn (topS 19) "good_years" "good_years" 0 vn vn vn vn none vn vn
def o214 : Obj := ob_co [(vs "good_years" 454), (vs "good_years" 455), (vs "/claim/cut.py" 456), (vi 78 0), (vi 1 0), (vi 0 0), (vi 0 0), (vi 3 0), (vr 211), (.bool true), (vi 181 0), (vr 212), vn, vn, vn, (vr 213), (vi 457 0), (vi 78 0), (vs "/claim/cut.py" 458)]
def o215 : Obj := ob_fu (vt "function") (topS 19) "good_years" "good_years" 3 vn vn vn (vs "readround.feasts" 452) none (vr 214) vn
def o216 : Obj := ob_tu []
def o217 : Obj := ob_fi vn []
def o218 : Obj := ob_tu [(vs "pair" 463)]
def o219 : Obj := ob_tu []
def o220 : Obj := ob_fu vn (topS 20) "is_put" "is_put" 0 vn vn vn vn none vn vn
def o221 : Obj := ob_co [(vs "is_put" 460), (vs "is_put" 461), (vs "/claim/cut.py" 462), (vi 82 0), (vi 1 0), (vi 0 0), (vi 0 0), (vi 3 0), (vr 216), (.bool true), (vi 181 0), (vr 217), vn, (vr 218), (vr 219), (vr 220), (vi 464 0), (vi 82 0), (vs "/claim/cut.py" 465)]
def o222 : Obj := ob_fu (vt "function") (topS 20) "is_put" "is_put" 3 vn vn vn (vs "readround.feasts" 452) none (vr 221) vn
def o223 : Obj := ob_tu []
def o224 : Obj := ob_fi vn []
def o225 : Obj := ob_fu vn (topS 21) "good_puts" "good_puts" 0 vn vn vn vn none vn vn
def o226 : Obj := ob_co [(vs "good_puts" 467), (vs "good_puts" 468), (vs "/claim/cut.py" 469), (vi 84 0), (vi 1 0), (vi 0 0), (vi 0 0), (vi 3 0), (vr 223), (.bool true), (vi 181 0), (vr 224), vn, vn, vn, (vr 225), (vi 470 0), (vi 84 0), (vs "/claim/cut.py" 471)]
def o227 : Obj := ob_fu (vt "function") (topS 21) "good_puts" "good_puts" 3 vn vn vn (vs "readround.feasts" 452) none (vr 226) vn
def o228 : Obj := ob_tu []
def o229 : Obj := ob_fi (vt "builtin_function_or_method") [(vb "type.__prepare__"), (vt "type")]
def o230 (P : Params) : Obj := ob_di [en P "__module__" 480 (vs "readround.feasts" 452), en P "__qualname__" 482 (vs "Feast" 481), en P "__firstlineno__" 484 (vi 90 483), en P "__init__" 497 (vr 242), en P "__eq__" 505 (vr 249), en P "told" 513 (vr 256), en P "sort_for" 521 (vr 263), en P "span" 533 (vr 270), en P "keeps" 542 (vr 277), en P "next_kept" 551 (vr 284), en P "kept_in" 561 (vr 291), en P "kept_ahead" 570 (vr 298), en P "__static_attributes__" 576 (vr 299)] 13
def o231 : Obj := ob_tu []
def o232 : Obj := ob_fi vn [(vi 92 0), (vi 4 0), (vr 241), (vi 103 0), (vi 4 0), (vr 248), (vi 106 0), (vi 4 0), (vr 255), (vi 110 0), (vi 4 0), (vr 262), (vi 113 0), (vi 4 0), (vr 269), (vi 124 0), (vi 4 0), (vr 276), (vi 127 0), (vi 4 0), (vr 283), (vi 130 0), (vi 4 0), (vr 290), (vi 133 0), (vi 4 0), (vr 297)]
def o233 : Obj := ob_co [(vs "Feast" 475), (vs "Feast" 476), (vs "/claim/cut.py" 477), (vi 90 0), (vi 0 0), (vi 0 0), (vi 0 0), (vi 0 0), (vr 231), (.bool false), (vi 181 0), (vr 232), vn, vn, vn, vn, (vi 478 0), (vi 90 0), (vs "/claim/cut.py" 479)]
def o234 : Obj := ⟨(vt "frame"), none, .plain, #[some (vr 233), some (vr 3), some (vr 230), none, some (vs "readround.feasts" 452), none, some (vr 0)]⟩
def o235 : Obj := ob_tu [(vi 1 485), vn, vn]
def o236 : Obj := ob_tu []
def o237 : Obj := ob_fi vn []
def o238 : Obj := ob_tu [(vs "self" 489), (vs "name" 490), (vs "place" 491), (vs "days" 492), (vs "years" 493), (vs "puts" 494)]
def o239 : Obj := ob_tu []
def o240 : Obj := ob_fu vn (inClass (topS 22) 0) "__init__" "Feast.__init__" 0 vn vn vn vn none vn vn
def o241 : Obj := ob_co [(vs "__init__" 486), (vs "Feast.__init__" 487), (vs "/claim/cut.py" 488), (vi 92 0), (vi 6 0), (vi 0 0), (vi 0 0), (vi 3 0), (vr 236), (.bool true), (vi 181 0), (vr 237), vn, (vr 238), (vr 239), (vr 240), (vi 495 0), (vi 92 0), (vs "/claim/cut.py" 496)]
def o242 : Obj := ob_fu (vt "function") (inClass (topS 22) 0) "__init__" "Feast.__init__" 3 (vr 235) vn vn (vs "readround.feasts" 452) none (vr 241) vn
def o243 : Obj := ob_tu []
def o244 : Obj := ob_fi vn []
def o245 : Obj := ob_tu [(vs "self" 501), (vs "other" 502)]
def o246 : Obj := ob_tu []
def o247 : Obj := ob_fu vn (inClass (topS 22) 1) "__eq__" "Feast.__eq__" 0 vn vn vn vn none vn vn
def o248 : Obj := ob_co [(vs "__eq__" 498), (vs "Feast.__eq__" 499), (vs "/claim/cut.py" 500), (vi 103 0), (vi 2 0), (vi 0 0), (vi 0 0), (vi 3 0), (vr 243), (.bool true), (vi 181 0), (vr 244), vn, (vr 245), (vr 246), (vr 247), (vi 503 0), (vi 103 0), (vs "/claim/cut.py" 504)]
def o249 : Obj := ob_fu (vt "function") (inClass (topS 22) 1) "__eq__" "Feast.__eq__" 3 vn vn vn (vs "readround.feasts" 452) none (vr 248) vn
def o250 : Obj := ob_tu []
def o251 : Obj := ob_fi vn []
def o252 : Obj := ob_tu [(vs "self" 509), (vs "kept" 510)]
def o253 : Obj := ob_tu []
def o254 : Obj := ob_fu vn (inClass (topS 22) 2) "told" "Feast.told" 0 vn vn vn vn none vn vn
def o255 : Obj := ob_co [(vs "told" 506), (vs "Feast.told" 507), (vs "/claim/cut.py" 508), (vi 106 0), (vi 1 0), (vi 0 0), (vi 0 0), (vi 3 0), (vr 250), (.bool true), (vi 181 0), (vr 251), vn, (vr 252), (vr 253), (vr 254), (vi 511 0), (vi 106 0), (vs "/claim/cut.py" 512)]
def o256 : Obj := ob_fu (vt "function") (inClass (topS 22) 2) "told" "Feast.told" 3 vn vn vn (vs "readround.feasts" 452) none (vr 255) vn
def o257 : Obj := ob_tu []
def o258 : Obj := ob_fi vn []
def o259 : Obj := ob_tu [(vs "self" 517), (vs "name" 518)]
def o260 : Obj := ob_tu []
def o261 : Obj := ob_fu vn (inClass (topS 22) 3) "sort_for" "Feast.sort_for" 0 vn vn vn vn none vn vn
def o262 : Obj := ob_co [(vs "sort_for" 514), (vs "Feast.sort_for" 515), (vs "/claim/cut.py" 516), (vi 110 0), (vi 2 0), (vi 0 0), (vi 0 0), (vi 3 0), (vr 257), (.bool true), (vi 181 0), (vr 258), vn, (vr 259), (vr 260), (vr 261), (vi 519 0), (vi 110 0), (vs "/claim/cut.py" 520)]
def o263 : Obj := ob_fu (vt "function") (inClass (topS 22) 3) "sort_for" "Feast.sort_for" 3 vn vn vn (vs "readround.feasts" 452) none (vr 262) vn
def o264 : Obj := ob_tu []
def o265 : Obj := ob_fi vn []
def o266 : Obj := ob_tu [(vs "self" 525), (vs "calendar" 526), (vs "year" 527), (vs "days" 528), (vs "place" 529), (vs "first" 530)]
def o267 : Obj := ob_tu []
def o268 : Obj := ob_fu vn (inClass (topS 22) 4) "span" "Feast.span" 0 vn vn vn vn none vn vn
def o269 : Obj := ob_co [(vs "span" 522), (vs "Feast.span" 523), (vs "/claim/cut.py" 524), (vi 113 0), (vi 3 0), (vi 0 0), (vi 0 0), (vi 3 0), (vr 264), (.bool true), (vi 181 0), (vr 265), vn, (vr 266), (vr 267), (vr 268), (vi 531 0), (vi 113 0), (vs "/claim/cut.py" 532)]
def o270 : Obj := ob_fu (vt "function") (inClass (topS 22) 4) "span" "Feast.span" 3 vn vn vn (vs "readround.feasts" 452) none (vr 269) vn
def o271 : Obj := ob_tu []
def o272 : Obj := ob_fi vn []
def o273 : Obj := ob_tu [(vs "self" 537), (vs "calendar" 538), (vs "day" 539)]
def o274 : Obj := ob_tu []
def o275 : Obj := ob_fu vn (inClass (topS 22) 5) "keeps" "Feast.keeps" 0 vn vn vn vn none vn vn
def o276 : Obj := ob_co [(vs "keeps" 534), (vs "Feast.keeps" 535), (vs "/claim/cut.py" 536), (vi 124 0), (vi 3 0), (vi 0 0), (vi 0 0), (vi 3 0), (vr 271), (.bool true), (vi 181 0), (vr 272), vn, (vr 273), (vr 274), (vr 275), (vi 540 0), (vi 124 0), (vs "/claim/cut.py" 541)]
def o277 : Obj := ob_fu (vt "function") (inClass (topS 22) 5) "keeps" "Feast.keeps" 3 vn vn vn (vs "readround.feasts" 452) none (vr 276) vn
def o278 : Obj := ob_tu []
def o279 : Obj := ob_fi vn []
def o280 : Obj := ob_tu [(vs "self" 546), (vs "calendar" 547), (vs "day" 548)]
def o281 : Obj := ob_tu []
def o282 : Obj := ob_fu vn (inClass (topS 22) 6) "next_kept" "Feast.next_kept" 0 vn vn vn vn none vn vn
def o283 : Obj := ob_co [(vs "next_kept" 543), (vs "Feast.next_kept" 544), (vs "/claim/cut.py" 545), (vi 127 0), (vi 3 0), (vi 0 0), (vi 0 0), (vi 3 0), (vr 278), (.bool true), (vi 181 0), (vr 279), vn, (vr 280), (vr 281), (vr 282), (vi 549 0), (vi 127 0), (vs "/claim/cut.py" 550)]
def o284 : Obj := ob_fu (vt "function") (inClass (topS 22) 6) "next_kept" "Feast.next_kept" 3 vn vn vn (vs "readround.feasts" 452) none (vr 283) vn
def o285 : Obj := ob_tu []
def o286 : Obj := ob_fi vn []
def o287 : Obj := ob_tu [(vs "self" 555), (vs "calendar" 556), (vs "year" 557), (vs "end" 558)]
def o288 : Obj := ob_tu []
def o289 : Obj := ob_fu vn (inClass (topS 22) 7) "kept_in" "Feast.kept_in" 0 vn vn vn vn none vn vn
def o290 : Obj := ob_co [(vs "kept_in" 552), (vs "Feast.kept_in" 553), (vs "/claim/cut.py" 554), (vi 130 0), (vi 4 0), (vi 0 0), (vi 0 0), (vi 3 0), (vr 285), (.bool true), (vi 181 0), (vr 286), vn, (vr 287), (vr 288), (vr 289), (vi 559 0), (vi 130 0), (vs "/claim/cut.py" 560)]
def o291 : Obj := ob_fu (vt "function") (inClass (topS 22) 7) "kept_in" "Feast.kept_in" 3 vn vn vn (vs "readround.feasts" 452) none (vr 290) vn
def o292 : Obj := ob_tu []
def o293 : Obj := ob_fi vn []
def o294 : Obj := ob_tu [(vs "self" 565), (vs "calendar" 566), (vs "day" 567)]
def o295 : Obj := ob_tu []
def o296 : Obj := ob_fu vn (inClass (topS 22) 8) "kept_ahead" "Feast.kept_ahead" 0 vn vn vn vn none vn vn
def o297 : Obj := ob_co [(vs "kept_ahead" 562), (vs "Feast.kept_ahead" 563), (vs "/claim/cut.py" 564), (vi 133 0), (vi 3 0), (vi 0 0), (vi 0 0), (vi 3 0), (vr 292), (.bool true), (vi 181 0), (vr 293), vn, (vr 294), (vr 295), (vr 296), (vi 568 0), (vi 133 0), (vs "/claim/cut.py" 569)]
def o298 : Obj := ob_fu (vt "function") (inClass (topS 22) 8) "kept_ahead" "Feast.kept_ahead" 3 vn vn vn (vs "readround.feasts" 452) none (vr 297) vn
def o299 : Obj := ob_tu [(vs "acts" 571), (vs "kept" 572), (vs "lasts" 573), (vs "name" 574), (vs "place" 575)]
def o300 (P : Params) : Obj := ob_di [en P "__module__" 480 (vs "readround.feasts" 452), en P "__firstlineno__" 484 (vi 90 483), en P "__init__" 497 (vr 242), en P "__eq__" 505 (vr 249), en P "told" 513 (vr 256), en P "sort_for" 521 (vr 263), en P "span" 533 (vr 270), en P "keeps" 542 (vr 277), en P "next_kept" 551 (vr 284), en P "kept_in" 561 (vr 291), en P "kept_ahead" 570 (vr 298), en P "__static_attributes__" 576 (vr 299), en P "__dict__" 578 (vr 302), en P "__weakref__" 580 (vr 303), en P "__doc__" 581 vn, en P "__hash__" 582 vn] 5
def o301 : Obj := ⟨(vt "type"), none, .cls (ClassData.mk (Str.ofString "Feast") [(vt "object")] [(vr 301), (vt "object")] 300 (Str.ofString "Feast") true [] [] false none false), #[none, none, some (vs "Feast" 473), some (vs "Feast" 481), some (vb "object.__new__"), some (.bool true)]⟩
def o302 : Obj := ob_fi (vt "getset_descriptor") [(vs "__dict__" 577), (vr 301), (vb "function.__dict__"), (vb "function.__dict__#set")]
def o303 : Obj := ob_fi (vt "getset_descriptor") [(vs "__weakref__" 579), (vr 301), (vb "ExceptionGroup.__weakref__"), vn]
def o304 : Obj := ob_fi (vt "super") [(vr 301), (vr 301), (vr 301)]
def o305 : Obj := ob_fi (vt "builtin_function_or_method") [(vb "object.__init_subclass__"), (vr 301)]
def o306 : Obj := ob_tu []
def o307 : Obj := ob_fi (vt "builtin_function_or_method") [(vb "type.__prepare__"), (vt "type")]
def o308 (P : Params) : Obj := ob_di [en P "__module__" 594 (vs "readround.rows" 585), en P "__qualname__" 596 (vs "Row" 595), en P "__firstlineno__" 598 (vi 136 597), en P "__init__" 608 (vr 319), en P "coming" 617 (vr 326), en P "begins_anew" 624 (vr 333), en P "holds" 632 (vr 340), en P "over" 645 (vr 347), en P "step" 654 (vr 354), en P "__static_attributes__" 658 (vr 355)] 10
def o309 : Obj := ob_tu []
def o310 : Obj := ob_fi vn [(vi 138 0), (vi 4 0), (vr 318), (vi 145 0), (vi 4 0), (vr 325), (vi 148 0), (vi 4 0), (vr 332), (vi 151 0), (vi 4 0), (vr 339), (vi 154 0), (vi 4 0), (vr 346), (vi 164 0), (vi 4 0), (vr 353)]
def o311 : Obj := ob_co [(vs "Row" 589), (vs "Row" 590), (vs "/claim/cut.py" 591), (vi 136 0), (vi 0 0), (vi 0 0), (vi 0 0), (vi 0 0), (vr 309), (.bool false), (vi 181 0), (vr 310), vn, vn, vn, vn, (vi 592 0), (vi 136 0), (vs "/claim/cut.py" 593)]
def o312 : Obj := ⟨(vt "frame"), none, .plain, #[some (vr 311), some (vr 3), some (vr 308), none, some (vs "readround.rows" 585), none, some (vr 0)]⟩
def o313 : Obj := ob_tu []
def o314 : Obj := ob_fi vn []
def o315 : Obj := ob_tu [(vs "self" 602), (vs "name" 603), (vs "pieces" 604), (vs "most" 605)]
def o316 : Obj := ob_tu []
def o317 : Obj := ob_fu vn (inClass (topS 24) 0) "__init__" "Row.__init__" 0 vn vn vn vn none vn vn
def o318 : Obj := ob_co [(vs "__init__" 599), (vs "Row.__init__" 600), (vs "/claim/cut.py" 601), (vi 138 0), (vi 4 0), (vi 0 0), (vi 0 0), (vi 3 0), (vr 313), (.bool true), (vi 181 0), (vr 314), vn, (vr 315), (vr 316), (vr 317), (vi 606 0), (vi 138 0), (vs "/claim/cut.py" 607)]
def o319 : Obj := ob_fu (vt "function") (inClass (topS 24) 0) "__init__" "Row.__init__" 3 vn vn vn (vs "readround.rows" 585) none (vr 318) vn
def o320 : Obj := ob_tu []
def o321 : Obj := ob_fi vn []
def o322 : Obj := ob_tu [(vs "self" 612), (vs "due" 613), (vs "days" 614)]
def o323 : Obj := ob_tu []
def o324 : Obj := ob_fu vn (inClass (topS 24) 1) "coming" "Row.coming" 0 vn vn vn vn none vn vn
def o325 : Obj := ob_co [(vs "coming" 609), (vs "Row.coming" 610), (vs "/claim/cut.py" 611), (vi 145 0), (vi 3 0), (vi 0 0), (vi 0 0), (vi 3 0), (vr 320), (.bool true), (vi 181 0), (vr 321), vn, (vr 322), (vr 323), (vr 324), (vi 615 0), (vi 145 0), (vs "/claim/cut.py" 616)]
def o326 : Obj := ob_fu (vt "function") (inClass (topS 24) 1) "coming" "Row.coming" 3 vn vn vn (vs "readround.rows" 585) none (vr 325) vn
def o327 : Obj := ob_tu []
def o328 : Obj := ob_fi vn []
def o329 : Obj := ob_tu [(vs "self" 621)]
def o330 : Obj := ob_tu []
def o331 : Obj := ob_fu vn (inClass (topS 24) 2) "begins_anew" "Row.begins_anew" 0 vn vn vn vn none vn vn
def o332 : Obj := ob_co [(vs "begins_anew" 618), (vs "Row.begins_anew" 619), (vs "/claim/cut.py" 620), (vi 148 0), (vi 1 0), (vi 0 0), (vi 0 0), (vi 3 0), (vr 327), (.bool true), (vi 181 0), (vr 328), vn, (vr 329), (vr 330), (vr 331), (vi 622 0), (vi 148 0), (vs "/claim/cut.py" 623)]
def o333 : Obj := ob_fu (vt "function") (inClass (topS 24) 2) "begins_anew" "Row.begins_anew" 3 vn vn vn (vs "readround.rows" 585) none (vr 332) vn
def o334 : Obj := ob_tu []
def o335 : Obj := ob_fi vn []
def o336 : Obj := ob_tu [(vs "self" 628), (vs "pair" 629)]
def o337 : Obj := ob_tu []
def o338 : Obj := ob_fu vn (inClass (topS 24) 3) "holds" "Row.holds" 0 vn vn vn vn none vn vn
def o339 : Obj := ob_co [(vs "holds" 625), (vs "Row.holds" 626), (vs "/claim/cut.py" 627), (vi 151 0), (vi 2 0), (vi 0 0), (vi 0 0), (vi 3 0), (vr 334), (.bool true), (vi 181 0), (vr 335), vn, (vr 336), (vr 337), (vr 338), (vi 630 0), (vi 151 0), (vs "/claim/cut.py" 631)]
def o340 : Obj := ob_fu (vt "function") (inClass (topS 24) 3) "holds" "Row.holds" 3 vn vn vn (vs "readround.rows" 585) none (vr 339) vn
def o341 : Obj := ob_tu []
def o342 : Obj := ob_fi vn []
def o343 : Obj := ob_tu [(vs "self" 636), (vs "pair" 637), (vs "sort" 638), (vs "days" 639), (vs "due" 640), (vs "owed" 641), (vs "more" 642)]
def o344 : Obj := ob_tu []
def o345 : Obj := ob_fu vn (inClass (topS 24) 4) "over" "Row.over" 0 vn vn vn vn none vn vn
def o346 : Obj := ob_co [(vs "over" 633), (vs "Row.over" 634), (vs "/claim/cut.py" 635), (vi 154 0), (vi 4 0), (vi 0 0), (vi 0 0), (vi 3 0), (vr 341), (.bool true), (vi 181 0), (vr 342), vn, (vr 343), (vr 344), (vr 345), (vi 643 0), (vi 154 0), (vs "/claim/cut.py" 644)]
def o347 : Obj := ob_fu (vt "function") (inClass (topS 24) 4) "over" "Row.over" 3 vn vn vn (vs "readround.rows" 585) none (vr 346) vn
def o348 : Obj := ob_tu []
def o349 : Obj := ob_fi vn []
def o350 : Obj := ob_tu [(vs "self" 649), (vs "pair" 650), (vs "sort" 651)]
def o351 : Obj := ob_tu []
def o352 : Obj := ob_fu vn (inClass (topS 24) 5) "step" "Row.step" 0 vn vn vn vn none vn vn
def o353 : Obj := ob_co [(vs "step" 646), (vs "Row.step" 647), (vs "/claim/cut.py" 648), (vi 164 0), (vi 3 0), (vi 0 0), (vi 0 0), (vi 3 0), (vr 348), (.bool true), (vi 181 0), (vr 349), vn, (vr 350), (vr 351), (vr 352), (vi 652 0), (vi 164 0), (vs "/claim/cut.py" 653)]
def o354 : Obj := ob_fu (vt "function") (inClass (topS 24) 5) "step" "Row.step" 3 vn vn vn (vs "readround.rows" 585) none (vr 353) vn
def o355 : Obj := ob_tu [(vs "most" 655), (vs "name" 656), (vs "pieces" 657)]
def o356 (P : Params) : Obj := ob_di [en P "__module__" 594 (vs "readround.rows" 585), en P "__firstlineno__" 598 (vi 136 597), en P "__init__" 608 (vr 319), en P "coming" 617 (vr 326), en P "begins_anew" 624 (vr 333), en P "holds" 632 (vr 340), en P "over" 645 (vr 347), en P "step" 654 (vr 354), en P "__static_attributes__" 658 (vr 355), en P "__dict__" 660 (vr 358), en P "__weakref__" 662 (vr 359), en P "__doc__" 663 vn] 4
def o357 : Obj := ⟨(vt "type"), none, .cls (ClassData.mk (Str.ofString "Row") [(vt "object")] [(vr 357), (vt "object")] 356 (Str.ofString "Row") true [] [] false none false), #[none, none, some (vs "Row" 587), some (vs "Row" 595), some (vb "object.__new__"), some (.bool true)]⟩
def o358 : Obj := ob_fi (vt "getset_descriptor") [(vs "__dict__" 659), (vr 357), (vb "function.__dict__"), (vb "function.__dict__#set")]
def o359 : Obj := ob_fi (vt "getset_descriptor") [(vs "__weakref__" 661), (vr 357), (vb "ExceptionGroup.__weakref__"), vn]
def o360 : Obj := ob_fi (vt "super") [(vr 357), (vr 357), (vr 357)]
def o361 : Obj := ob_fi (vt "builtin_function_or_method") [(vb "object.__init_subclass__"), (vr 357)]
def o3_2 (P : Params) : Obj := ob_di [en P "__name__" 165 (vs "readround.houses" 912), en P "__doc__" 166 vn, en P "__package__" 167 vn, en P "__loader__" 168 (vb "__main__.__loader__#opaque"), en P "__spec__" 169 vn, en P "__annotations__" 170 (vr 6), en P "__builtins__" 171 (vr 4), en P "__file__" 173 (vs "/claim/cut.py" 172), en P "__cached__" 174 vn, en P "_wall" 193 (vr 21), en P "ReadError" 213 (vr 31), en P "BadCalendar" 229 (vr 44), en P "BadFeast" 245 (vr 56), en P "BadRow" 261 (vr 68), en P "BadHouse" 277 (vr 80), en P "NoDay" 293 (vr 92), en P "NoRow" 309 (vr 104), en P "NeverDone" 338 (vr 123), en P "LETTERS" 342 (vs "abcdefghijklmnopqrstuvwxyz" 341), en P "is_number" 351 (vr 132), en P "is_name" 357 (vr 137), en P "are_numbers" 363 (vr 142), en P "need_day" 372 (vr 149), en P "Calendar" 451 (vr 206), en P "good_years" 459 (vr 215), en P "is_put" 466 (vr 222), en P "good_puts" 472 (vr 227), en P "Feast" 584 (vr 301), en P "Row" 665 (vr 357), en P "Going" 719 (vr 400), en P "Yearly" 794 (vr 461), en P "drift_of" 805 (vr 470), en P "Table" 911 (vr 529), en P "are_unlike" 920 (vr 540), en P "is_house" 926 (vr 545), en P "sort_at" 939 (vr 552), en P "year_chart" 945 (vr 557), en P "House" 1031 (vr 619)] 38
def o12_3 : Obj := ob_fi vn [(vi 1 0), (vi 0 0), (vr 20), (vi 5 0), (vi 0 0), (vr 27), (vi 7 0), (vi 0 0), (vr 40), (vi 9 0), (vi 0 0), (vr 52), (vi 11 0), (vi 0 0), (vr 64), (vi 13 0), (vi 0 0), (vr 76), (vi 15 0), (vi 0 0), (vr 88), (vi 17 0), (vi 0 0), (vr 100), (vi 19 0), (vi 0 0), (vr 112), (vi 28 0), (vi 0 0), (vr 131), (vi 30 0), (vi 0 0), (vr 136), (vi 34 0), (vi 0 0), (vr 141), (vi 39 0), (vi 0 0), (vr 148), (vi 42 0), (vi 0 0), (vr 155), (vi 78 0), (vi 0 0), (vr 214), (vi 82 0), (vi 0 0), (vr 221), (vi 84 0), (vi 0 0), (vr 226), (vi 90 0), (vi 0 0), (vr 233), (vi 136 0), (vi 0 0), (vr 311), (vi 166 0), (vi 0 0), (vr 367), (vi 182 0), (vi 0 0), (vr 408), (vi 205 0), (vi 0 0), (vr 469), (vi 209 0), (vi 0 0), (vr 476), (vi 256 0), (vi 0 0), (vr 539), (vi 258 0), (vi 0 0), (vr 544), (vi 276 0), (vi 0 0), (vr 551), (vi 282 0), (vi 0 0), (vr 556), (vi 294 0), (vi 0 0), (vr 563)]
def o357_1 : Obj := ⟨(vt "type"), none, .cls (ClassData.mk (Str.ofString "Row") [(vt "object")] [(vr 357), (vt "object")] 356 (Str.ofString "Row") true [] [(vr 400), (vr 461)] false none false), #[none, none, some (vs "Row" 587), some (vs "Row" 595), some (vb "object.__new__"), some (.bool true)]⟩
def o362 : Obj := ob_tu [(vr 357)]
def o363 : Obj := ob_fi (vt "builtin_function_or_method") [(vb "type.__prepare__"), (vt "type")]
def o364 (P : Params) : Obj := ob_di [en P "__module__" 673 (vs "readround.rows" 585), en P "__qualname__" 675 (vs "Going" 674), en P "__firstlineno__" 677 (vi 166 676), en P "__init__" 689 (vr 376), en P "__eq__" 697 (vr 383), en P "told" 704 (vr 390), en P "piece" 713 (vr 397), en P "__static_attributes__" 715 (vr 398)] 8
def o365 : Obj := ob_tu []
def o366 : Obj := ob_fi vn [(vi 168 0), (vi 4 0), (vr 375), (vi 174 0), (vi 4 0), (vr 382), (vi 177 0), (vi 4 0), (vr 389), (vi 180 0), (vi 4 0), (vr 396)]
def o367 : Obj := ob_co [(vs "Going" 668), (vs "Going" 669), (vs "/claim/cut.py" 670), (vi 166 0), (vi 0 0), (vi 0 0), (vi 0 0), (vi 0 0), (vr 365), (.bool false), (vi 181 0), (vr 366), vn, vn, vn, vn, (vi 671 0), (vi 166 0), (vs "/claim/cut.py" 672)]
def o368 : Obj := ⟨(vt "frame"), none, .plain, #[some (vr 367), some (vr 3), some (vr 364), none, some (vs "readround.rows" 585), none, some (vr 0)]⟩
def o369 : Obj := ob_tu [(vi 0 678)]
def o370 : Obj := ob_tu []
def o371 : Obj := ob_fi vn []
def o372 : Obj := ob_tu [(vs "self" 682), (vs "name" 683), (vs "many" 684), (vs "most" 685), (vs "begin" 686)]
def o373 : Obj := ob_tu []
def o374 : Obj := ob_fu vn (inClass (topS 25) 0) "__init__" "Going.__init__" 0 vn vn vn vn none vn vn
def o375 : Obj := ob_co [(vs "__init__" 679), (vs "Going.__init__" 680), (vs "/claim/cut.py" 681), (vi 168 0), (vi 5 0), (vi 0 0), (vi 0 0), (vi 3 0), (vr 370), (.bool true), (vi 181 0), (vr 371), vn, (vr 372), (vr 373), (vr 374), (vi 687 0), (vi 168 0), (vs "/claim/cut.py" 688)]
def o376 : Obj := ob_fu (vt "function") (inClass (topS 25) 0) "__init__" "Going.__init__" 3 (vr 369) vn vn (vs "readround.rows" 585) none (vr 375) vn
def o377 : Obj := ob_tu []
def o378 : Obj := ob_fi vn []
def o379 : Obj := ob_tu [(vs "self" 693), (vs "other" 694)]
def o380 : Obj := ob_tu []
def o381 : Obj := ob_fu vn (inClass (topS 25) 1) "__eq__" "Going.__eq__" 0 vn vn vn vn none vn vn
def o382 : Obj := ob_co [(vs "__eq__" 690), (vs "Going.__eq__" 691), (vs "/claim/cut.py" 692), (vi 174 0), (vi 2 0), (vi 0 0), (vi 0 0), (vi 3 0), (vr 377), (.bool true), (vi 181 0), (vr 378), vn, (vr 379), (vr 380), (vr 381), (vi 695 0), (vi 174 0), (vs "/claim/cut.py" 696)]
def o383 : Obj := ob_fu (vt "function") (inClass (topS 25) 1) "__eq__" "Going.__eq__" 3 vn vn vn (vs "readround.rows" 585) none (vr 382) vn
def o384 : Obj := ob_tu []
def o385 : Obj := ob_fi vn []
def o386 : Obj := ob_tu [(vs "self" 701)]
def o387 : Obj := ob_tu []
def o388 : Obj := ob_fu vn (inClass (topS 25) 2) "told" "Going.told" 0 vn vn vn vn none vn vn
def o389 : Obj := ob_co [(vs "told" 698), (vs "Going.told" 699), (vs "/claim/cut.py" 700), (vi 177 0), (vi 1 0), (vi 0 0), (vi 0 0), (vi 3 0), (vr 384), (.bool true), (vi 181 0), (vr 385), vn, (vr 386), (vr 387), (vr 388), (vi 702 0), (vi 177 0), (vs "/claim/cut.py" 703)]
def o390 : Obj := ob_fu (vt "function") (inClass (topS 25) 2) "told" "Going.told" 3 vn vn vn (vs "readround.rows" 585) none (vr 389) vn
def o391 : Obj := ob_tu []
def o392 : Obj := ob_fi vn []
def o393 : Obj := ob_tu [(vs "self" 708), (vs "number" 709), (vs "year" 710)]
def o394 : Obj := ob_tu []
def o395 : Obj := ob_fu vn (inClass (topS 25) 3) "piece" "Going.piece" 0 vn vn vn vn none vn vn
def o396 : Obj := ob_co [(vs "piece" 705), (vs "Going.piece" 706), (vs "/claim/cut.py" 707), (vi 180 0), (vi 3 0), (vi 0 0), (vi 0 0), (vi 3 0), (vr 391), (.bool true), (vi 181 0), (vr 392), vn, (vr 393), (vr 394), (vr 395), (vi 711 0), (vi 180 0), (vs "/claim/cut.py" 712)]
def o397 : Obj := ob_fu (vt "function") (inClass (topS 25) 3) "piece" "Going.piece" 3 vn vn vn (vs "readround.rows" 585) none (vr 396) vn
def o398 : Obj := ob_tu [(vs "begin" 714)]
def o399 (P : Params) : Obj := ob_di [en P "__module__" 673 (vs "readround.rows" 585), en P "__firstlineno__" 677 (vi 166 676), en P "__init__" 689 (vr 376), en P "__eq__" 697 (vr 383), en P "told" 704 (vr 390), en P "piece" 713 (vr 397), en P "__static_attributes__" 715 (vr 398), en P "__doc__" 716 vn, en P "__hash__" 717 vn] 3
def o400 : Obj := ⟨(vt "type"), none, .cls (ClassData.mk (Str.ofString "Going") [(vr 357)] [(vr 400), (vr 357), (vt "object")] 399 (Str.ofString "Going") true [] [] false none false), #[some (vr 362), none, some (vs "Going" 666), some (vs "Going" 674), some (vb "object.__new__"), some (.bool true)]⟩
def o401 : Obj := ob_fi (vt "super") [(vr 400), (vr 400), (vr 400)]
def o402 : Obj := ob_fi (vt "builtin_function_or_method") [(vb "object.__init_subclass__"), (vr 400)]
def o403 : Obj := ob_tu [(vr 357)]
def o404 : Obj := ob_fi (vt "builtin_function_or_method") [(vb "type.__prepare__"), (vt "type")]
def o405 (P : Params) : Obj := ob_di [en P "__module__" 727 (vs "readround.rows" 585), en P "__qualname__" 729 (vs "Yearly" 728), en P "__firstlineno__" 731 (vi 182 730), en P "__init__" 741 (vr 416), en P "coming" 750 (vr 423), en P "begins_anew" 757 (vr 430), en P "holds" 765 (vr 437), en P "__eq__" 773 (vr 444), en P "told" 780 (vr 451), en P "piece" 789 (vr 458), en P "__static_attributes__" 790 (vr 459)] 11
def o406 : Obj := ob_tu []
def o407 : Obj := ob_fi vn [(vi 184 0), (vi 4 0), (vr 415), (vi 187 0), (vi 4 0), (vr 422), (vi 190 0), (vi 4 0), (vr 429), (vi 193 0), (vi 4 0), (vr 436), (vi 196 0), (vi 4 0), (vr 443), (vi 199 0), (vi 4 0), (vr 450), (vi 202 0), (vi 4 0), (vr 457)]
def o408 : Obj := ob_co [(vs "Yearly" 722), (vs "Yearly" 723), (vs "/claim/cut.py" 724), (vi 182 0), (vi 0 0), (vi 0 0), (vi 0 0), (vi 0 0), (vr 406), (.bool false), (vi 181 0), (vr 407), vn, vn, vn, vn, (vi 725 0), (vi 182 0), (vs "/claim/cut.py" 726)]
def o409 : Obj := ⟨(vt "frame"), none, .plain, #[some (vr 408), some (vr 3), some (vr 405), none, some (vs "readround.rows" 585), none, some (vr 0)]⟩
def o410 : Obj := ob_tu []
def o411 : Obj := ob_fi vn []
def o412 : Obj := ob_tu [(vs "self" 735), (vs "name" 736), (vs "many" 737), (vs "most" 738)]
def o413 : Obj := ob_tu []
def o414 : Obj := ob_fu vn (inClass (topS 26) 0) "__init__" "Yearly.__init__" 0 vn vn vn vn none vn vn
def o415 : Obj := ob_co [(vs "__init__" 732), (vs "Yearly.__init__" 733), (vs "/claim/cut.py" 734), (vi 184 0), (vi 4 0), (vi 0 0), (vi 0 0), (vi 3 0), (vr 410), (.bool true), (vi 181 0), (vr 411), vn, (vr 412), (vr 413), (vr 414), (vi 739 0), (vi 184 0), (vs "/claim/cut.py" 740)]
def o416 : Obj := ob_fu (vt "function") (inClass (topS 26) 0) "__init__" "Yearly.__init__" 3 vn vn vn (vs "readround.rows" 585) none (vr 415) vn
def o417 : Obj := ob_tu []
def o418 : Obj := ob_fi vn []
def o419 : Obj := ob_tu [(vs "self" 745), (vs "due" 746), (vs "days" 747)]
def o420 : Obj := ob_tu []
def o421 : Obj := ob_fu vn (inClass (topS 26) 1) "coming" "Yearly.coming" 0 vn vn vn vn none vn vn
def o422 : Obj := ob_co [(vs "coming" 742), (vs "Yearly.coming" 743), (vs "/claim/cut.py" 744), (vi 187 0), (vi 3 0), (vi 0 0), (vi 0 0), (vi 3 0), (vr 417), (.bool true), (vi 181 0), (vr 418), vn, (vr 419), (vr 420), (vr 421), (vi 748 0), (vi 187 0), (vs "/claim/cut.py" 749)]
def o423 : Obj := ob_fu (vt "function") (inClass (topS 26) 1) "coming" "Yearly.coming" 3 vn vn vn (vs "readround.rows" 585) none (vr 422) vn
def o424 : Obj := ob_tu []
def o425 : Obj := ob_fi vn []
def o426 : Obj := ob_tu [(vs "self" 754)]
def o427 : Obj := ob_tu []
def o428 : Obj := ob_fu vn (inClass (topS 26) 2) "begins_anew" "Yearly.begins_anew" 0 vn vn vn vn none vn vn
def o429 : Obj := ob_co [(vs "begins_anew" 751), (vs "Yearly.begins_anew" 752), (vs "/claim/cut.py" 753), (vi 190 0), (vi 1 0), (vi 0 0), (vi 0 0), (vi 3 0), (vr 424), (.bool true), (vi 181 0), (vr 425), vn, (vr 426), (vr 427), (vr 428), (vi 755 0), (vi 190 0), (vs "/claim/cut.py" 756)]
def o430 : Obj := ob_fu (vt "function") (inClass (topS 26) 2) "begins_anew" "Yearly.begins_anew" 3 vn vn vn (vs "readround.rows" 585) none (vr 429) vn
def o431 : Obj := ob_tu []
def o432 : Obj := ob_fi vn []
def o433 : Obj := ob_tu [(vs "self" 761), (vs "pair" 762)]
def o434 : Obj := ob_tu []
def o435 : Obj := ob_fu vn (inClass (topS 26) 3) "holds" "Yearly.holds" 0 vn vn vn vn none vn vn
def o436 : Obj := ob_co [(vs "holds" 758), (vs "Yearly.holds" 759), (vs "/claim/cut.py" 760), (vi 193 0), (vi 2 0), (vi 0 0), (vi 0 0), (vi 3 0), (vr 431), (.bool true), (vi 181 0), (vr 432), vn, (vr 433), (vr 434), (vr 435), (vi 763 0), (vi 193 0), (vs "/claim/cut.py" 764)]
def o437 : Obj := ob_fu (vt "function") (inClass (topS 26) 3) "holds" "Yearly.holds" 3 vn vn vn (vs "readround.rows" 585) none (vr 436) vn
def o438 : Obj := ob_tu []
def o439 : Obj := ob_fi vn []
def o440 : Obj := ob_tu [(vs "self" 769), (vs "other" 770)]
def o441 : Obj := ob_tu []
def o442 : Obj := ob_fu vn (inClass (topS 26) 4) "__eq__" "Yearly.__eq__" 0 vn vn vn vn none vn vn
def o443 : Obj := ob_co [(vs "__eq__" 766), (vs "Yearly.__eq__" 767), (vs "/claim/cut.py" 768), (vi 196 0), (vi 2 0), (vi 0 0), (vi 0 0), (vi 3 0), (vr 438), (.bool true), (vi 181 0), (vr 439), vn, (vr 440), (vr 441), (vr 442), (vi 771 0), (vi 196 0), (vs "/claim/cut.py" 772)]
def o444 : Obj := ob_fu (vt "function") (inClass (topS 26) 4) "__eq__" "Yearly.__eq__" 3 vn vn vn (vs "readround.rows" 585) none (vr 443) vn
def o445 : Obj := ob_tu []
def o446 : Obj := ob_fi vn []
def o447 : Obj := ob_tu [(vs "self" 777)]
def o448 : Obj := ob_tu []
def o449 : Obj := ob_fu vn (inClass (topS 26) 5) "told" "Yearly.told" 0 vn vn vn vn none vn vn
def o450 : Obj := ob_co [(vs "told" 774), (vs "Yearly.told" 775), (vs "/claim/cut.py" 776), (vi 199 0), (vi 1 0), (vi 0 0), (vi 0 0), (vi 3 0), (vr 445), (.bool true), (vi 181 0), (vr 446), vn, (vr 447), (vr 448), (vr 449), (vi 778 0), (vi 199 0), (vs "/claim/cut.py" 779)]
def o451 : Obj := ob_fu (vt "function") (inClass (topS 26) 5) "told" "Yearly.told" 3 vn vn vn (vs "readround.rows" 585) none (vr 450) vn
def o452 : Obj := ob_tu []
def o453 : Obj := ob_fi vn []
def o454 : Obj := ob_tu [(vs "self" 784), (vs "number" 785), (vs "year" 786)]
def o455 : Obj := ob_tu []
def o456 : Obj := ob_fu vn (inClass (topS 26) 6) "piece" "Yearly.piece" 0 vn vn vn vn none vn vn
def o457 : Obj := ob_co [(vs "piece" 781), (vs "Yearly.piece" 782), (vs "/claim/cut.py" 783), (vi 202 0), (vi 3 0), (vi 0 0), (vi 0 0), (vi 3 0), (vr 452), (.bool true), (vi 181 0), (vr 453), vn, (vr 454), (vr 455), (vr 456), (vi 787 0), (vi 202 0), (vs "/claim/cut.py" 788)]
def o458 : Obj := ob_fu (vt "function") (inClass (topS 26) 6) "piece" "Yearly.piece" 3 vn vn vn (vs "readround.rows" 585) none (vr 457) vn
def o459 : Obj := ob_tu []
def o460 (P : Params) : Obj := ob_di [en P "__module__" 727 (vs "readround.rows" 585), en P "__firstlineno__" 731 (vi 182 730), en P "__init__" 741 (vr 416), en P "coming" 750 (vr 423), en P "begins_anew" 757 (vr 430), en P "holds" 765 (vr 437), en P "__eq__" 773 (vr 444), en P "told" 780 (vr 451), en P "piece" 789 (vr 458), en P "__static_attributes__" 790 (vr 459), en P "__doc__" 791 vn, en P "__hash__" 792 vn] 3
def o461 : Obj := ⟨(vt "type"), none, .cls (ClassData.mk (Str.ofString "Yearly") [(vr 357)] [(vr 461), (vr 357), (vt "object")] 460 (Str.ofString "Yearly") true [] [] false none false), #[some (vr 403), none, some (vs "Yearly" 720), some (vs "Yearly" 728), some (vb "object.__new__"), some (.bool true)]⟩
def o462 : Obj := ob_fi (vt "super") [(vr 461), (vr 461), (vr 461)]
def o463 : Obj := ob_fi (vt "builtin_function_or_method") [(vb "object.__init_subclass__"), (vr 461)]
def o464 : Obj := ob_tu []
def o465 : Obj := ob_fi vn []
def o466 : Obj := ob_tu [(vs "line" 800), (vs "sort" 801), (vs "days" 802)]
def o467 : Obj := ob_tu []
def o468 : Obj := ob_fu vn (topS 28) "drift_of" "drift_of" 0 vn vn vn vn none vn vn
def o469 : Obj := ob_co [(vs "drift_of" 797), (vs "drift_of" 798), (vs "/claim/cut.py" 799), (vi 205 0), (vi 3 0), (vi 0 0), (vi 0 0), (vi 3 0), (vr 464), (.bool true), (vi 181 0), (vr 465), vn, (vr 466), (vr 467), (vr 468), (vi 803 0), (vi 205 0), (vs "/claim/cut.py" 804)]
def o470 : Obj := ob_fu (vt "function") (topS 28) "drift_of" "drift_of" 3 vn vn vn (vs "readround.tables" 795) none (vr 469) vn
def o471 : Obj := ob_tu []
def o472 : Obj := ob_fi (vt "builtin_function_or_method") [(vb "type.__prepare__"), (vt "type")]
def o473 (P : Params) : Obj := ob_di [en P "__module__" 813 (vs "readround.tables" 795), en P "__qualname__" 815 (vs "Table" 814), en P "__firstlineno__" 817 (vi 209 816), en P "__init__" 829 (vr 484), en P "marks_from" 846 (vr 491), en P "mark_at" 854 (vr 498), en P "day_of" 862 (vr 505), en P "low_in" 872 (vr 512), en P "least" 887 (vr 519), en P "low_from" 896 (vr 526), en P "__static_attributes__" 904 (vr 527)] 11
def o474 : Obj := ob_tu []
def o475 : Obj := ob_fi vn [(vi 211 0), (vi 4 0), (vr 483), (vi 221 0), (vi 4 0), (vr 490), (vi 236 0), (vi 4 0), (vr 497), (vi 239 0), (vi 4 0), (vr 504), (vi 242 0), (vi 4 0), (vr 511), (vi 245 0), (vi 4 0), (vr 518), (vi 253 0), (vi 4 0), (vr 525)]
def o476 : Obj := ob_co [(vs "Table" 808), (vs "Table" 809), (vs "/claim/cut.py" 810), (vi 209 0), (vi 0 0), (vi 0 0), (vi 0 0), (vi 0 0), (vr 474), (.bool false), (vi 181 0), (vr 475), vn, vn, vn, vn, (vi 811 0), (vi 209 0), (vs "/claim/cut.py" 812)]
def o477 : Obj := ⟨(vt "frame"), none, .plain, #[some (vr 476), some (vr 3), some (vr 473), none, some (vs "readround.tables" 795), none, some (vr 0)]⟩
def o478 : Obj := ob_tu []
def o479 : Obj := ob_fi vn []
def o480 : Obj := ob_tu [(vs "self" 821), (vs "calendar" 822), (vs "line" 823), (vs "charts" 824), (vs "early" 825), (vs "last" 826)]
def o481 : Obj := ob_tu []
def o482 : Obj := ob_fu vn (inClass (topS 29) 0) "__init__" "Table.__init__" 0 vn vn vn vn none vn vn
def o483 : Obj := ob_co [(vs "__init__" 818), (vs "Table.__init__" 819), (vs "/claim/cut.py" 820), (vi 211 0), (vi 4 0), (vi 0 0), (vi 0 0), (vi 3 0), (vr 478), (.bool true), (vi 181 0), (vr 479), vn, (vr 480), (vr 481), (vr 482), (vi 827 0), (vi 211 0), (vs "/claim/cut.py" 828)]
def o484 : Obj := ob_fu (vt "function") (inClass (topS 29) 0) "__init__" "Table.__init__" 3 vn vn vn (vs "readround.tables" 795) none (vr 483) vn
def o485 : Obj := ob_tu []
def o486 : Obj := ob_fi vn []
def o487 : Obj := ob_tu [(vs "self" 833), (vs "owed" 834), (vs "found" 835), (vs "pair" 836), (vs "drift" 837), (vs "chart" 838), (vs "marks" 839), (vs "start" 840), (vs "end" 841), (vs "sort" 842), (vs "feast" 843)]
def o488 : Obj := ob_tu []
def o489 : Obj := ob_fu vn (inClass (topS 29) 1) "marks_from" "Table.marks_from" 0 vn vn vn vn none vn vn
def o490 : Obj := ob_co [(vs "marks_from" 830), (vs "Table.marks_from" 831), (vs "/claim/cut.py" 832), (vi 221 0), (vi 2 0), (vi 0 0), (vi 0 0), (vi 3 0), (vr 485), (.bool true), (vi 181 0), (vr 486), vn, (vr 487), (vr 488), (vr 489), (vi 844 0), (vi 221 0), (vs "/claim/cut.py" 845)]
def o491 : Obj := ob_fu (vt "function") (inClass (topS 29) 1) "marks_from" "Table.marks_from" 3 vn vn vn (vs "readround.tables" 795) none (vr 490) vn
def o492 : Obj := ob_tu []
def o493 : Obj := ob_fi vn []
def o494 : Obj := ob_tu [(vs "self" 850), (vs "day" 851)]
def o495 : Obj := ob_tu []
def o496 : Obj := ob_fu vn (inClass (topS 29) 2) "mark_at" "Table.mark_at" 0 vn vn vn vn none vn vn
def o497 : Obj := ob_co [(vs "mark_at" 847), (vs "Table.mark_at" 848), (vs "/claim/cut.py" 849), (vi 236 0), (vi 2 0), (vi 0 0), (vi 0 0), (vi 3 0), (vr 492), (.bool true), (vi 181 0), (vr 493), vn, (vr 494), (vr 495), (vr 496), (vi 852 0), (vi 236 0), (vs "/claim/cut.py" 853)]
def o498 : Obj := ob_fu (vt "function") (inClass (topS 29) 2) "mark_at" "Table.mark_at" 3 vn vn vn (vs "readround.tables" 795) none (vr 497) vn
def o499 : Obj := ob_tu []
def o500 : Obj := ob_fi vn []
def o501 : Obj := ob_tu [(vs "self" 858), (vs "number" 859)]
def o502 : Obj := ob_tu []
def o503 : Obj := ob_fu vn (inClass (topS 29) 3) "day_of" "Table.day_of" 0 vn vn vn vn none vn vn
def o504 : Obj := ob_co [(vs "day_of" 855), (vs "Table.day_of" 856), (vs "/claim/cut.py" 857), (vi 239 0), (vi 2 0), (vi 0 0), (vi 0 0), (vi 3 0), (vr 499), (.bool true), (vi 181 0), (vr 500), vn, (vr 501), (vr 502), (vr 503), (vi 860 0), (vi 239 0), (vs "/claim/cut.py" 861)]
def o505 : Obj := ob_fu (vt "function") (inClass (topS 29) 3) "day_of" "Table.day_of" 3 vn vn vn (vs "readround.tables" 795) none (vr 504) vn
def o506 : Obj := ob_tu []
def o507 : Obj := ob_fi vn []
def o508 : Obj := ob_tu [(vs "self" 866), (vs "turns" 867), (vs "place" 868), (vs "target" 869)]
def o509 : Obj := ob_tu []
def o510 : Obj := ob_fu vn (inClass (topS 29) 4) "low_in" "Table.low_in" 0 vn vn vn vn none vn vn
def o511 : Obj := ob_co [(vs "low_in" 863), (vs "Table.low_in" 864), (vs "/claim/cut.py" 865), (vi 242 0), (vi 4 0), (vi 0 0), (vi 0 0), (vi 3 0), (vr 506), (.bool true), (vi 181 0), (vr 507), vn, (vr 508), (vr 509), (vr 510), (vi 870 0), (vi 242 0), (vs "/claim/cut.py" 871)]
def o512 : Obj := ob_fu (vt "function") (inClass (topS 29) 4) "low_in" "Table.low_in" 3 vn vn vn (vs "readround.tables" 795) none (vr 511) vn
def o513 : Obj := ob_tu []
def o514 : Obj := ob_fi vn []
def o515 : Obj := ob_tu [(vs "self" 876), (vs "found" 877), (vs "chart" 878), (vs "marks" 879), (vs "start" 880), (vs "end" 881), (vs "sort" 882), (vs "feast" 883), (vs "mark" 884)]
def o516 : Obj := ob_tu []
def o517 : Obj := ob_fu vn (inClass (topS 29) 5) "least" "Table.least" 0 vn vn vn vn none vn vn
def o518 : Obj := ob_co [(vs "least" 873), (vs "Table.least" 874), (vs "/claim/cut.py" 875), (vi 245 0), (vi 1 0), (vi 0 0), (vi 0 0), (vi 3 0), (vr 513), (.bool true), (vi 181 0), (vr 514), vn, (vr 515), (vr 516), (vr 517), (vi 885 0), (vi 245 0), (vs "/claim/cut.py" 886)]
def o519 : Obj := ob_fu (vt "function") (inClass (topS 29) 5) "least" "Table.least" 3 vn vn vn (vs "readround.tables" 795) none (vr 518) vn
def o520 : Obj := ob_tu []
def o521 : Obj := ob_fi vn []
def o522 : Obj := ob_tu [(vs "self" 891), (vs "day" 892), (vs "target" 893)]
def o523 : Obj := ob_tu []
def o524 : Obj := ob_fu vn (inClass (topS 29) 6) "low_from" "Table.low_from" 0 vn vn vn vn none vn vn
def o525 : Obj := ob_co [(vs "low_from" 888), (vs "Table.low_from" 889), (vs "/claim/cut.py" 890), (vi 253 0), (vi 3 0), (vi 0 0), (vi 0 0), (vi 3 0), (vr 520), (.bool true), (vi 181 0), (vr 521), vn, (vr 522), (vr 523), (vr 524), (vi 894 0), (vi 253 0), (vs "/claim/cut.py" 895)]
def o526 : Obj := ob_fu (vt "function") (inClass (topS 29) 6) "low_from" "Table.low_from" 3 vn vn vn (vs "readround.tables" 795) none (vr 525) vn
def o527 : Obj := ob_tu [(vs "charts" 897), (vs "early" 898), (vs "later" 899), (vs "line" 900), (vs "turn_drift" 901), (vs "turn_due" 902), (vs "wheel" 903)]
def o528 (P : Params) : Obj := ob_di [en P "__module__" 813 (vs "readround.tables" 795), en P "__firstlineno__" 817 (vi 209 816), en P "__init__" 829 (vr 484), en P "marks_from" 846 (vr 491), en P "mark_at" 854 (vr 498), en P "day_of" 862 (vr 505), en P "low_in" 872 (vr 512), en P "least" 887 (vr 519), en P "low_from" 896 (vr 526), en P "__static_attributes__" 904 (vr 527), en P "__dict__" 906 (vr 530), en P "__weakref__" 908 (vr 531), en P "__doc__" 909 vn] 4
def o529 : Obj := ⟨(vt "type"), none, .cls (ClassData.mk (Str.ofString "Table") [(vt "object")] [(vr 529), (vt "object")] 528 (Str.ofString "Table") true [] [] false none false), #[none, none, some (vs "Table" 806), some (vs "Table" 814), some (vb "object.__new__"), some (.bool true)]⟩
def o530 : Obj := ob_fi (vt "getset_descriptor") [(vs "__dict__" 905), (vr 529), (vb "function.__dict__"), (vb "function.__dict__#set")]
def o531 : Obj := ob_fi (vt "getset_descriptor") [(vs "__weakref__" 907), (vr 529), (vb "ExceptionGroup.__weakref__"), vn]
def o532 : Obj := ob_fi (vt "super") [(vr 529), (vr 529), (vr 529)]
def o533 : Obj := ob_fi (vt "builtin_function_or_method") [(vb "object.__init_subclass__"), (vr 529)]
def o534 : Obj := ob_tu []
def o535 : Obj := ob_fi vn []
def o536 : Obj := ob_tu [(vs "names" 917)]
def o537 : Obj := ob_tu []
def o538 : Obj := ob_fu vn (topS 31) "are_unlike" "are_unlike" 0 vn vn vn vn none vn vn
def o539 : Obj := ob_co [(vs "are_unlike" 914), (vs "are_unlike" 915), (vs "/claim/cut.py" 916), (vi 256 0), (vi 1 0), (vi 0 0), (vi 0 0), (vi 3 0), (vr 534), (.bool true), (vi 181 0), (vr 535), vn, (vr 536), (vr 537), (vr 538), (vi 918 0), (vi 256 0), (vs "/claim/cut.py" 919)]
def o540 : Obj := ob_fu (vt "function") (topS 31) "are_unlike" "are_unlike" 3 vn vn vn (vs "readround.houses" 912) none (vr 539) vn
def o541 : Obj := ob_tu []
def o542 : Obj := ob_fi vn []
def o543 : Obj := ob_fu vn (topS 32) "is_house" "is_house" 0 vn vn vn vn none vn vn
def o544 : Obj := ob_co [(vs "is_house" 921), (vs "is_house" 922), (vs "/claim/cut.py" 923), (vi 258 0), (vi 3 0), (vi 0 0), (vi 0 0), (vi 3 0), (vr 541), (.bool true), (vi 181 0), (vr 542), vn, vn, vn, (vr 543), (vi 924 0), (vi 258 0), (vs "/claim/cut.py" 925)]
def o545 : Obj := ob_fu (vt "function") (topS 32) "is_house" "is_house" 3 vn vn vn (vs "readround.houses" 912) none (vr 544) vn
def o546 : Obj := ob_tu []
def o547 : Obj := ob_fi vn []
def o548 : Obj := ob_tu [(vs "spans" 930), (vs "place" 931), (vs "wanted" 932), (vs "start" 933), (vs "end" 934), (vs "sort" 935), (vs "feast" 936)]
def o549 : Obj := ob_tu []
def o550 : Obj := ob_fu vn (topS 33) "sort_at" "sort_at" 0 vn vn vn vn none vn vn
def o551 : Obj := ob_co [(vs "sort_at" 927), (vs "sort_at" 928), (vs "/claim/cut.py" 929), (vi 276 0), (vi 2 0), (vi 0 0), (vi 0 0), (vi 3 0), (vr 546), (.bool true), (vi 181 0), (vr 547), vn, (vr 548), (vr 549), (vr 550), (vi 937 0), (vi 276 0), (vs "/claim/cut.py" 938)]
def o552 : Obj := ob_fu (vt "function") (topS 33) "sort_at" "sort_at" 3 vn vn vn (vs "readround.houses" 912) none (vr 551) vn
def o553 : Obj := ob_tu []
def o554 : Obj := ob_fi vn []
def o555 : Obj := ob_fu vn (topS 34) "year_chart" "year_chart" 0 vn vn vn vn none vn vn
def o556 : Obj := ob_co [(vs "year_chart" 940), (vs "year_chart" 941), (vs "/claim/cut.py" 942), (vi 282 0), (vi 4 0), (vi 0 0), (vi 0 0), (vi 3 0), (vr 553), (.bool true), (vi 181 0), (vr 554), vn, vn, vn, (vr 555), (vi 943 0), (vi 282 0), (vs "/claim/cut.py" 944)]
def o557 : Obj := ob_fu (vt "function") (topS 34) "year_chart" "year_chart" 3 vn vn vn (vs "readround.houses" 912) none (vr 556) vn
def o558 : Obj := ob_tu []
def o559 : Obj := ob_fi (vt "builtin_function_or_method") [(vb "type.__prepare__"), (vt "type")]
def o560 (P : Params) : Obj := ob_di [en P "__module__" 953 (vs "readround.houses" 912), en P "__qualname__" 955 (vs "House" 954), en P "__firstlineno__" 957 (vi 294 956), en P "__init__" 963 (vr 569), en P "calendar" 970 (vr 576), en P "feasts" 977 (vr 583), en P "rows" 984 (vr 590), en P "row" 993 (vr 597), en P "chart" 1003 (vr 604), en P "sums" 1009 (vr 609), en P "sort_on" 1018 (vr 616), en P "__static_attributes__" 1024 (vr 617)] 12
def o561 : Obj := ob_tu []
def o562 : Obj := ob_fi vn [(vi 296 0), (vi 4 0), (vr 568), (vi 314 0), (vi 4 0), (vr 575), (vi 317 0), (vi 4 0), (vr 582), (vi 320 0), (vi 4 0), (vr 589), (vi 323 0), (vi 4 0), (vr 596), (vi 329 0), (vi 4 0), (vr 603), (vi 333 0), (vi 4 0), (vr 608), (vi 341 0), (vi 4 0), (vr 615)]
def o563 : Obj := ob_co [(vs "House" 948), (vs "House" 949), (vs "/claim/cut.py" 950), (vi 294 0), (vi 0 0), (vi 0 0), (vi 0 0), (vi 0 0), (vr 561), (.bool false), (vi 181 0), (vr 562), vn, vn, vn, vn, (vi 951 0), (vi 294 0), (vs "/claim/cut.py" 952)]
def o564 : Obj := ⟨(vt "frame"), none, .plain, #[some (vr 563), some (vr 3), some (vr 560), none, some (vs "readround.houses" 912), none, some (vr 0)]⟩
def o565 : Obj := ob_tu []
def o566 : Obj := ob_fi vn []
def o567 : Obj := ob_fu vn (inClass (topS 35) 0) "__init__" "House.__init__" 0 vn vn vn vn none vn vn
def o568 : Obj := ob_co [(vs "__init__" 958), (vs "House.__init__" 959), (vs "/claim/cut.py" 960), (vi 296 0), (vi 4 0), (vi 0 0), (vi 0 0), (vi 3 0), (vr 565), (.bool true), (vi 181 0), (vr 566), vn, vn, vn, (vr 567), (vi 961 0), (vi 296 0), (vs "/claim/cut.py" 962)]
def o569 : Obj := ob_fu (vt "function") (inClass (topS 35) 0) "__init__" "House.__init__" 3 vn vn vn (vs "readround.houses" 912) none (vr 568) vn
def o570 : Obj := ob_tu []
def o571 : Obj := ob_fi vn []
def o572 : Obj := ob_tu [(vs "self" 967)]
def o573 : Obj := ob_tu []
def o574 : Obj := ob_fu vn (inClass (topS 35) 1) "calendar" "House.calendar" 0 vn vn vn vn none vn vn
def o575 : Obj := ob_co [(vs "calendar" 964), (vs "House.calendar" 965), (vs "/claim/cut.py" 966), (vi 314 0), (vi 1 0), (vi 0 0), (vi 0 0), (vi 3 0), (vr 570), (.bool true), (vi 181 0), (vr 571), vn, (vr 572), (vr 573), (vr 574), (vi 968 0), (vi 314 0), (vs "/claim/cut.py" 969)]
def o576 : Obj := ob_fu (vt "function") (inClass (topS 35) 1) "calendar" "House.calendar" 3 vn vn vn (vs "readround.houses" 912) none (vr 575) vn
def o577 : Obj := ob_tu []
def o578 : Obj := ob_fi vn []
def o579 : Obj := ob_tu [(vs "self" 974)]
def o580 : Obj := ob_tu []
def o581 : Obj := ob_fu vn (inClass (topS 35) 2) "feasts" "House.feasts" 0 vn vn vn vn none vn vn
def o582 : Obj := ob_co [(vs "feasts" 971), (vs "House.feasts" 972), (vs "/claim/cut.py" 973), (vi 317 0), (vi 1 0), (vi 0 0), (vi 0 0), (vi 3 0), (vr 577), (.bool true), (vi 181 0), (vr 578), vn, (vr 579), (vr 580), (vr 581), (vi 975 0), (vi 317 0), (vs "/claim/cut.py" 976)]
def o583 : Obj := ob_fu (vt "function") (inClass (topS 35) 2) "feasts" "House.feasts" 3 vn vn vn (vs "readround.houses" 912) none (vr 582) vn
def o584 : Obj := ob_tu []
def o585 : Obj := ob_fi vn []
def o586 : Obj := ob_tu [(vs "self" 981)]
def o587 : Obj := ob_tu []
def o588 : Obj := ob_fu vn (inClass (topS 35) 3) "rows" "House.rows" 0 vn vn vn vn none vn vn
def o589 : Obj := ob_co [(vs "rows" 978), (vs "House.rows" 979), (vs "/claim/cut.py" 980), (vi 320 0), (vi 1 0), (vi 0 0), (vi 0 0), (vi 3 0), (vr 584), (.bool true), (vi 181 0), (vr 585), vn, (vr 586), (vr 587), (vr 588), (vi 982 0), (vi 320 0), (vs "/claim/cut.py" 983)]
def o590 : Obj := ob_fu (vt "function") (inClass (topS 35) 3) "rows" "House.rows" 3 vn vn vn (vs "readround.houses" 912) none (vr 589) vn
def o591 : Obj := ob_tu []
def o592 : Obj := ob_fi vn []
def o593 : Obj := ob_tu [(vs "self" 988), (vs "name" 989), (vs "line" 990)]
def o594 : Obj := ob_tu []
def o595 : Obj := ob_fu vn (inClass (topS 35) 4) "row" "House.row" 0 vn vn vn vn none vn vn
def o596 : Obj := ob_co [(vs "row" 985), (vs "House.row" 986), (vs "/claim/cut.py" 987), (vi 323 0), (vi 2 0), (vi 0 0), (vi 0 0), (vi 3 0), (vr 591), (.bool true), (vi 181 0), (vr 592), vn, (vr 593), (vr 594), (vr 595), (vi 991 0), (vi 323 0), (vs "/claim/cut.py" 992)]
def o597 : Obj := ob_fu (vt "function") (inClass (topS 35) 4) "row" "House.row" 3 vn vn vn (vs "readround.houses" 912) none (vr 596) vn
def o598 : Obj := ob_tu []
def o599 : Obj := ob_fi vn []
def o600 : Obj := ob_tu [(vs "self" 997), (vs "name" 998), (vs "year" 999), (vs "charts" 1000)]
def o601 : Obj := ob_tu []
def o602 : Obj := ob_fu vn (inClass (topS 35) 5) "chart" "House.chart" 0 vn vn vn vn none vn vn
def o603 : Obj := ob_co [(vs "chart" 994), (vs "House.chart" 995), (vs "/claim/cut.py" 996), (vi 329 0), (vi 3 0), (vi 0 0), (vi 0 0), (vi 3 0), (vr 598), (.bool true), (vi 181 0), (vr 599), vn, (vr 600), (vr 601), (vr 602), (vi 1001 0), (vi 329 0), (vs "/claim/cut.py" 1002)]
def o604 : Obj := ob_fu (vt "function") (inClass (topS 35) 5) "chart" "House.chart" 3 vn vn vn (vs "readround.houses" 912) none (vr 603) vn
def o605 : Obj := ob_tu []
def o606 : Obj := ob_fi vn []
def o607 : Obj := ob_fu vn (inClass (topS 35) 6) "sums" "House.sums" 0 vn vn vn vn none vn vn
def o608 : Obj := ob_co [(vs "sums" 1004), (vs "House.sums" 1005), (vs "/claim/cut.py" 1006), (vi 333 0), (vi 2 0), (vi 0 0), (vi 0 0), (vi 3 0), (vr 605), (.bool true), (vi 181 0), (vr 606), vn, vn, vn, (vr 607), (vi 1007 0), (vi 333 0), (vs "/claim/cut.py" 1008)]
def o609 : Obj := ob_fu (vt "function") (inClass (topS 35) 6) "sums" "House.sums" 3 vn vn vn (vs "readround.houses" 912) none (vr 608) vn
def o610 : Obj := ob_tu []
def o611 : Obj := ob_fi vn []
def o612 : Obj := ob_tu [(vs "self" 1013), (vs "name" 1014), (vs "day" 1015)]
def o613 : Obj := ob_tu []
def o614 : Obj := ob_fu vn (inClass (topS 35) 7) "sort_on" "House.sort_on" 0 vn vn vn vn none vn vn
def o615 : Obj := ob_co [(vs "sort_on" 1010), (vs "House.sort_on" 1011), (vs "/claim/cut.py" 1012), (vi 341 0), (vi 3 0), (vi 0 0), (vi 0 0), (vi 3 0), (vr 610), (.bool true), (vi 181 0), (vr 611), vn, (vr 612), (vr 613), (vr 614), (vi 1016 0), (vi 341 0), (vs "/claim/cut.py" 1017)]
def o616 : Obj := ob_fu (vt "function") (inClass (topS 35) 7) "sort_on" "House.sort_on" 3 vn vn vn (vs "readround.houses" 912) none (vr 615) vn
def o617 : Obj := ob_tu [(vs "charts" 1019), (vs "kept" 1020), (vs "lines" 1021), (vs "tables" 1022), (vs "wheel" 1023)]
def o618 (P : Params) : Obj := ob_di [en P "__module__" 953 (vs "readround.houses" 912), en P "__firstlineno__" 957 (vi 294 956), en P "__init__" 963 (vr 569), en P "calendar" 970 (vr 576), en P "feasts" 977 (vr 583), en P "rows" 984 (vr 590), en P "row" 993 (vr 597), en P "chart" 1003 (vr 604), en P "sums" 1009 (vr 609), en P "sort_on" 1018 (vr 616), en P "__static_attributes__" 1024 (vr 617), en P "__dict__" 1026 (vr 620), en P "__weakref__" 1028 (vr 621), en P "__doc__" 1029 vn] 4
def o619 : Obj := ⟨(vt "type"), none, .cls (ClassData.mk (Str.ofString "House") [(vt "object")] [(vr 619), (vt "object")] 618 (Str.ofString "House") true [] [] false none false), #[none, none, some (vs "House" 946), some (vs "House" 954), some (vb "object.__new__"), some (.bool true)]⟩
def o620 : Obj := ob_fi (vt "getset_descriptor") [(vs "__dict__" 1025), (vr 619), (vb "function.__dict__"), (vb "function.__dict__#set")]
def o621 : Obj := ob_fi (vt "getset_descriptor") [(vs "__weakref__" 1027), (vr 619), (vb "ExceptionGroup.__weakref__"), vn]
def o622 : Obj := ob_fi (vt "super") [(vr 619), (vr 619), (vr 619)]
def o623 : Obj := ob_fi (vt "builtin_function_or_method") [(vb "object.__init_subclass__"), (vr 619)]
def o3_3 (P : Params) : Obj := ob_di [en P "__name__" 165 (vs "law_readround_k75_house_texts" 1046), en P "__doc__" 166 vn, en P "__package__" 167 vn, en P "__loader__" 168 (vb "__main__.__loader__#opaque"), en P "__spec__" 169 vn, en P "__annotations__" 170 (vr 6), en P "__builtins__" 171 (vr 4), en P "__file__" 173 (vs "/claim/cut.py" 172), en P "__cached__" 174 vn, en P "_wall" 193 (vr 21), en P "ReadError" 213 (vr 31), en P "BadCalendar" 229 (vr 44), en P "BadFeast" 245 (vr 56), en P "BadRow" 261 (vr 68), en P "BadHouse" 277 (vr 80), en P "NoDay" 293 (vr 92), en P "NoRow" 309 (vr 104), en P "NeverDone" 338 (vr 123), en P "LETTERS" 342 (vs "abcdefghijklmnopqrstuvwxyz" 341), en P "is_number" 351 (vr 132), en P "is_name" 357 (vr 137), en P "are_numbers" 363 (vr 142), en P "need_day" 372 (vr 149), en P "Calendar" 451 (vr 206), en P "good_years" 459 (vr 215), en P "is_put" 466 (vr 222), en P "good_puts" 472 (vr 227), en P "Feast" 584 (vr 301), en P "Row" 665 (vr 357), en P "Going" 719 (vr 400), en P "Yearly" 794 (vr 461), en P "drift_of" 805 (vr 470), en P "Table" 911 (vr 529), en P "are_unlike" 920 (vr 540), en P "is_house" 926 (vr 545), en P "sort_at" 939 (vr 552), en P "year_chart" 945 (vr 557), en P "House" 1031 (vr 619), en P "feast_text" 1039 (vr 628), en P "house_text" 1045 (vr 633), en P "_law_draw" 1058 (vr 640), en P "_law_lengths" 1064 (vr 645), en P "_law_name" 1070 (vr 650), en P "_law_names" 1076 (vr 655), en P "_law_feast" 1082 (vr 660), en P "_law_line" 1088 (vr 665), en P "_law_parts" 1094 (vr 670), en P "_law_texts" 1100 (vr 675), en P "_law_feast_made" 1107 (vr 682), en P "_law_line_made" 1114 (vr 689), en P "law" 1120 (vr 694)] 51
def o12_4 : Obj := ob_fi vn [(vi 1 0), (vi 0 0), (vr 20), (vi 5 0), (vi 0 0), (vr 27), (vi 7 0), (vi 0 0), (vr 40), (vi 9 0), (vi 0 0), (vr 52), (vi 11 0), (vi 0 0), (vr 64), (vi 13 0), (vi 0 0), (vr 76), (vi 15 0), (vi 0 0), (vr 88), (vi 17 0), (vi 0 0), (vr 100), (vi 19 0), (vi 0 0), (vr 112), (vi 28 0), (vi 0 0), (vr 131), (vi 30 0), (vi 0 0), (vr 136), (vi 34 0), (vi 0 0), (vr 141), (vi 39 0), (vi 0 0), (vr 148), (vi 42 0), (vi 0 0), (vr 155), (vi 78 0), (vi 0 0), (vr 214), (vi 82 0), (vi 0 0), (vr 221), (vi 84 0), (vi 0 0), (vr 226), (vi 90 0), (vi 0 0), (vr 233), (vi 136 0), (vi 0 0), (vr 311), (vi 166 0), (vi 0 0), (vr 367), (vi 182 0), (vi 0 0), (vr 408), (vi 205 0), (vi 0 0), (vr 469), (vi 209 0), (vi 0 0), (vr 476), (vi 256 0), (vi 0 0), (vr 539), (vi 258 0), (vi 0 0), (vr 544), (vi 276 0), (vi 0 0), (vr 551), (vi 282 0), (vi 0 0), (vr 556), (vi 294 0), (vi 0 0), (vr 563), (vi 344 0), (vi 0 0), (vr 627), (vi 351 0), (vi 0 0), (vr 632), (vi 356 0), (vi 0 0), (vr 639), (vi 366 0), (vi 0 0), (vr 644), (vi 372 0), (vi 0 0), (vr 649), (vi 379 0), (vi 0 0), (vr 654), (vi 387 0), (vi 0 0), (vr 659), (vi 400 0), (vi 0 0), (vr 664), (vi 411 0), (vi 0 0), (vr 669), (vi 418 0), (vi 0 0), (vr 674), (vi 425 0), (vi 0 0), (vr 681), (vi 427 0), (vi 0 0), (vr 688), (vi 431 0), (vi 0 0), (vr 693)]
def o624 : Obj := ob_tu []
def o625 : Obj := ob_fi vn []
def o626 : Obj := ob_fu vn (topS 37) "feast_text" "feast_text" 0 vn vn vn vn none vn vn
def o627 : Obj := ob_co [(vs "feast_text" 1034), (vs "feast_text" 1035), (vs "/claim/cut.py" 1036), (vi 344 0), (vi 1 0), (vi 0 0), (vi 0 0), (vi 3 0), (vr 624), (.bool true), (vi 181 0), (vr 625), vn, vn, vn, (vr 626), (vi 1037 0), (vi 344 0), (vs "/claim/cut.py" 1038)]
def o628 : Obj := ob_fu (vt "function") (topS 37) "feast_text" "feast_text" 3 vn vn vn (vs "readround.texts" 1032) none (vr 627) vn
def o629 : Obj := ob_tu []
def o630 : Obj := ob_fi vn []
def o631 : Obj := ob_fu vn (topS 38) "house_text" "house_text" 0 vn vn vn vn none vn vn
def o632 : Obj := ob_co [(vs "house_text" 1040), (vs "house_text" 1041), (vs "/claim/cut.py" 1042), (vi 351 0), (vi 1 0), (vi 0 0), (vi 0 0), (vi 3 0), (vr 629), (.bool true), (vi 181 0), (vr 630), vn, vn, vn, (vr 631), (vi 1043 0), (vi 351 0), (vs "/claim/cut.py" 1044)]
def o633 : Obj := ob_fu (vt "function") (topS 38) "house_text" "house_text" 3 vn vn vn (vs "readround.texts" 1032) none (vr 632) vn
def o634 : Obj := ob_tu []
def o635 : Obj := ob_fi vn []
def o636 : Obj := ob_tu [(vs "_law_hold" 1051), (vs "_law_many" 1052), (vs "_law_spot" 1053), (vs "_law_cell" 1054), (vs "_law_mark" 1055)]
def o637 : Obj := ob_tu []
def o638 : Obj := ob_fu vn (topS 40) "_law_draw" "_law_draw" 0 vn vn vn vn none vn vn
def o639 : Obj := ob_co [(vs "_law_draw" 1048), (vs "_law_draw" 1049), (vs "/claim/cut.py" 1050), (vi 356 0), (vi 2 0), (vi 0 0), (vi 0 0), (vi 3 0), (vr 634), (.bool true), (vi 181 0), (vr 635), vn, (vr 636), (vr 637), (vr 638), (vi 1056 0), (vi 356 0), (vs "/claim/cut.py" 1057)]
def o640 : Obj := ob_fu (vt "function") (topS 40) "_law_draw" "_law_draw" 3 vn vn vn (vs "law_readround_k75_house_texts" 1046) none (vr 639) vn
def o641 : Obj := ob_tu []
def o642 : Obj := ob_fi vn []
def o643 : Obj := ob_fu vn (topS 41) "_law_lengths" "_law_lengths" 0 vn vn vn vn none vn vn
def o644 : Obj := ob_co [(vs "_law_lengths" 1059), (vs "_law_lengths" 1060), (vs "/claim/cut.py" 1061), (vi 366 0), (vi 3 0), (vi 0 0), (vi 0 0), (vi 3 0), (vr 641), (.bool true), (vi 181 0), (vr 642), vn, vn, vn, (vr 643), (vi 1062 0), (vi 366 0), (vs "/claim/cut.py" 1063)]
def o645 : Obj := ob_fu (vt "function") (topS 41) "_law_lengths" "_law_lengths" 3 vn vn vn (vs "law_readround_k75_house_texts" 1046) none (vr 644) vn
def o646 : Obj := ob_tu []
def o647 : Obj := ob_fi vn []
def o648 : Obj := ob_fu vn (topS 42) "_law_name" "_law_name" 0 vn vn vn vn none vn vn
def o649 : Obj := ob_co [(vs "_law_name" 1065), (vs "_law_name" 1066), (vs "/claim/cut.py" 1067), (vi 372 0), (vi 1 0), (vi 0 0), (vi 0 0), (vi 3 0), (vr 646), (.bool true), (vi 181 0), (vr 647), vn, vn, vn, (vr 648), (vi 1068 0), (vi 372 0), (vs "/claim/cut.py" 1069)]
def o650 : Obj := ob_fu (vt "function") (topS 42) "_law_name" "_law_name" 3 vn vn vn (vs "law_readround_k75_house_texts" 1046) none (vr 649) vn
def o651 : Obj := ob_tu []
def o652 : Obj := ob_fi vn []
def o653 : Obj := ob_fu vn (topS 43) "_law_names" "_law_names" 0 vn vn vn vn none vn vn
def o654 : Obj := ob_co [(vs "_law_names" 1071), (vs "_law_names" 1072), (vs "/claim/cut.py" 1073), (vi 379 0), (vi 2 0), (vi 0 0), (vi 0 0), (vi 3 0), (vr 651), (.bool true), (vi 181 0), (vr 652), vn, vn, vn, (vr 653), (vi 1074 0), (vi 379 0), (vs "/claim/cut.py" 1075)]
def o655 : Obj := ob_fu (vt "function") (topS 43) "_law_names" "_law_names" 3 vn vn vn (vs "law_readround_k75_house_texts" 1046) none (vr 654) vn
def o656 : Obj := ob_tu []
def o657 : Obj := ob_fi vn []
def o658 : Obj := ob_fu vn (topS 44) "_law_feast" "_law_feast" 0 vn vn vn vn none vn vn
def o659 : Obj := ob_co [(vs "_law_feast" 1077), (vs "_law_feast" 1078), (vs "/claim/cut.py" 1079), (vi 387 0), (vi 4 0), (vi 0 0), (vi 0 0), (vi 3 0), (vr 656), (.bool true), (vi 181 0), (vr 657), vn, vn, vn, (vr 658), (vi 1080 0), (vi 387 0), (vs "/claim/cut.py" 1081)]
def o660 : Obj := ob_fu (vt "function") (topS 44) "_law_feast" "_law_feast" 3 vn vn vn (vs "law_readround_k75_house_texts" 1046) none (vr 659) vn
def o661 : Obj := ob_tu []
def o662 : Obj := ob_fi vn []
def o663 : Obj := ob_fu vn (topS 45) "_law_line" "_law_line" 0 vn vn vn vn none vn vn
def o664 : Obj := ob_co [(vs "_law_line" 1083), (vs "_law_line" 1084), (vs "/claim/cut.py" 1085), (vi 400 0), (vi 4 0), (vi 0 0), (vi 0 0), (vi 3 0), (vr 661), (.bool true), (vi 181 0), (vr 662), vn, vn, vn, (vr 663), (vi 1086 0), (vi 400 0), (vs "/claim/cut.py" 1087)]
def o665 : Obj := ob_fu (vt "function") (topS 45) "_law_line" "_law_line" 3 vn vn vn (vs "law_readround_k75_house_texts" 1046) none (vr 664) vn
def o666 : Obj := ob_tu []
def o667 : Obj := ob_fi vn []
def o668 : Obj := ob_fu vn (topS 46) "_law_parts" "_law_parts" 0 vn vn vn vn none vn vn
def o669 : Obj := ob_co [(vs "_law_parts" 1089), (vs "_law_parts" 1090), (vs "/claim/cut.py" 1091), (vi 411 0), (vi 1 0), (vi 0 0), (vi 0 0), (vi 3 0), (vr 666), (.bool true), (vi 181 0), (vr 667), vn, vn, vn, (vr 668), (vi 1092 0), (vi 411 0), (vs "/claim/cut.py" 1093)]
def o670 : Obj := ob_fu (vt "function") (topS 46) "_law_parts" "_law_parts" 3 vn vn vn (vs "law_readround_k75_house_texts" 1046) none (vr 669) vn
def o671 : Obj := ob_tu []
def o672 : Obj := ob_fi vn []
def o673 : Obj := ob_fu vn (topS 47) "_law_texts" "_law_texts" 0 vn vn vn vn none vn vn
def o674 : Obj := ob_co [(vs "_law_texts" 1095), (vs "_law_texts" 1096), (vs "/claim/cut.py" 1097), (vi 418 0), (vi 1 0), (vi 0 0), (vi 0 0), (vi 3 0), (vr 671), (.bool true), (vi 181 0), (vr 672), vn, vn, vn, (vr 673), (vi 1098 0), (vi 418 0), (vs "/claim/cut.py" 1099)]
def o675 : Obj := ob_fu (vt "function") (topS 47) "_law_texts" "_law_texts" 3 vn vn vn (vs "law_readround_k75_house_texts" 1046) none (vr 674) vn
def o676 : Obj := ob_tu []
def o677 : Obj := ob_fi vn []
def o678 : Obj := ob_tu [(vs "_law_some" 1104)]
def o679 : Obj := ob_tu []
def o680 : Obj := ob_fu vn (topS 48) "_law_feast_made" "_law_feast_made" 0 vn vn vn vn none vn vn
def o681 : Obj := ob_co [(vs "_law_feast_made" 1101), (vs "_law_feast_made" 1102), (vs "/claim/cut.py" 1103), (vi 425 0), (vi 1 0), (vi 0 0), (vi 0 0), (vi 3 0), (vr 676), (.bool true), (vi 181 0), (vr 677), vn, (vr 678), (vr 679), (vr 680), (vi 1105 0), (vi 425 0), (vs "/claim/cut.py" 1106)]
def o682 : Obj := ob_fu (vt "function") (topS 48) "_law_feast_made" "_law_feast_made" 3 vn vn vn (vs "law_readround_k75_house_texts" 1046) none (vr 681) vn
def o683 : Obj := ob_tu []
def o684 : Obj := ob_fi vn []
def o685 : Obj := ob_tu [(vs "_law_line_here" 1111)]
def o686 : Obj := ob_tu []
def o687 : Obj := ob_fu vn (topS 49) "_law_line_made" "_law_line_made" 0 vn vn vn vn none vn vn
def o688 : Obj := ob_co [(vs "_law_line_made" 1108), (vs "_law_line_made" 1109), (vs "/claim/cut.py" 1110), (vi 427 0), (vi 1 0), (vi 0 0), (vi 0 0), (vi 3 0), (vr 683), (.bool true), (vi 181 0), (vr 684), vn, (vr 685), (vr 686), (vr 687), (vi 1112 0), (vi 427 0), (vs "/claim/cut.py" 1113)]
def o689 : Obj := ob_fu (vt "function") (topS 49) "_law_line_made" "_law_line_made" 3 vn vn vn (vs "law_readround_k75_house_texts" 1046) none (vr 688) vn
def o690 : Obj := ob_tu []
def o691 : Obj := ob_fi vn []
def o692 : Obj := ob_fu vn (topS 50) "law" "law" 0 vn vn vn vn none vn vn
def o693 : Obj := ob_co [(vs "law" 1115), (vs "law" 1116), (vs "/claim/cut.py" 1117), (vi 431 0), (vi 1 0), (vi 0 0), (vi 0 0), (vi 3 0), (vr 690), (.bool true), (vi 181 0), (vr 691), vn, vn, vn, (vr 692), (vi 1118 0), (vi 431 0), (vs "/claim/cut.py" 1119)]
def o694 : Obj := ob_fu (vt "function") (topS 50) "law" "law" 3 vn vn vn (vs "law_readround_k75_house_texts" 1046) none (vr 693) vn
def TB (P : Params) : BT := (bn (boot_o_0 P) (bn (boot_o_1 P) (bn (boot_o_3 P) (bn (boot_o_7 P) bz bz) bz) (bn (boot_o_5 P) (bn (boot_o_9 P) bz bz) bz)) (bn (boot_o_2 P) (bn (boot_o_4 P) (bn (boot_o_8 P) bz bz) bz) (bn (boot_o_6 P) (bn (boot_o_10 P) bz bz) bz)))
def T0 (P : Params) : BT := (bn (boot_o_0 P) (bn (boot_o_1 P) (bn (boot_o_3 P) (bn (boot_o_7 P) bz bz) (bn o11 bz bz)) (bn (boot_o_5 P) (bn (boot_o_9 P) bz bz) (bn o13 bz bz))) (bn (boot_o_2 P) (bn (boot_o_4 P) (bn (boot_o_8 P) bz bz) (bn o12 bz bz)) (bn (boot_o_6 P) (bn (boot_o_10 P) bz bz) (bn o14 bz bz))))
abbrev T1 : Params → BT := T0
def T2 (P : Params) : BT := (bn (boot_o_0 P) (bn (boot_o_1 P) (bn (o3 P) (bn (boot_o_7 P) (bn o15 (bn o31 (bn o63 bz bz) (bn o95 bz bz)) (bn o47 (bn (o79 P) bz bz) bz)) (bn o23 (bn o39 (bn o71 bz bz) (bn (o103 P) bz bz)) (bn (o55 P) (bn o87 bz bz) bz))) (bn o11 (bn o19 (bn o35 (bn (o67 P) bz bz) (bn o99 bz bz)) (bn o51 (bn o83 bz bz) bz)) (bn o27 (bn (o43 P) (bn o75 bz bz) bz) (bn o59 (bn (o91 P) bz bz) bz)))) (bn (boot_o_5 P) (bn (boot_o_9 P) (bn o17 (bn o33 (bn o65 bz bz) (bn (o97 P) bz bz)) (bn (o49 P) (bn o81 bz bz) bz)) (bn o25 (bn o41 (bn (o73 P) bz bz) (bn o105 bz bz)) (bn o57 (bn o89 bz bz) bz))) (bn o13 (bn o21 (bn (o37 P) (bn o69 bz bz) (bn o101 bz bz)) (bn o53 (bn (o85 P) bz bz) bz)) (bn o29 (bn o45 (bn o77 bz bz) bz) (bn (o61 P) (bn o93 bz bz) bz))))) (bn (boot_o_2 P) (bn (boot_o_4 P) (bn (boot_o_8 P) (bn o16 (bn o32 (bn o64 bz bz) (bn o96 bz bz)) (bn o48 (bn o80 bz bz) bz)) (bn (o24 P) (bn o40 (bn o72 bz bz) (bn o104 bz bz)) (bn o56 (bn o88 bz bz) bz))) (bn o12_1 (bn o20 (bn o36 (bn o68 bz bz) (bn o100 bz bz)) (bn o52 (bn o84 bz bz) bz)) (bn o28 (bn o44 (bn o76 bz bz) bz) (bn o60 (bn o92 bz bz) bz)))) (bn (boot_o_6 P) (bn (boot_o_10 P) (bn o18 (bn o34 (bn o66 bz bz) (bn o98 bz bz)) (bn o50 (bn o82 bz bz) bz)) (bn o26 (bn o42 (bn o74 bz bz) (bn o106 bz bz)) (bn o58 (bn o90 bz bz) bz))) (bn o14 (bn o22 (bn o38 (bn o70 bz bz) (bn o102 bz bz)) (bn o54 (bn o86 bz bz) bz)) (bn (o30 P) (bn o46 (bn o78 bz bz) bz) (bn o62 (bn o94 bz bz) bz))))))
def T3 (P : Params) : BT := (bn (boot_o_0 P) (bn (boot_o_1 P) (bn (o3_1 P) (bn (boot_o_7 P) (bn o15 (bn o31_1 (bn o63 (bn o127 (bn o255 bz bz) bz) (bn o191 (bn o319 bz bz) bz)) (bn o95 (bn o159 (bn o287 bz bz) bz) (bn o223 (bn o351 bz bz) bz))) (bn o47 (bn (o79 P) (bn o143 (bn o271 bz bz) bz) (bn o207 (bn o335 bz bz) bz)) (bn o111 (bn o175 (bn o303 bz bz) bz) (bn o239 bz bz)))) (bn o23 (bn o39 (bn o71 (bn o135 (bn o263 bz bz) bz) (bn o199 (bn o327 bz bz) bz)) (bn (o103 P) (bn o167 (bn o295 bz bz) bz) (bn o231 (bn o359 bz bz) bz))) (bn (o55 P) (bn o87 (bn o151 (bn o279 bz bz) bz) (bn o215 (bn o343 bz bz) bz)) (bn o119 (bn o183 (bn o311 bz bz) bz) (bn o247 bz bz))))) (bn o11 (bn o19 (bn o35 (bn (o67 P) (bn o131 (bn o259 bz bz) bz) (bn o195 (bn o323 bz bz) bz)) (bn o99 (bn o163 (bn o291 bz bz) bz) (bn o227 (bn o355 bz bz) bz))) (bn o51 (bn o83 (bn o147 (bn o275 bz bz) bz) (bn o211 (bn o339 bz bz) bz)) (bn o115 (bn o179 (bn o307 bz bz) bz) (bn o243 bz bz)))) (bn o27 (bn (o43 P) (bn o75 (bn o139 (bn o267 bz bz) bz) (bn o203 (bn o331 bz bz) bz)) (bn o107 (bn o171 (bn o299 bz bz) bz) (bn o235 bz bz))) (bn o59 (bn (o91 P) (bn o155 (bn o283 bz bz) bz) (bn o219 (bn o347 bz bz) bz)) (bn o123 (bn o187 (bn o315 bz bz) bz) (bn o251 bz bz)))))) (bn (boot_o_5 P) (bn (boot_o_9 P) (bn o17 (bn o33 (bn o65 (bn o129 (bn o257 bz bz) bz) (bn o193 (bn o321 bz bz) bz)) (bn (o97 P) (bn o161 (bn o289 bz bz) bz) (bn o225 (bn o353 bz bz) bz))) (bn (o49 P) (bn o81 (bn o145 (bn o273 bz bz) bz) (bn o209 (bn o337 bz bz) bz)) (bn o113 (bn o177 (bn o305 bz bz) bz) (bn o241 bz bz)))) (bn o25 (bn o41 (bn (o73 P) (bn o137 (bn o265 bz bz) bz) (bn o201 (bn o329 bz bz) bz)) (bn o105 (bn o169 (bn o297 bz bz) bz) (bn o233 (bn o361 bz bz) bz))) (bn o57 (bn o89 (bn o153 (bn o281 bz bz) bz) (bn o217 (bn o345 bz bz) bz)) (bn o121 (bn o185 (bn o313 bz bz) bz) (bn o249 bz bz))))) (bn o13 (bn o21 (bn (o37 P) (bn o69 (bn o133 (bn o261 bz bz) bz) (bn o197 (bn o325 bz bz) bz)) (bn o101 (bn o165 (bn o293 bz bz) bz) (bn o229 (bn o357 bz bz) bz))) (bn o53 (bn (o85 P) (bn o149 (bn o277 bz bz) bz) (bn o213 (bn o341 bz bz) bz)) (bn o117 (bn o181 (bn o309 bz bz) bz) (bn o245 bz bz)))) (bn o29 (bn o45 (bn o77 (bn o141 (bn o269 bz bz) bz) (bn (o205 P) (bn o333 bz bz) bz)) (bn (o109 P) (bn o173 (bn o301 bz bz) bz) (bn o237 bz bz))) (bn (o61 P) (bn o93 (bn o157 (bn o285 bz bz) bz) (bn o221 (bn o349 bz bz) bz)) (bn o125 (bn o189 (bn o317 bz bz) bz) (bn o253 bz bz))))))) (bn (boot_o_2 P) (bn (boot_o_4 P) (bn (boot_o_8 P) (bn o16 (bn o32 (bn o64 (bn o128 (bn o256 bz bz) bz) (bn o192 (bn o320 bz bz) bz)) (bn o96 (bn o160 (bn o288 bz bz) bz) (bn o224 (bn o352 bz bz) bz))) (bn o48 (bn o80 (bn o144 (bn o272 bz bz) bz) (bn o208 (bn o336 bz bz) bz)) (bn o112 (bn o176 (bn o304 bz bz) bz) (bn o240 bz bz)))) (bn (o24 P) (bn o40 (bn o72 (bn o136 (bn o264 bz bz) bz) (bn o200 (bn o328 bz bz) bz)) (bn o104 (bn o168 (bn o296 bz bz) bz) (bn o232 (bn o360 bz bz) bz))) (bn o56 (bn o88 (bn (o152 P) (bn o280 bz bz) bz) (bn o216 (bn o344 bz bz) bz)) (bn o120 (bn o184 (bn o312 bz bz) bz) (bn o248 bz bz))))) (bn o12_2 (bn o20 (bn o36 (bn o68 (bn o132 (bn o260 bz bz) bz) (bn o196 (bn o324 bz bz) bz)) (bn o100 (bn o164 (bn o292 bz bz) bz) (bn o228 (bn (o356 P) bz bz) bz))) (bn o52 (bn o84 (bn o148 (bn o276 bz bz) bz) (bn o212 (bn o340 bz bz) bz)) (bn o116 (bn o180 (bn (o308 P) bz bz) bz) (bn o244 bz bz)))) (bn o28 (bn o44 (bn o76 (bn o140 (bn o268 bz bz) bz) (bn o204 (bn o332 bz bz) bz)) (bn o108 (bn o172 (bn (o300 P) bz bz) bz) (bn o236 bz bz))) (bn o60 (bn o92 (bn o156 (bn o284 bz bz) bz) (bn o220 (bn o348 bz bz) bz)) (bn o124 (bn o188 (bn o316 bz bz) bz) (bn o252 bz bz)))))) (bn (boot_o_6 P) (bn (boot_o_10 P) (bn o18 (bn o34 (bn o66 (bn o130 (bn o258 bz bz) bz) (bn o194 (bn o322 bz bz) bz)) (bn o98 (bn o162 (bn o290 bz bz) bz) (bn o226 (bn o354 bz bz) bz))) (bn o50 (bn o82 (bn o146 (bn o274 bz bz) bz) (bn o210 (bn o338 bz bz) bz)) (bn o114 (bn o178 (bn o306 bz bz) bz) (bn o242 bz bz)))) (bn o26 (bn o42 (bn o74 (bn o138 (bn o266 bz bz) bz) (bn o202 (bn o330 bz bz) bz)) (bn o106 (bn o170 (bn o298 bz bz) bz) (bn o234 bz bz))) (bn o58 (bn o90 (bn o154 (bn o282 bz bz) bz) (bn o218 (bn o346 bz bz) bz)) (bn (o122 P) (bn o186 (bn o314 bz bz) bz) (bn o250 bz bz))))) (bn o14 (bn o22 (bn o38 (bn o70 (bn o134 (bn o262 bz bz) bz) (bn o198 (bn o326 bz bz) bz)) (bn o102 (bn o166 (bn o294 bz bz) bz) (bn (o230 P) (bn o358 bz bz) bz))) (bn o54 (bn o86 (bn o150 (bn o278 bz bz) bz) (bn o214 (bn o342 bz bz) bz)) (bn o118 (bn o182 (bn o310 bz bz) bz) (bn o246 bz bz)))) (bn (o30 P) (bn o46 (bn o78 (bn o142 (bn o270 bz bz) bz) (bn o206 (bn o334 bz bz) bz)) (bn o110 (bn o174 (bn o302 bz bz) bz) (bn o238 bz bz))) (bn o62 (bn o94 (bn o158 (bn o286 bz bz) bz) (bn o222 (bn o350 bz bz) bz)) (bn o126 (bn o190 (bn o318 bz bz) bz) (bn o254 bz bz))))))))
def T4 (P : Params) : BT := (bn (boot_o_0 P) (bn (boot_o_1 P) (bn (o3_2 P) (bn (boot_o_7 P) (bn o15 (bn o31_1 (bn o63 (bn o127 (bn o255 (bn o511 bz bz) bz) (bn o383 bz bz)) (bn o191 (bn o319 (bn o575 bz bz) bz) (bn o447 bz bz))) (bn o95 (bn o159 (bn o287 (bn o543 bz bz) bz) (bn o415 bz bz)) (bn o223 (bn o351 (bn o607 bz bz) bz) (bn o479 bz bz)))) (bn o47 (bn (o79 P) (bn o143 (bn o271 (bn o527 bz bz) bz) (bn (o399 P) bz bz)) (bn o207 (bn o335 (bn o591 bz bz) bz) (bn o463 bz bz))) (bn o111 (bn o175 (bn o303 (bn o559 bz bz) bz) (bn o431 bz bz)) (bn o239 (bn o367 (bn o623 bz bz) bz) (bn o495 bz bz))))) (bn o23 (bn o39 (bn o71 (bn o135 (bn o263 (bn o519 bz bz) bz) (bn o391 bz bz)) (bn o199 (bn o327 (bn o583 bz bz) bz) (bn o455 bz bz))) (bn (o103 P) (bn o167 (bn o295 (bn o551 bz bz) bz) (bn o423 bz bz)) (bn o231 (bn o359 (bn o615 bz bz) bz) (bn o487 bz bz)))) (bn (o55 P) (bn o87 (bn o151 (bn o279 (bn o535 bz bz) bz) (bn o407 bz bz)) (bn o215 (bn o343 (bn o599 bz bz) bz) (bn o471 bz bz))) (bn o119 (bn o183 (bn o311 (bn o567 bz bz) bz) (bn o439 bz bz)) (bn o247 (bn o375 bz bz) (bn o503 bz bz)))))) (bn o11 (bn o19 (bn o35 (bn (o67 P) (bn o131 (bn o259 (bn o515 bz bz) bz) (bn o387 bz bz)) (bn o195 (bn o323 (bn o579 bz bz) bz) (bn o451 bz bz))) (bn o99 (bn o163 (bn o291 (bn o547 bz bz) bz) (bn o419 bz bz)) (bn o227 (bn o355 (bn o611 bz bz) bz) (bn o483 bz bz)))) (bn o51 (bn o83 (bn o147 (bn o275 (bn o531 bz bz) bz) (bn o403 bz bz)) (bn o211 (bn o339 (bn o595 bz bz) bz) (bn o467 bz bz))) (bn o115 (bn o179 (bn o307 (bn o563 bz bz) bz) (bn o435 bz bz)) (bn o243 (bn o371 bz bz) (bn o499 bz bz))))) (bn o27 (bn (o43 P) (bn o75 (bn o139 (bn o267 (bn o523 bz bz) bz) (bn o395 bz bz)) (bn o203 (bn o331 (bn o587 bz bz) bz) (bn o459 bz bz))) (bn o107 (bn o171 (bn o299 (bn o555 bz bz) bz) (bn o427 bz bz)) (bn o235 (bn o363 (bn o619 bz bz) bz) (bn o491 bz bz)))) (bn o59 (bn (o91 P) (bn o155 (bn o283 (bn o539 bz bz) bz) (bn o411 bz bz)) (bn o219 (bn o347 (bn o603 bz bz) bz) (bn o475 bz bz))) (bn o123 (bn o187 (bn o315 (bn o571 bz bz) bz) (bn o443 bz bz)) (bn o251 (bn o379 bz bz) (bn o507 bz bz))))))) (bn (boot_o_5 P) (bn (boot_o_9 P) (bn o17 (bn o33 (bn o65 (bn o129 (bn o257 (bn o513 bz bz) bz) (bn o385 bz bz)) (bn o193 (bn o321 (bn o577 bz bz) bz) (bn o449 bz bz))) (bn (o97 P) (bn o161 (bn o289 (bn o545 bz bz) bz) (bn o417 bz bz)) (bn o225 (bn o353 (bn o609 bz bz) bz) (bn o481 bz bz)))) (bn (o49 P) (bn o81 (bn o145 (bn o273 (bn o529 bz bz) bz) (bn o401 bz bz)) (bn o209 (bn o337 (bn o593 bz bz) bz) (bn o465 bz bz))) (bn o113 (bn o177 (bn o305 (bn o561 bz bz) bz) (bn o433 bz bz)) (bn o241 (bn o369 bz bz) (bn o497 bz bz))))) (bn o25 (bn o41 (bn (o73 P) (bn o137 (bn o265 (bn o521 bz bz) bz) (bn o393 bz bz)) (bn o201 (bn o329 (bn o585 bz bz) bz) (bn o457 bz bz))) (bn o105 (bn o169 (bn o297 (bn o553 bz bz) bz) (bn o425 bz bz)) (bn o233 (bn o361 (bn o617 bz bz) bz) (bn o489 bz bz)))) (bn o57 (bn o89 (bn o153 (bn o281 (bn o537 bz bz) bz) (bn o409 bz bz)) (bn o217 (bn o345 (bn o601 bz bz) bz) (bn (o473 P) bz bz))) (bn o121 (bn o185 (bn o313 (bn o569 bz bz) bz) (bn o441 bz bz)) (bn o249 (bn o377 bz bz) (bn o505 bz bz)))))) (bn o13 (bn o21 (bn (o37 P) (bn o69 (bn o133 (bn o261 (bn o517 bz bz) bz) (bn o389 bz bz)) (bn o197 (bn o325 (bn o581 bz bz) bz) (bn o453 bz bz))) (bn o101 (bn o165 (bn o293 (bn o549 bz bz) bz) (bn o421 bz bz)) (bn o229 (bn o357_1 (bn o613 bz bz) bz) (bn o485 bz bz)))) (bn o53 (bn (o85 P) (bn o149 (bn o277 (bn o533 bz bz) bz) (bn (o405 P) bz bz)) (bn o213 (bn o341 (bn o597 bz bz) bz) (bn o469 bz bz))) (bn o117 (bn o181 (bn o309 (bn o565 bz bz) bz) (bn o437 bz bz)) (bn o245 (bn o373 bz bz) (bn o501 bz bz))))) (bn o29 (bn o45 (bn o77 (bn o141 (bn o269 (bn o525 bz bz) bz) (bn o397 bz bz)) (bn (o205 P) (bn o333 (bn o589 bz bz) bz) (bn o461 bz bz))) (bn (o109 P) (bn o173 (bn o301 (bn o557 bz bz) bz) (bn o429 bz bz)) (bn o237 (bn o365 (bn o621 bz bz) bz) (bn o493 bz bz)))) (bn (o61 P) (bn o93 (bn o157 (bn o285 (bn o541 bz bz) bz) (bn o413 bz bz)) (bn o221 (bn o349 (bn o605 bz bz) bz) (bn o477 bz bz))) (bn o125 (bn o189 (bn o317 (bn o573 bz bz) bz) (bn o445 bz bz)) (bn o253 (bn o381 bz bz) (bn o509 bz bz)))))))) (bn (boot_o_2 P) (bn (boot_o_4 P) (bn (boot_o_8 P) (bn o16 (bn o32 (bn o64 (bn o128 (bn o256 (bn o512 bz bz) bz) (bn o384 bz bz)) (bn o192 (bn o320 (bn o576 bz bz) bz) (bn o448 bz bz))) (bn o96 (bn o160 (bn o288 (bn o544 bz bz) bz) (bn o416 bz bz)) (bn o224 (bn o352 (bn o608 bz bz) bz) (bn o480 bz bz)))) (bn o48 (bn o80 (bn o144 (bn o272 (bn (o528 P) bz bz) bz) (bn o400 bz bz)) (bn o208 (bn o336 (bn o592 bz bz) bz) (bn o464 bz bz))) (bn o112 (bn o176 (bn o304 (bn (o560 P) bz bz) bz) (bn o432 bz bz)) (bn o240 (bn o368 bz bz) (bn o496 bz bz))))) (bn (o24 P) (bn o40 (bn o72 (bn o136 (bn o264 (bn o520 bz bz) bz) (bn o392 bz bz)) (bn o200 (bn o328 (bn o584 bz bz) bz) (bn o456 bz bz))) (bn o104 (bn o168 (bn o296 (bn o552 bz bz) bz) (bn o424 bz bz)) (bn o232 (bn o360 (bn o616 bz bz) bz) (bn o488 bz bz)))) (bn o56 (bn o88 (bn (o152 P) (bn o280 (bn o536 bz bz) bz) (bn o408 bz bz)) (bn o216 (bn o344 (bn o600 bz bz) bz) (bn o472 bz bz))) (bn o120 (bn o184 (bn o312 (bn o568 bz bz) bz) (bn o440 bz bz)) (bn o248 (bn o376 bz bz) (bn o504 bz bz)))))) (bn o12_3 (bn o20 (bn o36 (bn o68 (bn o132 (bn o260 (bn o516 bz bz) bz) (bn o388 bz bz)) (bn o196 (bn o324 (bn o580 bz bz) bz) (bn o452 bz bz))) (bn o100 (bn o164 (bn o292 (bn o548 bz bz) bz) (bn o420 bz bz)) (bn o228 (bn (o356 P) (bn o612 bz bz) bz) (bn o484 bz bz)))) (bn o52 (bn o84 (bn o148 (bn o276 (bn o532 bz bz) bz) (bn o404 bz bz)) (bn o212 (bn o340 (bn o596 bz bz) bz) (bn o468 bz bz))) (bn o116 (bn o180 (bn (o308 P) (bn o564 bz bz) bz) (bn o436 bz bz)) (bn o244 (bn o372 bz bz) (bn o500 bz bz))))) (bn o28 (bn o44 (bn o76 (bn o140 (bn o268 (bn o524 bz bz) bz) (bn o396 bz bz)) (bn o204 (bn o332 (bn o588 bz bz) bz) (bn (o460 P) bz bz))) (bn o108 (bn o172 (bn (o300 P) (bn o556 bz bz) bz) (bn o428 bz bz)) (bn o236 (bn (o364 P) (bn o620 bz bz) bz) (bn o492 bz bz)))) (bn o60 (bn o92 (bn o156 (bn o284 (bn o540 bz bz) bz) (bn o412 bz bz)) (bn o220 (bn o348 (bn o604 bz bz) bz) (bn o476 bz bz))) (bn o124 (bn o188 (bn o316 (bn o572 bz bz) bz) (bn o444 bz bz)) (bn o252 (bn o380 bz bz) (bn o508 bz bz))))))) (bn (boot_o_6 P) (bn (boot_o_10 P) (bn o18 (bn o34 (bn o66 (bn o130 (bn o258 (bn o514 bz bz) bz) (bn o386 bz bz)) (bn o194 (bn o322 (bn o578 bz bz) bz) (bn o450 bz bz))) (bn o98 (bn o162 (bn o290 (bn o546 bz bz) bz) (bn o418 bz bz)) (bn o226 (bn o354 (bn o610 bz bz) bz) (bn o482 bz bz)))) (bn o50 (bn o82 (bn o146 (bn o274 (bn o530 bz bz) bz) (bn o402 bz bz)) (bn o210 (bn o338 (bn o594 bz bz) bz) (bn o466 bz bz))) (bn o114 (bn o178 (bn o306 (bn o562 bz bz) bz) (bn o434 bz bz)) (bn o242 (bn o370 bz bz) (bn o498 bz bz))))) (bn o26 (bn o42 (bn o74 (bn o138 (bn o266 (bn o522 bz bz) bz) (bn o394 bz bz)) (bn o202 (bn o330 (bn o586 bz bz) bz) (bn o458 bz bz))) (bn o106 (bn o170 (bn o298 (bn o554 bz bz) bz) (bn o426 bz bz)) (bn o234 (bn o362 (bn (o618 P) bz bz) bz) (bn o490 bz bz)))) (bn o58 (bn o90 (bn o154 (bn o282 (bn o538 bz bz) bz) (bn o410 bz bz)) (bn o218 (bn o346 (bn o602 bz bz) bz) (bn o474 bz bz))) (bn (o122 P) (bn o186 (bn o314 (bn o570 bz bz) bz) (bn o442 bz bz)) (bn o250 (bn o378 bz bz) (bn o506 bz bz)))))) (bn o14 (bn o22 (bn o38 (bn o70 (bn o134 (bn o262 (bn o518 bz bz) bz) (bn o390 bz bz)) (bn o198 (bn o326 (bn o582 bz bz) bz) (bn o454 bz bz))) (bn o102 (bn o166 (bn o294 (bn o550 bz bz) bz) (bn o422 bz bz)) (bn (o230 P) (bn o358 (bn o614 bz bz) bz) (bn o486 bz bz)))) (bn o54 (bn o86 (bn o150 (bn o278 (bn o534 bz bz) bz) (bn o406 bz bz)) (bn o214 (bn o342 (bn o598 bz bz) bz) (bn o470 bz bz))) (bn o118 (bn o182 (bn o310 (bn o566 bz bz) bz) (bn o438 bz bz)) (bn o246 (bn o374 bz bz) (bn o502 bz bz))))) (bn (o30 P) (bn o46 (bn o78 (bn o142 (bn o270 (bn o526 bz bz) bz) (bn o398 bz bz)) (bn o206 (bn o334 (bn o590 bz bz) bz) (bn o462 bz bz))) (bn o110 (bn o174 (bn o302 (bn o558 bz bz) bz) (bn o430 bz bz)) (bn o238 (bn o366 (bn o622 bz bz) bz) (bn o494 bz bz)))) (bn o62 (bn o94 (bn o158 (bn o286 (bn o542 bz bz) bz) (bn o414 bz bz)) (bn o222 (bn o350 (bn o606 bz bz) bz) (bn o478 bz bz))) (bn o126 (bn o190 (bn o318 (bn o574 bz bz) bz) (bn o446 bz bz)) (bn o254 (bn o382 bz bz) (bn o510 bz bz)))))))))
def T5 (P : Params) : BT := (bn (boot_o_0 P) (bn (boot_o_1 P) (bn (o3_3 P) (bn (boot_o_7 P) (bn o15 (bn o31_1 (bn o63 (bn o127 (bn o255 (bn o511 bz bz) bz) (bn o383 (bn o639 bz bz) bz)) (bn o191 (bn o319 (bn o575 bz bz) bz) (bn o447 bz bz))) (bn o95 (bn o159 (bn o287 (bn o543 bz bz) bz) (bn o415 (bn o671 bz bz) bz)) (bn o223 (bn o351 (bn o607 bz bz) bz) (bn o479 bz bz)))) (bn o47 (bn (o79 P) (bn o143 (bn o271 (bn o527 bz bz) bz) (bn (o399 P) (bn o655 bz bz) bz)) (bn o207 (bn o335 (bn o591 bz bz) bz) (bn o463 bz bz))) (bn o111 (bn o175 (bn o303 (bn o559 bz bz) bz) (bn o431 (bn o687 bz bz) bz)) (bn o239 (bn o367 (bn o623 bz bz) bz) (bn o495 bz bz))))) (bn o23 (bn o39 (bn o71 (bn o135 (bn o263 (bn o519 bz bz) bz) (bn o391 (bn o647 bz bz) bz)) (bn o199 (bn o327 (bn o583 bz bz) bz) (bn o455 bz bz))) (bn (o103 P) (bn o167 (bn o295 (bn o551 bz bz) bz) (bn o423 (bn o679 bz bz) bz)) (bn o231 (bn o359 (bn o615 bz bz) bz) (bn o487 bz bz)))) (bn (o55 P) (bn o87 (bn o151 (bn o279 (bn o535 bz bz) bz) (bn o407 (bn o663 bz bz) bz)) (bn o215 (bn o343 (bn o599 bz bz) bz) (bn o471 bz bz))) (bn o119 (bn o183 (bn o311 (bn o567 bz bz) bz) (bn o439 bz bz)) (bn o247 (bn o375 (bn o631 bz bz) bz) (bn o503 bz bz)))))) (bn o11 (bn o19 (bn o35 (bn (o67 P) (bn o131 (bn o259 (bn o515 bz bz) bz) (bn o387 (bn o643 bz bz) bz)) (bn o195 (bn o323 (bn o579 bz bz) bz) (bn o451 bz bz))) (bn o99 (bn o163 (bn o291 (bn o547 bz bz) bz) (bn o419 (bn o675 bz bz) bz)) (bn o227 (bn o355 (bn o611 bz bz) bz) (bn o483 bz bz)))) (bn o51 (bn o83 (bn o147 (bn o275 (bn o531 bz bz) bz) (bn o403 (bn o659 bz bz) bz)) (bn o211 (bn o339 (bn o595 bz bz) bz) (bn o467 bz bz))) (bn o115 (bn o179 (bn o307 (bn o563 bz bz) bz) (bn o435 (bn o691 bz bz) bz)) (bn o243 (bn o371 (bn o627 bz bz) bz) (bn o499 bz bz))))) (bn o27 (bn (o43 P) (bn o75 (bn o139 (bn o267 (bn o523 bz bz) bz) (bn o395 (bn o651 bz bz) bz)) (bn o203 (bn o331 (bn o587 bz bz) bz) (bn o459 bz bz))) (bn o107 (bn o171 (bn o299 (bn o555 bz bz) bz) (bn o427 (bn o683 bz bz) bz)) (bn o235 (bn o363 (bn o619 bz bz) bz) (bn o491 bz bz)))) (bn o59 (bn (o91 P) (bn o155 (bn o283 (bn o539 bz bz) bz) (bn o411 (bn o667 bz bz) bz)) (bn o219 (bn o347 (bn o603 bz bz) bz) (bn o475 bz bz))) (bn o123 (bn o187 (bn o315 (bn o571 bz bz) bz) (bn o443 bz bz)) (bn o251 (bn o379 (bn o635 bz bz) bz) (bn o507 bz bz))))))) (bn (boot_o_5 P) (bn (boot_o_9 P) (bn o17 (bn o33 (bn o65 (bn o129 (bn o257 (bn o513 bz bz) bz) (bn o385 (bn o641 bz bz) bz)) (bn o193 (bn o321 (bn o577 bz bz) bz) (bn o449 bz bz))) (bn (o97 P) (bn o161 (bn o289 (bn o545 bz bz) bz) (bn o417 (bn o673 bz bz) bz)) (bn o225 (bn o353 (bn o609 bz bz) bz) (bn o481 bz bz)))) (bn (o49 P) (bn o81 (bn o145 (bn o273 (bn o529 bz bz) bz) (bn o401 (bn o657 bz bz) bz)) (bn o209 (bn o337 (bn o593 bz bz) bz) (bn o465 bz bz))) (bn o113 (bn o177 (bn o305 (bn o561 bz bz) bz) (bn o433 (bn o689 bz bz) bz)) (bn o241 (bn o369 (bn o625 bz bz) bz) (bn o497 bz bz))))) (bn o25 (bn o41 (bn (o73 P) (bn o137 (bn o265 (bn o521 bz bz) bz) (bn o393 (bn o649 bz bz) bz)) (bn o201 (bn o329 (bn o585 bz bz) bz) (bn o457 bz bz))) (bn o105 (bn o169 (bn o297 (bn o553 bz bz) bz) (bn o425 (bn o681 bz bz) bz)) (bn o233 (bn o361 (bn o617 bz bz) bz) (bn o489 bz bz)))) (bn o57 (bn o89 (bn o153 (bn o281 (bn o537 bz bz) bz) (bn o409 (bn o665 bz bz) bz)) (bn o217 (bn o345 (bn o601 bz bz) bz) (bn (o473 P) bz bz))) (bn o121 (bn o185 (bn o313 (bn o569 bz bz) bz) (bn o441 bz bz)) (bn o249 (bn o377 (bn o633 bz bz) bz) (bn o505 bz bz)))))) (bn o13 (bn o21 (bn (o37 P) (bn o69 (bn o133 (bn o261 (bn o517 bz bz) bz) (bn o389 (bn o645 bz bz) bz)) (bn o197 (bn o325 (bn o581 bz bz) bz) (bn o453 bz bz))) (bn o101 (bn o165 (bn o293 (bn o549 bz bz) bz) (bn o421 (bn o677 bz bz) bz)) (bn o229 (bn o357_1 (bn o613 bz bz) bz) (bn o485 bz bz)))) (bn o53 (bn (o85 P) (bn o149 (bn o277 (bn o533 bz bz) bz) (bn (o405 P) (bn o661 bz bz) bz)) (bn o213 (bn o341 (bn o597 bz bz) bz) (bn o469 bz bz))) (bn o117 (bn o181 (bn o309 (bn o565 bz bz) bz) (bn o437 (bn o693 bz bz) bz)) (bn o245 (bn o373 (bn o629 bz bz) bz) (bn o501 bz bz))))) (bn o29 (bn o45 (bn o77 (bn o141 (bn o269 (bn o525 bz bz) bz) (bn o397 (bn o653 bz bz) bz)) (bn (o205 P) (bn o333 (bn o589 bz bz) bz) (bn o461 bz bz))) (bn (o109 P) (bn o173 (bn o301 (bn o557 bz bz) bz) (bn o429 (bn o685 bz bz) bz)) (bn o237 (bn o365 (bn o621 bz bz) bz) (bn o493 bz bz)))) (bn (o61 P) (bn o93 (bn o157 (bn o285 (bn o541 bz bz) bz) (bn o413 (bn o669 bz bz) bz)) (bn o221 (bn o349 (bn o605 bz bz) bz) (bn o477 bz bz))) (bn o125 (bn o189 (bn o317 (bn o573 bz bz) bz) (bn o445 bz bz)) (bn o253 (bn o381 (bn o637 bz bz) bz) (bn o509 bz bz)))))))) (bn (boot_o_2 P) (bn (boot_o_4 P) (bn (boot_o_8 P) (bn o16 (bn o32 (bn o64 (bn o128 (bn o256 (bn o512 bz bz) bz) (bn o384 (bn o640 bz bz) bz)) (bn o192 (bn o320 (bn o576 bz bz) bz) (bn o448 bz bz))) (bn o96 (bn o160 (bn o288 (bn o544 bz bz) bz) (bn o416 (bn o672 bz bz) bz)) (bn o224 (bn o352 (bn o608 bz bz) bz) (bn o480 bz bz)))) (bn o48 (bn o80 (bn o144 (bn o272 (bn (o528 P) bz bz) bz) (bn o400 (bn o656 bz bz) bz)) (bn o208 (bn o336 (bn o592 bz bz) bz) (bn o464 bz bz))) (bn o112 (bn o176 (bn o304 (bn (o560 P) bz bz) bz) (bn o432 (bn o688 bz bz) bz)) (bn o240 (bn o368 (bn o624 bz bz) bz) (bn o496 bz bz))))) (bn (o24 P) (bn o40 (bn o72 (bn o136 (bn o264 (bn o520 bz bz) bz) (bn o392 (bn o648 bz bz) bz)) (bn o200 (bn o328 (bn o584 bz bz) bz) (bn o456 bz bz))) (bn o104 (bn o168 (bn o296 (bn o552 bz bz) bz) (bn o424 (bn o680 bz bz) bz)) (bn o232 (bn o360 (bn o616 bz bz) bz) (bn o488 bz bz)))) (bn o56 (bn o88 (bn (o152 P) (bn o280 (bn o536 bz bz) bz) (bn o408 (bn o664 bz bz) bz)) (bn o216 (bn o344 (bn o600 bz bz) bz) (bn o472 bz bz))) (bn o120 (bn o184 (bn o312 (bn o568 bz bz) bz) (bn o440 bz bz)) (bn o248 (bn o376 (bn o632 bz bz) bz) (bn o504 bz bz)))))) (bn o12_4 (bn o20 (bn o36 (bn o68 (bn o132 (bn o260 (bn o516 bz bz) bz) (bn o388 (bn o644 bz bz) bz)) (bn o196 (bn o324 (bn o580 bz bz) bz) (bn o452 bz bz))) (bn o100 (bn o164 (bn o292 (bn o548 bz bz) bz) (bn o420 (bn o676 bz bz) bz)) (bn o228 (bn (o356 P) (bn o612 bz bz) bz) (bn o484 bz bz)))) (bn o52 (bn o84 (bn o148 (bn o276 (bn o532 bz bz) bz) (bn o404 (bn o660 bz bz) bz)) (bn o212 (bn o340 (bn o596 bz bz) bz) (bn o468 bz bz))) (bn o116 (bn o180 (bn (o308 P) (bn o564 bz bz) bz) (bn o436 (bn o692 bz bz) bz)) (bn o244 (bn o372 (bn o628 bz bz) bz) (bn o500 bz bz))))) (bn o28 (bn o44 (bn o76 (bn o140 (bn o268 (bn o524 bz bz) bz) (bn o396 (bn o652 bz bz) bz)) (bn o204 (bn o332 (bn o588 bz bz) bz) (bn (o460 P) bz bz))) (bn o108 (bn o172 (bn (o300 P) (bn o556 bz bz) bz) (bn o428 (bn o684 bz bz) bz)) (bn o236 (bn (o364 P) (bn o620 bz bz) bz) (bn o492 bz bz)))) (bn o60 (bn o92 (bn o156 (bn o284 (bn o540 bz bz) bz) (bn o412 (bn o668 bz bz) bz)) (bn o220 (bn o348 (bn o604 bz bz) bz) (bn o476 bz bz))) (bn o124 (bn o188 (bn o316 (bn o572 bz bz) bz) (bn o444 bz bz)) (bn o252 (bn o380 (bn o636 bz bz) bz) (bn o508 bz bz))))))) (bn (boot_o_6 P) (bn (boot_o_10 P) (bn o18 (bn o34 (bn o66 (bn o130 (bn o258 (bn o514 bz bz) bz) (bn o386 (bn o642 bz bz) bz)) (bn o194 (bn o322 (bn o578 bz bz) bz) (bn o450 bz bz))) (bn o98 (bn o162 (bn o290 (bn o546 bz bz) bz) (bn o418 (bn o674 bz bz) bz)) (bn o226 (bn o354 (bn o610 bz bz) bz) (bn o482 bz bz)))) (bn o50 (bn o82 (bn o146 (bn o274 (bn o530 bz bz) bz) (bn o402 (bn o658 bz bz) bz)) (bn o210 (bn o338 (bn o594 bz bz) bz) (bn o466 bz bz))) (bn o114 (bn o178 (bn o306 (bn o562 bz bz) bz) (bn o434 (bn o690 bz bz) bz)) (bn o242 (bn o370 (bn o626 bz bz) bz) (bn o498 bz bz))))) (bn o26 (bn o42 (bn o74 (bn o138 (bn o266 (bn o522 bz bz) bz) (bn o394 (bn o650 bz bz) bz)) (bn o202 (bn o330 (bn o586 bz bz) bz) (bn o458 bz bz))) (bn o106 (bn o170 (bn o298 (bn o554 bz bz) bz) (bn o426 (bn o682 bz bz) bz)) (bn o234 (bn o362 (bn (o618 P) bz bz) bz) (bn o490 bz bz)))) (bn o58 (bn o90 (bn o154 (bn o282 (bn o538 bz bz) bz) (bn o410 (bn o666 bz bz) bz)) (bn o218 (bn o346 (bn o602 bz bz) bz) (bn o474 bz bz))) (bn (o122 P) (bn o186 (bn o314 (bn o570 bz bz) bz) (bn o442 bz bz)) (bn o250 (bn o378 (bn o634 bz bz) bz) (bn o506 bz bz)))))) (bn o14 (bn o22 (bn o38 (bn o70 (bn o134 (bn o262 (bn o518 bz bz) bz) (bn o390 (bn o646 bz bz) bz)) (bn o198 (bn o326 (bn o582 bz bz) bz) (bn o454 bz bz))) (bn o102 (bn o166 (bn o294 (bn o550 bz bz) bz) (bn o422 (bn o678 bz bz) bz)) (bn (o230 P) (bn o358 (bn o614 bz bz) bz) (bn o486 bz bz)))) (bn o54 (bn o86 (bn o150 (bn o278 (bn o534 bz bz) bz) (bn o406 (bn o662 bz bz) bz)) (bn o214 (bn o342 (bn o598 bz bz) bz) (bn o470 bz bz))) (bn o118 (bn o182 (bn o310 (bn o566 bz bz) bz) (bn o438 (bn o694 bz bz) bz)) (bn o246 (bn o374 (bn o630 bz bz) bz) (bn o502 bz bz))))) (bn (o30 P) (bn o46 (bn o78 (bn o142 (bn o270 (bn o526 bz bz) bz) (bn o398 (bn o654 bz bz) bz)) (bn o206 (bn o334 (bn o590 bz bz) bz) (bn o462 bz bz))) (bn o110 (bn o174 (bn o302 (bn o558 bz bz) bz) (bn o430 (bn o686 bz bz) bz)) (bn o238 (bn o366 (bn o622 bz bz) bz) (bn o494 bz bz)))) (bn o62 (bn o94 (bn o158 (bn o286 (bn o542 bz bz) bz) (bn o414 (bn o670 bz bz) bz)) (bn o222 (bn o350 (bn o606 bz bz) bz) (bn o478 bz bz))) (bn o126 (bn o190 (bn o318 (bn o574 bz bz) bz) (bn o446 bz bz)) (bn o254 (bn o382 (bn o638 bz bz) bz) (bn o510 bz bz)))))))))
noncomputable abbrev S0 (w : World) (os : OsState) : SharedT := stA' T0 15 187 w os
noncomputable abbrev S1 (w : World) (os : OsState) : SharedT := stA' T1 15 187 w os
noncomputable abbrev S2 (w : World) (os : OsState) : SharedT := stA' T2 107 310 w os
noncomputable abbrev S3 (w : World) (os : OsState) : SharedT := stA' T3 362 666 w os
noncomputable abbrev S4 (w : World) (os : OsState) : SharedT := stA' T4 624 1032 w os
noncomputable abbrev S5 (w : World) (os : OsState) : SharedT := stA' T5 695 1121 w os
theorem cpB (w : World) : putAll (boot_heap w.params).objs.toList .nil 0 = some (TB w.params, 11) := by kernel_rfl
theorem cpP (w : World) (os : OsState) : stepsF (stQ R.prog w) 11 (bootAnn w) 12 (bootT w os (TB w.params, 11)) (topStub R.prog) = some (S0 w os, ⟨denQ tabQ (cdOf R.prog env0), cdOf R.prog env0, ⟨0, 0, 0, 0⟩, [topFrame ⟨0, 0, 0, 0⟩]⟩) := by kernel_rfl
theorem cpK (w : World) (os : OsState) : pieceF (stQ R.prog w) 11 (bootAnn w) 1 1 (S0 w os) (blockOf (behindTheImports R.prog) env0 (cdOf R.prog env0) ⟨0, 0, 0, 0⟩ [topFrame ⟨0, 0, 0, 0⟩]) = some (.next, S1 w os, cdOf R.prog env0, ⟨0, 0, 0, 0⟩) := by kernel_rfl
set_option maxHeartbeats 0 in
theorem cp1 (w : World) (os : OsState) : pieceF (stQ R.prog w) 11 (bootAnn w) 1 1503 (S1 w os) (piecesOf (((behindTheImports R.prog).drop 0).take 9) env0 (cdOf R.prog env0) ⟨0, 0, 0, 0⟩ [topFrame ⟨0, 0, 0, 0⟩]) = some (.next, S2 w os, cdOf R.prog env0, ⟨17, 0, 18, 8⟩) := by kernel_rfl
set_option maxHeartbeats 0 in
theorem cp2 (w : World) (os : OsState) : pieceF (stQ R.prog w) 11 (bootAnn w) 1 1802 (S2 w os) (piecesOf (((behindTheImports R.prog).drop 9).take 16) env0 (cdOf R.prog env0) ⟨17, 0, 18, 8⟩ [topFrame ⟨0, 0, 0, 0⟩]) = some (.next, S3 w os, cdOf R.prog env0, ⟨136, 0, 165, 16⟩) := by kernel_rfl
set_option maxHeartbeats 0 in
theorem cp3 (w : World) (os : OsState) : pieceF (stQ R.prog w) 11 (bootAnn w) 1 1848 (S3 w os) (piecesOf (((behindTheImports R.prog).drop 25).take 11) env0 (cdOf R.prog env0) ⟨136, 0, 165, 16⟩ [topFrame ⟨0, 0, 0, 0⟩]) = some (.next, S4 w os, cdOf R.prog env0, ⟨294, 0, 342, 17⟩) := by kernel_rfl
set_option maxHeartbeats 0 in
theorem cp4 (w : World) (os : OsState) : pieceF (stQ R.prog w) 11 (bootAnn w) 1 370 (S4 w os) (piecesOf (((behindTheImports R.prog).drop 36).take 15) env0 (cdOf R.prog env0) ⟨294, 0, 342, 17⟩ [topFrame ⟨0, 0, 0, 0⟩]) = some (.next, S5 w os, cdOf R.prog env0, ⟨431, 0, 446, 15⟩) := by kernel_rfl
theorem cpL (w : World) (os : OsState) : goF (stQ R.prog w) 11 (bootAnn w) 5 (S5 w os) ⟨doneF .next, cdOf R.prog env0, ⟨431, 0, 446, 15⟩, [topFrame ⟨0, 0, 0, 0⟩]⟩ = some (S5 w os) := by kernel_rfl
noncomputable abbrev SE (w : World) (os : OsState) : SharedT := S5 w os
set_option maxHeartbeats 0 in
theorem cpTop (w : World) (os : OsState) : topRun treeTable R.prog w (boot_heap w.params).objs.size (bootAnn w) 100000 ⟨boot_heap w.params, #[], boot_drawn, boot_toks, os⟩ (topStub R.prog) = some (SE w os).abs :=
  cp_mono (N := 5541) rfl (cp_boot (cpB w) (cp_pre (cpP w os) (cp_block (cpK w os) (cp_piece (cp1 w os) (cp_piece (cp2 w os) (cp_piece (cp3 w os) (cp_piece (cp4 w os) (cp_last (by kernel_rfl) (cpL w os)))))))))
end
abbrev s_law_draw : Stmt := topS 40
abbrev s_law_lengths : Stmt := topS 41
abbrev s_law_name : Stmt := topS 42
abbrev s_law_names : Stmt := topS 43
abbrev s_law_feast : Stmt := topS 44
abbrev s_law_line : Stmt := topS 45
abbrev s_law_parts : Stmt := topS 46
abbrev s_is_name : Stmt := topS 13
abbrev s_is_number : Stmt := topS 12
abbrev s_are_numbers : Stmt := topS 14
abbrev s_good_years : Stmt := topS 19
abbrev s_is_put : Stmt := topS 20
abbrev s_good_puts : Stmt := topS 21
abbrev s_Feast_init : Stmt := inClass (topS 22) 0
abbrev s_law_feast_made : Stmt := topS 48
abbrev s_Row_init : Stmt := inClass (topS 24) 0
abbrev s_Going_init : Stmt := inClass (topS 25) 0
abbrev s_Yearly_init : Stmt := inClass (topS 26) 0
abbrev s_law_line_made : Stmt := topS 49
abbrev s_are_unlike : Stmt := topS 31
abbrev s_Feast_told : Stmt := inClass (topS 22) 2
abbrev s_Calendar_years : Stmt := inClass (topS 17) 2
abbrev s_is_house : Stmt := topS 32
abbrev s_need_day : Stmt := topS 16
abbrev s_Calendar_first : Stmt := inClass (topS 17) 5
abbrev s_Calendar_long : Stmt := inClass (topS 17) 4
abbrev s_Feast_span : Stmt := inClass (topS 22) 4
abbrev s_sort_at : Stmt := topS 33
abbrev s_year_chart : Stmt := topS 34
abbrev s_Row_begins_anew : Stmt := inClass (topS 24) 2
abbrev s_Yearly_begins_anew : Stmt := inClass (topS 26) 2
abbrev s_Row_coming : Stmt := inClass (topS 24) 1
abbrev s_Yearly_coming : Stmt := inClass (topS 26) 1
abbrev s_Row_over : Stmt := inClass (topS 24) 4
abbrev s_drift_of : Stmt := topS 28
abbrev s_Table_marks_from : Stmt := inClass (topS 29) 1
abbrev s_Table_init : Stmt := inClass (topS 29) 0
abbrev s_House_row : Stmt := inClass (topS 35) 4
abbrev s_House_sums : Stmt := inClass (topS 35) 6
abbrev s_NeverDone_init : Stmt := inClass (topS 9) 0
abbrev s_House_init : Stmt := inClass (topS 35) 0
abbrev s_Calendar_init : Stmt := inClass (topS 17) 0
abbrev s_House_calendar : Stmt := inClass (topS 35) 1
abbrev s_House_feasts : Stmt := inClass (topS 35) 2
abbrev s_feast_text : Stmt := topS 37
abbrev s_House_rows : Stmt := inClass (topS 35) 3
abbrev s_Going_told : Stmt := inClass (topS 25) 2
abbrev s_Yearly_told : Stmt := inClass (topS 26) 5
abbrev s_house_text : Stmt := topS 38
abbrev s_law_texts : Stmt := topS 47
abbrev s_law : Stmt := topS 50
def dd_law_draw : He.DefD := ⟨("_law_draw", none), "_law_draw", "_law_draw", defArgs s_law_draw, defBody s_law_draw, defScope s_law_draw, [], []⟩
def dd_law_lengths : He.DefD := ⟨("_law_lengths", none), "_law_lengths", "_law_lengths", defArgs s_law_lengths, defBody s_law_lengths, defScope s_law_lengths, [], []⟩
def dd_law_name : He.DefD := ⟨("_law_name", none), "_law_name", "_law_name", defArgs s_law_name, defBody s_law_name, defScope s_law_name, [], []⟩
def dd_law_names : He.DefD := ⟨("_law_names", none), "_law_names", "_law_names", defArgs s_law_names, defBody s_law_names, defScope s_law_names, [], []⟩
def dd_law_feast : He.DefD := ⟨("_law_feast", none), "_law_feast", "_law_feast", defArgs s_law_feast, defBody s_law_feast, defScope s_law_feast, [], []⟩
def dd_law_line : He.DefD := ⟨("_law_line", none), "_law_line", "_law_line", defArgs s_law_line, defBody s_law_line, defScope s_law_line, [], []⟩
def dd_law_parts : He.DefD := ⟨("_law_parts", none), "_law_parts", "_law_parts", defArgs s_law_parts, defBody s_law_parts, defScope s_law_parts, [], []⟩
def dd_is_name : He.DefD := ⟨("is_name", none), "is_name", "is_name", defArgs s_is_name, defBody s_is_name, defScope s_is_name, [], []⟩
def dd_is_number : He.DefD := ⟨("is_number", none), "is_number", "is_number", defArgs s_is_number, defBody s_is_number, defScope s_is_number, [], []⟩
def dd_are_numbers : He.DefD := ⟨("are_numbers", none), "are_numbers", "are_numbers", defArgs s_are_numbers, defBody s_are_numbers, defScope s_are_numbers, [], []⟩
def dd_good_years : He.DefD := ⟨("good_years", none), "good_years", "good_years", defArgs s_good_years, defBody s_good_years, defScope s_good_years, [], []⟩
def dd_is_put : He.DefD := ⟨("is_put", none), "is_put", "is_put", defArgs s_is_put, defBody s_is_put, defScope s_is_put, [], []⟩
def dd_good_puts : He.DefD := ⟨("good_puts", none), "good_puts", "good_puts", defArgs s_good_puts, defBody s_good_puts, defScope s_good_puts, [], []⟩
def dd_Feast_init : He.DefD := ⟨("Feast", some "__init__"), "__init__", "Feast.__init__", defArgs s_Feast_init, defBody s_Feast_init, defScope s_Feast_init, [.int (1), .non, .non], []⟩
def dd_law_feast_made : He.DefD := ⟨("_law_feast_made", none), "_law_feast_made", "_law_feast_made", defArgs s_law_feast_made, defBody s_law_feast_made, defScope s_law_feast_made, [], []⟩
def dd_Row_init : He.DefD := ⟨("Row", some "__init__"), "__init__", "Row.__init__", defArgs s_Row_init, defBody s_Row_init, defScope s_Row_init, [], []⟩
def dd_Going_init : He.DefD := ⟨("Going", some "__init__"), "__init__", "Going.__init__", defArgs s_Going_init, defBody s_Going_init, defScope s_Going_init, [.int (0)], []⟩
def dd_Yearly_init : He.DefD := ⟨("Yearly", some "__init__"), "__init__", "Yearly.__init__", defArgs s_Yearly_init, defBody s_Yearly_init, defScope s_Yearly_init, [], []⟩
def dd_law_line_made : He.DefD := ⟨("_law_line_made", none), "_law_line_made", "_law_line_made", defArgs s_law_line_made, defBody s_law_line_made, defScope s_law_line_made, [], []⟩
def dd_are_unlike : He.DefD := ⟨("are_unlike", none), "are_unlike", "are_unlike", defArgs s_are_unlike, defBody s_are_unlike, defScope s_are_unlike, [], []⟩
def dd_Feast_told : He.DefD := ⟨("Feast", some "told"), "told", "Feast.told", defArgs s_Feast_told, defBody s_Feast_told, defScope s_Feast_told, [], []⟩
def dd_Calendar_years : He.DefD := ⟨("Calendar", some "years"), "years", "Calendar.years", defArgs s_Calendar_years, defBody s_Calendar_years, defScope s_Calendar_years, [], []⟩
def dd_is_house : He.DefD := ⟨("is_house", none), "is_house", "is_house", defArgs s_is_house, defBody s_is_house, defScope s_is_house, [], []⟩
def dd_need_day : He.DefD := ⟨("need_day", none), "need_day", "need_day", defArgs s_need_day, defBody s_need_day, defScope s_need_day, [], []⟩
def dd_Calendar_first : He.DefD := ⟨("Calendar", some "first"), "first", "Calendar.first", defArgs s_Calendar_first, defBody s_Calendar_first, defScope s_Calendar_first, [], []⟩
def dd_Calendar_long : He.DefD := ⟨("Calendar", some "long"), "long", "Calendar.long", defArgs s_Calendar_long, defBody s_Calendar_long, defScope s_Calendar_long, [], []⟩
def dd_Feast_span : He.DefD := ⟨("Feast", some "span"), "span", "Feast.span", defArgs s_Feast_span, defBody s_Feast_span, defScope s_Feast_span, [], []⟩
def dd_sort_at : He.DefD := ⟨("sort_at", none), "sort_at", "sort_at", defArgs s_sort_at, defBody s_sort_at, defScope s_sort_at, [], []⟩
def dd_year_chart : He.DefD := ⟨("year_chart", none), "year_chart", "year_chart", defArgs s_year_chart, defBody s_year_chart, defScope s_year_chart, [], []⟩
def dd_Row_begins_anew : He.DefD := ⟨("Row", some "begins_anew"), "begins_anew", "Row.begins_anew", defArgs s_Row_begins_anew, defBody s_Row_begins_anew, defScope s_Row_begins_anew, [], []⟩
def dd_Yearly_begins_anew : He.DefD := ⟨("Yearly", some "begins_anew"), "begins_anew", "Yearly.begins_anew", defArgs s_Yearly_begins_anew, defBody s_Yearly_begins_anew, defScope s_Yearly_begins_anew, [], []⟩
def dd_Row_coming : He.DefD := ⟨("Row", some "coming"), "coming", "Row.coming", defArgs s_Row_coming, defBody s_Row_coming, defScope s_Row_coming, [], []⟩
def dd_Yearly_coming : He.DefD := ⟨("Yearly", some "coming"), "coming", "Yearly.coming", defArgs s_Yearly_coming, defBody s_Yearly_coming, defScope s_Yearly_coming, [], []⟩
def dd_Row_over : He.DefD := ⟨("Row", some "over"), "over", "Row.over", defArgs s_Row_over, defBody s_Row_over, defScope s_Row_over, [], []⟩
def dd_drift_of : He.DefD := ⟨("drift_of", none), "drift_of", "drift_of", defArgs s_drift_of, defBody s_drift_of, defScope s_drift_of, [], []⟩
def dd_Table_marks_from : He.DefD := ⟨("Table", some "marks_from"), "marks_from", "Table.marks_from", defArgs s_Table_marks_from, defBody s_Table_marks_from, defScope s_Table_marks_from, [], []⟩
def dd_Table_init : He.DefD := ⟨("Table", some "__init__"), "__init__", "Table.__init__", defArgs s_Table_init, defBody s_Table_init, defScope s_Table_init, [], []⟩
def dd_House_row : He.DefD := ⟨("House", some "row"), "row", "House.row", defArgs s_House_row, defBody s_House_row, defScope s_House_row, [], []⟩
def dd_House_sums : He.DefD := ⟨("House", some "sums"), "sums", "House.sums", defArgs s_House_sums, defBody s_House_sums, defScope s_House_sums, [], []⟩
def dd_NeverDone_init : He.DefD := ⟨("NeverDone", some "__init__"), "__init__", "NeverDone.__init__", defArgs s_NeverDone_init, defBody s_NeverDone_init, defScope s_NeverDone_init, [], []⟩
def dd_House_init : He.DefD := ⟨("House", some "__init__"), "__init__", "House.__init__", defArgs s_House_init, defBody s_House_init, defScope s_House_init, [], []⟩
def dd_Calendar_init : He.DefD := ⟨("Calendar", some "__init__"), "__init__", "Calendar.__init__", defArgs s_Calendar_init, defBody s_Calendar_init, defScope s_Calendar_init, [], []⟩
def dd_House_calendar : He.DefD := ⟨("House", some "calendar"), "calendar", "House.calendar", defArgs s_House_calendar, defBody s_House_calendar, defScope s_House_calendar, [], []⟩
def dd_House_feasts : He.DefD := ⟨("House", some "feasts"), "feasts", "House.feasts", defArgs s_House_feasts, defBody s_House_feasts, defScope s_House_feasts, [], []⟩
def dd_feast_text : He.DefD := ⟨("feast_text", none), "feast_text", "feast_text", defArgs s_feast_text, defBody s_feast_text, defScope s_feast_text, [], []⟩
def dd_House_rows : He.DefD := ⟨("House", some "rows"), "rows", "House.rows", defArgs s_House_rows, defBody s_House_rows, defScope s_House_rows, [], []⟩
def dd_Going_told : He.DefD := ⟨("Going", some "told"), "told", "Going.told", defArgs s_Going_told, defBody s_Going_told, defScope s_Going_told, [], []⟩
def dd_Yearly_told : He.DefD := ⟨("Yearly", some "told"), "told", "Yearly.told", defArgs s_Yearly_told, defBody s_Yearly_told, defScope s_Yearly_told, [], []⟩
def dd_house_text : He.DefD := ⟨("house_text", none), "house_text", "house_text", defArgs s_house_text, defBody s_house_text, defScope s_house_text, [], []⟩
def dd_law_texts : He.DefD := ⟨("_law_texts", none), "_law_texts", "_law_texts", defArgs s_law_texts, defBody s_law_texts, defScope s_law_texts, [], []⟩
def dd_law : He.DefD := ⟨("law", none), "law", "law", defArgs s_law, defBody s_law, defScope s_law, [], []⟩
def fns : List He.DefD := [dd_law_draw, dd_law_lengths, dd_law_name, dd_law_names, dd_law_feast, dd_law_line, dd_law_parts, dd_is_name, dd_is_number, dd_are_numbers, dd_good_years, dd_is_put, dd_good_puts, dd_Feast_init, dd_law_feast_made, dd_Row_init, dd_Going_init, dd_Yearly_init, dd_law_line_made, dd_are_unlike, dd_Feast_told, dd_Calendar_years, dd_is_house, dd_need_day, dd_Calendar_first, dd_Calendar_long, dd_Feast_span, dd_sort_at, dd_year_chart, dd_Row_begins_anew, dd_Yearly_begins_anew, dd_Row_coming, dd_Yearly_coming, dd_Row_over, dd_drift_of, dd_Table_marks_from, dd_Table_init, dd_House_row, dd_House_sums, dd_NeverDone_init, dd_House_init, dd_Calendar_init, dd_House_calendar, dd_House_feasts, dd_feast_text, dd_House_rows, dd_Going_told, dd_Yearly_told, dd_house_text, dd_law_texts, dd_law]
def fas : List He.Fa := [.free "len", .glo "_law_draw", .free "range", .glo "_law_name", .free "max", .free "list", .free "sum", .glo "_law_lengths", .glo "_law_names", .glo "_law_feast", .glo "_law_line", .free "str", .free "isinstance", .str "LETTERS" "abcdefghijklmnopqrstuvwxyz", .free "all", .free "int", .free "bool", .glo "is_number", .glo "are_numbers", .glo "is_name", .free "tuple", .glo "is_put", .free "set", .glo "good_years", .glo "good_puts", .exc "BadFeast", .glo "BadFeast", .cls "Feast", .noat "Feast" "name", .noat "Feast" "place", .noat "Feast" "lasts", .noat "Feast" "kept", .noat "Feast" "acts", .mkr "Feast", .glo "Feast", .exc "BadRow", .glo "BadRow", .cls "Going", .cls "Yearly", .noat "Going" "name", .noat "Going" "pieces", .noat "Going" "most", .noat "Going" "begin", .noat "Yearly" "name", .noat "Yearly" "pieces", .noat "Yearly" "most", .glo "Row", .mkr "Going", .mkr "Yearly", .glo "Going", .glo "Yearly", .cls "Calendar", .noat "Calendar" "lengths", .noat "Calendar" "begins", .noat "Calendar" "whole", .glo "are_unlike", .glo "Calendar", .meth "Feast" "told", .meth "Calendar" "years", .exc "NoDay", .glo "NoDay", .glo "need_day", .free "divmod", .meth "Calendar" "long", .meth "Calendar" "first", .free "min", .glo "sort_at", .meth "Feast" "span", .free "dict", .free "sorted", .free "zip", .meth "Going" "coming", .meth "Yearly" "coming", .glo "drift_of", .meth "Going" "begins_anew", .meth "Yearly" "begins_anew", .meth "Going" "over", .meth "Yearly" "over", .cls "Table", .noat "Table" "wheel", .noat "Table" "line", .noat "Table" "charts", .noat "Table" "early", .noat "Table" "later", .noat "Table" "turn_due", .noat "Table" "turn_drift", .meth "Table" "marks_from", .exc "NoRow", .glo "NoRow", .cls "House", .noat "House" "wheel", .noat "House" "kept", .noat "House" "lines", .noat "House" "charts", .noat "House" "tables", .meth "House" "row", .glo "ReadError", .glo "is_house", .glo "year_chart", .mkr "Table", .exc "BadHouse", .glo "BadHouse", .glo "Table", .meth "House" "sums", .glo "NeverDone", .meth "NeverDone" "__init__", .exc "BadCalendar", .glo "BadCalendar", .glo "feast_text", .meth "House" "calendar", .meth "House" "feasts", .meth "House" "rows", .meth "Going" "told", .meth "Yearly" "told", .glo "_law_parts", .glo "_law_feast_made", .glo "_law_line_made", .mkr "House", .mkr "Calendar", .glo "house_text", .glo "_law_texts", .glo "House", .glo "law"]
def loose : List PySem.Str := (["_wall", "ReadError", "BadCalendar", "BadFeast", "BadRow", "BadHouse", "NoDay", "NoRow", "NeverDone", "LETTERS", "is_number", "is_name", "are_numbers", "need_day", "Calendar", "good_years", "is_put", "good_puts", "Feast", "Row", "Going", "Yearly", "drift_of", "Table", "are_unlike", "is_house", "sort_at", "year_chart", "House", "feast_text"] : List PySem.Str) ++ (["house_text", "_law_draw", "_law_lengths", "_law_name", "_law_names", "_law_feast", "_law_line", "_law_parts", "_law_texts", "_law_feast_made", "_law_line_made"] : List PySem.Str)
def adrs : List Addr := [3, 6, 4, 21, 31, 44, 56, 68, 80, 92, 104, 123, 132, 137, 142, 149, 206, 215, 222, 227, 301, 357, 400, 461, 470, 529, 540, 545, 552, 557, 619, 628, 633, 640, 645, 650, 655, 660, 665, 670, 675, 682, 689, 694, 0, 20, 30, 43, 55, 67, 79, 91, 103, 122, 131, 136, 141, 148, 205, 214, 221, 226, 300, 356, 399, 460, 469, 528, 539, 544, 551, 556, 618, 627, 632, 639, 644, 649, 654, 659, 664, 669, 674, 681, 688, 693, 15, 16, 17, 18, 19, 29, 32, 42, 54, 66, 78, 90, 102, 120, 121, 126, 127, 128, 129, 130, 133, 134, 135, 138, 139, 140, 143, 144, 145, 146, 147, 163, 170, 177, 184, 191, 198, 203, 204, 207, 208, 211, 212, 213, 216, 217, 218, 219, 220, 223, 224, 225, 242, 249, 256, 263, 270, 277, 284, 291, 298, 299, 302, 303, 319, 326, 333, 340, 347, 354, 355, 358, 359, 376, 383, 390, 397, 398, 416, 423, 430, 437, 444, 451, 458, 459, 464, 465, 466, 467, 468, 484, 491, 498, 505, 512, 519, 526, 527, 530, 531, 534, 535, 536, 537, 538, 541, 542, 543, 546, 547, 548, 549, 550, 553, 554, 555, 569, 576, 583, 590, 597, 604, 609, 616, 617, 620, 621, 624, 625, 626, 629, 630, 631, 634, 635, 636, 637, 638, 641, 642, 643, 646, 647, 648, 651, 652, 653, 656, 657, 658, 661, 662, 663, 666, 667, 668, 671, 672, 673, 676, 677, 678, 679, 680, 683, 684, 685, 686, 687, 690, 691, 692, 119, 162, 169, 176, 183, 190, 197, 202, 241, 235, 248, 255, 262, 269, 276, 283, 290, 297, 318, 325, 332, 339, 346, 353, 375, 369, 382, 389, 396, 415, 422, 429, 436, 443, 450, 457, 483, 490, 497, 504, 511, 518, 525, 568, 575, 582, 589, 596, 603, 608, 615, 114, 115, 116, 117, 118, 157, 158, 159, 160, 161, 164, 165, 166, 167, 168, 171, 172, 173, 174, 175, 178, 179, 180, 181, 182, 185, 186, 187, 188, 189, 192, 193, 194, 195, 196, 199, 200, 201, 236, 237, 238, 239, 240, 243, 244, 245, 246, 247, 250, 251, 252, 253, 254, 257, 258, 259, 260, 261, 264, 265, 266, 267, 268, 271, 272, 273, 274, 275, 278, 279, 280, 281, 282, 285, 286, 287, 288, 289, 292, 293, 294, 295, 296, 313, 314, 315, 316, 317, 320, 321, 322, 323, 324, 327, 328, 329, 330, 331, 334, 335, 336, 337, 338, 341, 342, 343, 344, 345, 348, 349, 350, 351, 352, 370, 371, 372, 373, 374, 377, 378, 379, 380, 381, 384, 385, 386, 387, 388, 391, 392, 393, 394, 395, 410, 411, 412, 413, 414, 417, 418, 419, 420, 421, 424, 425, 426, 427, 428, 431, 432, 433, 434, 435, 438, 439, 440, 441, 442, 445, 446, 447, 448, 449, 452, 453, 454, 455, 456, 478, 479, 480, 481, 482, 485, 486, 487, 488, 489, 492, 493, 494, 495, 496, 499, 500, 501, 502, 503, 506, 507, 508, 509, 510, 513, 514, 515, 516, 517, 520, 521, 522, 523, 524, 565, 566, 567, 570, 571, 572, 573, 574, 577, 578, 579, 580, 581, 584, 585, 586, 587, 588, 591, 592, 593, 594, 595, 598, 599, 600, 601, 602, 605, 606, 607, 610, 611, 612, 613, 614, 2]
def exs : List (PySem.W.Frag → Bool) := [clsFnB "Row" "__init__", obtB "Going", obtB "Yearly", isB "Going" "Row" true, isB "Yearly" "Row" true, obtB "Calendar", isB "Calendar" "Calendar" true, obtB "Feast", isB "Feast" "Feast" true, sameM "Going" "Row" "coming", sameM "Going" "Row" "begins_anew", sameM "Going" "Row" "over", sameM "Yearly" "Row" "over", reiB "ReadError", kxfB "NeverDone" ["name", "due", "room"]]
abbrev hk : PySem.W.Hook := hookL adrs fas fns exs
def ob (s : PySem.W.SharedT) : AlX := obsLG adrs fas fns exs (HandSHeadRun.getT s)
theorem ob_eq (s : PySem.W.SharedT) : ob s = hk.obs s.abs := obsLG_eq (HandSHeadRun.getT_eq s)
set_option maxHeartbeats 0 in
open PySem.W PySem.Calls HandSHeadRun in
theorem look1 (w : World) (os : OsState) : HandSHeadRun.looksF R.prog (PySem.W.boot_heap w.params) (SE w os).abs = true := by kernel_rfl
set_option maxHeartbeats 0 in
open PySem.W PySem.Calls HandSHeadRun in
theorem look2 (w : World) (os : OsState) : HandSHeadRun.seenQ (PySem.W.view R.prog [50]) loose (importedModules R.prog.main.body) (fun s => PySem.W.xlAt (PySem.W.view R.prog [50]) [] s && PySem.W.recOk R.toRowW.records s) (SE w os).abs = PySem.W.openGood (PySem.W.view R.prog [50]) loose := by kernel_rfl
set_option maxHeartbeats 0 in
open PySem.W PySem.Calls HandSHeadRun in
theorem look3 (w : World) (os : OsState) : ob (SE w os) = hk.val w := by kernel_rfl
open PySem.W PySem.Calls HandSHeadRun in
theorem topEnd (w : World) (os : OsState) : ∃ s, TopEnd R (PySem.W.view R.prog [50]) loose hk ob 100000 w os s := ⟨SE w os, cpTop w os, look1 w os, look2 w os, look3 w os⟩
end Dl
section
open PySem PySem.W PySem.Calls PyProof.Rows
set_option maxRecDepth 100000
set_option maxHeartbeats 0
theorem Dl.law_name : (HandSHeadRun.topDef (OpenLaw.row PySem.Challenge.rw_readround_k75_house_texts).prog 50).name = ("law" : PySem.Str) := by kernel_rfl
theorem Dl.law_dflt : (HandSHeadRun.topDef (OpenLaw.row PySem.Challenge.rw_readround_k75_house_texts).prog 50).params.defaults = [] := by kernel_rfl
theorem Dl.lawOf (hc : WalkO (view (OpenLaw.row PySem.Challenge.rw_readround_k75_house_texts).prog [50]) Dl.loose (XL (view (OpenLaw.row PySem.Challenge.rw_readround_k75_house_texts).prog [50]) []) Dl.hk.says (OpenLaw.row PySem.Challenge.rw_readround_k75_house_texts).toRowW (HandSHeadRun.topDef (OpenLaw.row PySem.Challenge.rw_readround_k75_house_texts).prog 50) [] (fun f vs => PySem.call f vs)) : PySem.Challenge.rw_readround_k75_house_texts.Holds := by
  w_on; o_law
  refine Dl.head_cp (r := OpenLaw.row PySem.Challenge.rw_readround_k75_house_texts) (q := view (OpenLaw.row PySem.Challenge.rw_readround_k75_house_texts).prog [50]) (H := Dl.hk) (ob := Dl.ob) (M := 100000) (loose := Dl.loose) (d := HandSHeadRun.topDef (OpenLaw.row PySem.Challenge.rw_readround_k75_house_texts).prog 50) (kwd := []) Dl.ob_eq
    (by kernel_rfl) (fun s => by kernel_rfl) Dl.topEnd (by kernel_rfl) (by kernel_rfl) (by kernel_rfl) (by rfl) (by first | assumption | decide +kernel) (by decide +kernel) ⟨rfl, rfl, rfl, rfl, rfl, by decide +kernel⟩ ?hw ?hc
  case hw => w_witness2
  case hc => exact hc
end
namespace Dl
open PySem L2 PyProof.Rows
set_option Elab.async false
set_option linter.all false
set_option maxRecDepth 100000
open PySem L2 PyProof.Rows
/-! ### kinds, books: contracts -/
mutual
/-- data through and through -/
def D.dat : D → Bool
  | .non => true
  | .bl _ => true
  | .int _ => true
  | .str _ => true
  | .tup xs => datL xs
  | .lst xs => datL xs
  | .dct _ => true
  | _ => false
def datL : List D → Bool
  | [] => true
  | x :: xs => D.dat x && datL xs
end
theorem datL_iff {xs : List D} : datL xs = true ↔ ∀ x ∈ xs, x.dat = true := by
  induction xs with
  | nil => simp [datL]
  | cons x xs ih => simp [datL, ih]
/-- isinstance of data and a built-in type -/
def isTy : D → String → Bool
  | .bl _, n => n == "bool" || n == "int"
  | .int _, n => n == "int"
  | .str _, n => n == "str"
  | .tup _, n => n == "tuple"
  | .lst _, n => n == "list"
  | .dct _, n => n == "dict"
  | _, _ => false
theorem rc_isiD {K : PySem.W.Frag} {μ : Mu} {P : D → Mu → Prop} {x : D} {n : String} (hd : x.dat = true) (hn : n = "int" ∨ n = "bool" ∨ n = "str" ∨ n = "list" ∨ n = "tuple") (h : P (.bl (isTy x n)) μ) : RC K (rIsi K) [x, .ty n] μ P := by
  cases x <;> (try (simp [D.dat] at hd; done)) <;> rcases hn with rfl | rfl | rfl | rfl | rfl <;> exact rc_isiB rfl (by rfl) h
theorem isTy_int {x : D} (h : isTy x "int" = true) (h2 : isTy x "bool" = false) : ∃ i, x = .int i := by
  cases x <;> simp_all [isTy]
theorem isTy_list {x : D} (h : isTy x "list" = true) : ∃ i, x = .lst i := by
  cases x <;> simp_all [isTy]
def isNum : D → Int → Int → Bool
  | .int i, lo, hi => decide (lo ≤ i) && decide (i ≤ hi)
  | _, _, _ => false
def c_is_number (K : PySem.W.Frag) : CT := fun ds μ P PX => ∃ x lo hi, ds = [x, .int lo, .int hi] ∧ x.dat = true ∧ P (.bl (isNum x lo hi)) μ
def pairD (p : Int × Int) : D := .tup [.int p.1, .int p.2]
def t_is_number (K : PySem.W.Frag) (E : XK) : TS :=
    (tRet (tAndV (tCB (rIsi K) (tCons (tVar 0) (tCons (tC (.ty "int")) tNil))) (tAndV (tNotV (tCB (rIsi K) (tCons (tVar 0) (tCons (tC (.ty "bool")) tNil)))) (tChain (rI0 fun i j => .bl (decide (i ≤ j))) (rI0 fun i j => .bl (decide (i ≤ j))) (tVar 1) (tVar 0) (tVar 2)))))
local macro_rules | `(tactic| wtm_at "dS") => `(tactic| with_reducible (show DS _ _ _ _ _ _; first
  | refine q_set ?_
  | refine q_when ?_
  | refine ds_ret ?_
  | refine ds_set ?_
  | refine q_drop ?_
  | refine q_if ?_
  | refine q_asg ?_
  | refine q_par ?_
  | refine q_fld ?_
  | refine ds_drop ?_
  | refine s_when ?_
  | refine ds_if ?_
  | refine ds_asg ?_
  | refine ds_next ?_
  | refine ds_par ?_
  | refine ds_fld ?_
  | refine ds_retN ?_))
local macro_rules | `(tactic| wtm_at "dE") => `(tactic| with_reducible (show DE _ _ _ _ _ _; first
  | refine de_op ?_
  | refine de_int ?_
  | refine de_cb ?_
  | refine de_bl ?_
  | refine de_non ?_
  | refine de_str ?_
  | refine de_ty ?_
  | refine de_loc ?_
  | refine de_un ?_
  | refine de_andV ?_
  | refine de_orV ?_
  | refine de_notV ?_
  | refine de_if ?_
  | refine de_chain ?_
  | refine de_chain3 ?_
  | refine de_isN ?_
  | refine de_notN ?_
  | refine de_sl ?_
  | refine de_bm ?_
  | refine de_bm0 ?_))
local macro_rules | `(tactic| wtm_at "dT") => `(tactic| with_reducible (show DT _ _ _ _ _ _; first
  | refine dt_test ?_
  | refine dt_truth ?_
  | refine dt_and ?_
  | refine dt_or ?_
  | refine dt_not ?_
  | refine dt_B ?_
  | refine dt_yes ?_))
local macro_rules | `(tactic| wtm_at "dO") => `(tactic| with_reducible (first
  | refine da_cons ?_
  | refine da_nil ?_
  | refine ro_i ?_
  | refine ro_b ?_
  | refine ro_addI ?_
  | refine ro_eqI ?_
  | refine ro_neI ?_
  | refine ru_i ?_
  | refine ro_ip ?_
  | refine rc_max2' ?_
  | refine rc_min2' ?_
  | refine ro_eqB ?_
  | refine ro_neB ?_
  | refine ro_isB ?_
  | refine ro_notB ?_
  | refine do_no ?_
  | refine do_part ?_
  | refine dg_name ?_
  | refine dgs_cons ?_
  | refine dgs_nil ?_
  | refine dg_sub ?_
  | refine di_range1 ?_
  | refine di_range2 ?_
  | refine di_any ?_
  | refine di_enum' ?_))
local macro_rules | `(tactic| wtm_at "v") => `(tactic| ((with_reducible show DE _ _ (tVar _) _ _ _); refine de_var (by first | rfl | assumption) ?_))
local macro_rules | `(tactic| wtm_at "h") => `(tactic| with_reducible refine ⟨_, rfl, ?_⟩)
local macro_rules | `(tactic| wtm_at "b") => `(tactic| ((first | refine ⟨_, rfl, br ?_ ?_⟩ | refine ⟨_, rfl, br' ?_ ?_⟩ | refine br ?_ ?_ | refine br' ?_ ?_ | fail) <;> intro hb <;> (try contradiction) <;> (try (simp only [decide_eq_true_eq, decide_eq_false_iff_not, Bool.not_eq_true', Bool.not_eq_false', Bool.not_true, Bool.not_false, Bool.not_eq_eq_eq_not, reduceCtorEq, List.length_map] at hb)) <;> (try (exfalso; omega; done))))
local macro_rules | `(tactic| wtm_at "i") => `(tactic| first | refine rc_isiD (by assumption) (by decide) ?_ | refine rc_isiB rfl (by first | rfl | decide +kernel) ?_)
local macro_rules | `(tactic| wtm_at "r") => `(tactic| refine ret_same0 (Nat.le_refl _) (by assumption) (by first | rfl | simp [D.cl, clL]) ?_)
local macro_rules | `(tactic| wtm_at "g") => `(tactic| repeat' first | wtm_at "v" | wtm_at "dE" | wtm_at "dO" | wtm_at "dT" | wtm_at "dS" | fail)
local macro_rules | `(tactic| wtm_at "a") => `(tactic| repeat' first | wtm_at "v" | wtm_at "dE" | wtm_at "dO" | wtm_at "dT" | wtm_at "dS" | wtm_at "i" | wtm_at "l" | wtm_at "x" | wtm_at "h" | wtm_at "b" | fail)
local macro_rules | `(tactic| wtm_at "l") => `(tactic| ((with_reducible show RC _ (rLen _) _ _ _); first | refine rc_lenL (.lst _) ?_ | refine rc_lenT' (.tup _) ?_ | refine rc_lenL (.rdl _) ?_ | refine rc_lenL (.own (by first | assumption | with_reducible exact mu_last)) ?_))
local macro_rules | `(tactic| wtm_at "x") => `(tactic| refine ro_ixT (.tup _) rfl ?_)
local macro_rules | `(tactic| wtm_at "ow") => `(tactic| first | assumption | with_reducible exact mu_last | exact mu_old (by assumption) | (simp; done) | fail)
local macro_rules | `(tactic| wtm_at "m") => `(tactic| refine ⟨ty_list (.own (by wtm_at "ow")), ?_⟩)
local macro_rules | `(tactic| wtm_at "e") => `(tactic| repeat' first | wtm_at "v" | wtm_at "dE" | wtm_at "dO" | wtm_at "dT" | wtm_at "i" | wtm_at "l" | wtm_at "x" | wtm_at "h" | wtm_at "b" | fail)
local macro_rules | `(tactic| wtm_at "sz") => `(tactic| ((with_reducible show Sz _ ∧ _); refine And.intro (by unfold Sz; first | decide | (simp; done) | (simp; omega) | omega) ?_))
local macro_rules | `(tactic| wtm_at "d2") => `(tactic| with_reducible (first
  | refine de_tupZ ?_
  | refine de_revL ?_
  | refine de_call (by assumption) ?_))
local macro_rules | `(tactic| wtm_at "o2") => `(tactic| first
  | refine ro_mod (by first | decide | omega) ?_
  | refine ro_pow ⟨by decide, by decide, by decide⟩ ?_
  | refine rs_anyL (.lst _) ?_
  | refine ro_mulI (by first | exact .inl ⟨by omega, by omega⟩ | exact .inr ⟨by omega, by omega⟩) ?_
  | refine rc_list (.lst _) ?_
  | refine dg_tup rfl ?_
  | fail)
local macro_rules | `(tactic| wtm_at "h2") => `(tactic| with_reducible (first | refine two_i ?_ | refine ⟨_, Ls.lst _, ?_⟩))
local macro_rules | `(tactic| wtm_at "sP") => `(tactic| with_reducible (first | refine q_parZ ?_ | refine ds_parZ ?_))
local macro_rules | `(tactic| wtm_at "f3") => `(tactic| with_reducible (first
  | refine de_fldZ ?_
  | refine de_methZ (by assumption) ?_))
local macro_rules | `(tactic| wtm_at "p3") => `(tactic| first
  | refine fp_obj (by assumption) (by assumption) (by rfl) ?_
  | refine fp_own (by assumption) (by assumption) (by assumption) (by rfl) ?_
  | refine mp_obj (by rfl) ?_
  | refine mp_own (by assumption) (by rfl) ?_)
local macro_rules | `(tactic| wtm_at "s3") => `(tactic| with_reducible (first | refine q_fldZ ?_ | refine ds_fldZ ?_))
local macro_rules | `(tactic| wtm_at "f4") => `(tactic| with_reducible (first | refine de_isNZ ?_ | refine de_notNZ ?_ | refine np_t ?_))
local macro_rules | `(tactic| wtm_at "g4") => `(tactic| first | refine np_int ?_ | refine np_lst ?_ | refine np_tup ?_ | refine np_obj ?_ | refine np_own ?_ | refine np_str ?_ | refine np_bl ?_)
local macro_rules | `(tactic| wtm_at "s5") => `(tactic| with_reducible (first | refine q_par3 ?_ | refine ds_par3 ?_ | refine three_i ?_ | refine di_range2W ?_))
local macro_rules | `(tactic| wtm_at "o5") => `(tactic| first | refine ro_eqNI ?_ | fail)
local macro_rules | `(tactic| wtm_at "d6") => `(tactic| with_reducible (first | refine de_dget ?_ | refine de_din ?_ | refine de_dnin ?_ | refine rc_abs ?_))
local macro_rules | `(tactic| wtm_at "g6") => `(tactic| first | refine dgp_s (.own (by assumption)) (by rfl) ?_ | refine dgp_s (.dct _) (by rfl) ?_)
local macro_rules | `(tactic| wtm_at "Q") => `(tactic| wtm_at "b")
local macro_rules | `(tactic| wtm_at "Q") => `(tactic| wtm_at "g4")
local macro_rules | `(tactic| wtm_at "Q") => `(tactic| wtm_at "p3")
local macro_rules | `(tactic| wtm_at "Q") => `(tactic| wtm_at "g6")
local macro_rules | `(tactic| wtm_at "Q") => `(tactic| wtm_at "sz")
local macro_rules | `(tactic| wtm_at "Q") => `(tactic| wtm_at "h2")
local macro_rules | `(tactic| wtm_at "Q") => `(tactic| wtm_at "h")
local macro_rules | `(tactic| wtm_at "Q") => `(tactic| wtm_at "o5")
local macro_rules | `(tactic| wtm_at "Q") => `(tactic| wtm_at "o2")
local macro_rules | `(tactic| wtm_at "Q") => `(tactic| wtm_at "x")
local macro_rules | `(tactic| wtm_at "Q") => `(tactic| wtm_at "l")
local macro_rules | `(tactic| wtm_at "Q") => `(tactic| wtm_at "i")
local macro_rules | `(tactic| wtm_at "Q") => `(tactic| wtm_at "f3")
local macro_rules | `(tactic| wtm_at "Q") => `(tactic| wtm_at "d2")
local macro_rules | `(tactic| wtm_at "Q") => `(tactic| wtm_at "dT")
local macro_rules | `(tactic| wtm_at "Q") => `(tactic| wtm_at "dO")
local macro_rules | `(tactic| wtm_at "Q") => `(tactic| wtm_at "d6")
local macro_rules | `(tactic| wtm_at "Q") => `(tactic| wtm_at "dE")
local macro_rules | `(tactic| wtm_at "Q") => `(tactic| wtm_at "f4")
local macro_rules | `(tactic| wtm_at "Q") => `(tactic| wtm_at "v")
local macro_rules | `(tactic| wtm_at "E") => `(tactic| repeat' first | wtm_at "Q" | fail)
local macro_rules | `(tactic| wtm_at "Qs") => `(tactic| wtm_at "dS")
local macro_rules | `(tactic| wtm_at "Qs") => `(tactic| wtm_at "s3")
local macro_rules | `(tactic| wtm_at "Qs") => `(tactic| wtm_at "sP")
local macro_rules | `(tactic| wtm_at "Qs") => `(tactic| wtm_at "s5")
local macro_rules | `(tactic| wtm_at "QA") => `(tactic| wtm_at "Q")
local macro_rules | `(tactic| wtm_at "QA") => `(tactic| wtm_at "Qs")
local macro_rules | `(tactic| wtm_at "A") => `(tactic| repeat' first | wtm_at "QA" | fail)
section
variable {K : PySem.W.Frag}
theorem d_is_number : ∀ ds μ P PX, c_is_number K ds μ P PX → MuCl μ μ.length → clL ds μ.length = true → ∀ B E, XAg K B (RetX μ.length PX) E → DS K B (t_is_number K E) (startD ["thing", "least", "most"] ds) μ (fnE μ.length P) := by
  intro ds μ P PX h hm hc B E hE
  obtain ⟨x, lo, hi, rfl, hd, h⟩ := h
  show DS K B _ [some x, some (.int lo), some (.int hi)] μ _
  unfold t_is_number
  wtm_at "a"
  · obtain ⟨i, rfl⟩ := isTy_int ‹_› ‹_›
    wtm_at "a" <;> wtm_at "r" <;> simp_all [isNum]
  · wtm_at "r"
    cases x <;> simp_all [isNum, isTy]
  · wtm_at "r"
    cases x <;> simp_all [isNum, isTy]
theorem atI_neg1 {α : Type} {xs : List α} {z : α} (h : xs.getLast? = some z) : atI xs (-1) = some z := by
  obtain ⟨ys, rfl⟩ := List.getLast?_eq_some_iff.mp h
  exact atI_last ys z
end
/-! ### calendars: contracts -/
def areNums : D → Int → Int → Int → Bool
  | .lst xs, long, lo, hi => decide (1 ≤ xs.length) && decide ((xs.length : Int) ≤ long) && xs.all (fun x => isNum x lo hi)
  | _, _, _, _ => false
def c_are_numbers (K : PySem.W.Frag) : CT := fun ds μ P PX => ∃ (x d : D) (long lo hi : Int), ds = [x, .int long, .int lo, .int hi] ∧ Fz μ x d ∧ d.dat = true ∧ long ≤ 100000 ∧ P (.bl (areNums d long lo hi)) μ
def c_need_day (K : PySem.W.Frag) : CT := fun ds μ P PX => ∃ n : Int, ds = [.int n] ∧ (0 ≤ n → P .non μ) ∧ (n < 0 → PX (He.ga K "NoDay") [] μ)
abbrev cCal (K : PySem.W.Frag) : Addr := He.ga K "Calendar"
/-- days ahead of the i-th year -/
def preY (ls : List Int) (i : Nat) : Int := (ls.take i).sum
def begins (ls : List Int) : List Int := (List.range ls.length).map (preY ls)
def intsD (ls : List Int) : D := .lst (ls.map D.int)
def calF (ls : List Int) : List (Str × D) := [("lengths", intsD ls), ("begins", intsD (begins ls)), ("whole", .int ls.sum)]
def calD (K : PySem.W.Frag) (ls : List Int) : D := .obj (cCal K) (calF ls)
/-- the days of the years of a calendar -/
structure GCal (ls : List Int) : Prop where
  pos : 0 < ls.length
  most : ls.length ≤ 20
  each : ∀ x ∈ ls, 1 ≤ x ∧ x ≤ 400
structure KCal (K : PySem.W.Frag) : Prop where
  cl : Cls K (cCal K)
  lengths : NoAttr K (cCal K) "lengths"
  begins : NoAttr K (cCal K) "begins"
  whole : NoAttr K (cCal K) "whole"
def c_Calendar_init (K : PySem.W.Frag) : CT := fun ds μ P PX => ∃ k x d, ds = [.own k, x] ∧ μ[k]? = some (.ins (cCal K) []) ∧ Fz μ x d ∧ d.dat = true ∧
  (∀ ls, d = intsD ls → GCal ls → P .non (μ.set k (.ins (cCal K) (calF ls)))) ∧ (areNums d 20 1 400 = false → PX (He.ga K "BadCalendar") [] μ)
def c_Calendar_years (K : PySem.W.Frag) : CT := fun ds μ P PX => ∃ ls, ds = [calD K ls] ∧ Fresh (ls.map D.int) μ P
/-- how long the year is -/
def longY (ls : List Int) (y : Int) : Int := ls.getD (y % ls.length).toNat 0
def firstY (ls : List Int) (y : Int) : Int := y / ls.length * ls.sum + preY ls (y % ls.length).toNat
def c_Calendar_long (K : PySem.W.Frag) : CT := fun ds μ P PX => ∃ (ls : List Int) (y : Int), ds = [calD K ls, .int y] ∧ GCal ls ∧ (0 ≤ y → P (.int (longY ls y)) μ) ∧ (y < 0 → PX (He.ga K "NoDay") [] μ)
def c_Calendar_first (K : PySem.W.Frag) : CT := fun ds μ P PX => ∃ (ls : List Int) (y : Int), ds = [calD K ls, .int y] ∧ GCal ls ∧ (0 ≤ y → P (.int (firstY ls y)) μ) ∧ (y < 0 → PX (He.ga K "NoDay") [] μ)
/-! ### .. in plain numbers -/
theorem sum_pos' : ∀ {ls : List Int}, (∀ x ∈ ls, 1 ≤ x) → (ls.length : Int) ≤ ls.sum
  | [], _ => by simp
  | x :: r, h => by
    have := sum_pos' (ls := r) fun y hy => h y (List.mem_cons_of_mem _ hy)
    have := h x (by simp)
    simp; omega
theorem sum_le' : ∀ {ls : List Int}, (∀ x ∈ ls, x ≤ 400) → ls.sum ≤ 400 * (ls.length : Int)
  | [], _ => by simp
  | x :: r, h => by
    have := sum_le' (ls := r) fun y hy => h y (List.mem_cons_of_mem _ hy)
    have := h x (by simp)
    simp; omega
theorem GCal.sum_pos {ls : List Int} (h : GCal ls) : 0 < ls.sum := by
  have := sum_pos' fun x hx => (h.each x hx).1
  have := h.pos
  omega
theorem GCal.sum_le {ls : List Int} (h : GCal ls) : ls.sum ≤ 8000 := by
  have := sum_le' fun x hx => (h.each x hx).2
  have := h.most
  omega
theorem preY_zero (ls : List Int) : preY ls 0 = 0 := by simp [preY]
theorem preY_succ {ls : List Int} {i : Nat} {x : Int} (h : ls[i]? = some x) : preY ls (i + 1) = preY ls i + x := by
  unfold preY
  rw [List.take_add_one, h]
  simp
theorem preY_all (ls : List Int) : preY ls ls.length = ls.sum := by simp [preY]
theorem begins_get {ls : List Int} {i : Nat} (h : i < ls.length) : (begins ls)[i]? = some (preY ls i) := by simp [begins, h]
/-- day d is the s-th one of the year y -/
structure PosY (ls : List Int) (y s d : Int) : Prop where
  y0 : 0 ≤ y
  s0 : 0 ≤ s
  s1 : s < longY ls y
  d : d = firstY ls y + s
theorem longY_get {ls : List Int} (h : GCal ls) {y : Int} (hy : 0 ≤ y) : ls[(y % ls.length).toNat]? = some (longY ls y) := by
  have hp := h.pos
  have h1 := Int.emod_nonneg y (b := (ls.length : Int)) (by omega)
  have h2 := Int.emod_lt_of_pos y (b := (ls.length : Int)) (by omega)
  unfold longY
  rw [List.getD_eq_getElem?_getD, List.getElem?_eq_getElem (by omega)]
  rfl
theorem longY_bd {ls : List Int} (h : GCal ls) {y : Int} (hy : 0 ≤ y) : 1 ≤ longY ls y ∧ longY ls y ≤ 400 := h.each _ (List.mem_of_getElem? (longY_get h hy))
theorem firstY_succ {ls : List Int} (h : GCal ls) {y : Int} (hy : 0 ≤ y) : firstY ls (y + 1) = firstY ls y + longY ls y := by
  have hp := h.pos
  have h1 := Int.emod_nonneg y (b := (ls.length : Int)) (by omega)
  have h2 := Int.emod_lt_of_pos y (b := (ls.length : Int)) (by omega)
  have hy' := Int.ediv_mul_add_emod y ls.length
  have hs := preY_succ (longY_get h hy)
  by_cases hc : y % ls.length + 1 < ls.length
  · have e : y + 1 = ls.length * (y / ls.length) + (y % ls.length + 1) := by rw [Int.mul_comm]; omega
    have e1 : (y + 1) / ls.length = y / ls.length := by
      have z : (y % ls.length + 1) / ls.length = 0 := Int.ediv_eq_zero_of_lt (by omega) (by omega)
      rw [e, Int.mul_add_ediv_left _ _ (by omega), z]; simp
    have e2 : (y + 1) % ls.length = y % ls.length + 1 := by
      have z : (y % ls.length + 1) % ls.length = y % ls.length + 1 := Int.emod_eq_of_lt (by omega) (by omega)
      rw [e, Int.mul_add_emod_self_left, z]
    unfold firstY
    rw [e1, e2]
    have e3 : (y % ls.length + 1).toNat = (y % ls.length).toNat + 1 := by omega
    rw [e3, hs]
    omega
  · have hl : y % ls.length + 1 = ls.length := by omega
    have e : y + 1 = ls.length * (y / ls.length + 1) := by rw [Int.mul_add, Int.mul_one, Int.mul_comm]; omega
    have e1 : (y + 1) / ls.length = y / ls.length + 1 := by
      rw [e, Int.mul_ediv_cancel_left _ (by omega)]
    have e2 : (y + 1) % ls.length = 0 := by rw [e]; simp
    unfold firstY
    rw [e1, e2]
    have e3 : (y % ls.length).toNat + 1 = ls.length := by omega
    rw [e3, preY_all] at hs
    show (y / ls.length + 1) * ls.sum + preY ls 0 = _
    rw [preY_zero, Int.add_mul, Int.one_mul]
    omega
theorem PosY.next {ls : List Int} (h : GCal ls) {y s d : Int} (p : PosY ls y s d) : if s + 1 = longY ls y then PosY ls (y + 1) 0 (d + 1) else PosY ls y (s + 1) (d + 1) := by
  have := p.y0; have := p.s0; have := p.s1; have := p.d
  split
  · refine ⟨by omega, by omega, ?_, ?_⟩
    · have := longY_bd h (y := y + 1) (by omega); omega
    · rw [firstY_succ h p.y0]; omega
  · exact ⟨by omega, by omega, by omega, by omega⟩
def t_are_numbers (K : PySem.W.Frag) (E : XK) : TS :=
    (tSeq (tIfS (tOr (tNot (tTruth K (tCB (rIsi K) (tCons (tVar 0) (tCons (tC (.ty "list")) tNil))))) (tNot (tTest (tChain (rI0 fun i j => .bl (decide (i ≤ j))) (rI0 fun i j => .bl (decide (i ≤ j))) (tC (.int 1)) (tCB (rLen K) (tCons (tVar 0) tNil)) (tVar 1))))) (tRet (tC (.bl false))) tNext)
      (tRet (tCB (rAll K) (tCons (tLc (iAny K (tVar 0)) (gName 4) tYes (tCall (spD K (c_is_number K)) [] E0 (tCons (tVar 4) (tCons (tVar 2) (tCons (tVar 3) tNil)))) [4]) tNil))))
def t_need_day (K : PySem.W.Frag) (E : XK) : TS :=
    (tIfS (tTest (tOp (rI0 fun i j => .bl (decide (i < j))) (tVar 0) (tC (.int 0)))) (tRaise0 (He.ga K "NoDay") E) tNext)
def t_Calendar_init (K : PySem.W.Frag) (E : XK) : TS :=
    (tSeq (tIfS (tNot (tTruth K (tCall (spD K (c_are_numbers K)) [] E (tCons (tVar 1) (tCons (tC (.int 20)) (tCons (tC (.int 1)) (tCons (tC (.int 400)) tNil))))))) (tRaise0 (He.ga K "BadCalendar") E) tNext)
      (tSeq (sFld K (tVar 0) (tCB (rListOf K) (tCons (tVar 1) tNil)) "lengths")
      (tSeq (sFld K (tVar 0) (tLst tNil) "begins")
      (tSeq (sFld K (tVar 0) (tC (.int 0)) "whole")
      (tFor (iAny K (tFld K (tVar 0) "lengths")) (gName 2) (tSeq (tDrop (tBM K "list" rAppend (tFld K (tVar 0) "begins") (tCons (tFld K (tVar 0) "whole") tNil)))
      (sFldAug K (tVar 0) (tVar 2) rAdd "whole")))))))
def t_Calendar_years (K : PySem.W.Frag) (E : XK) : TS :=
    (tRet (tCB (rListOf K) (tCons (tFld K (tVar 0) "lengths") tNil)))
def t_Calendar_long (K : PySem.W.Frag) (E : XK) : TS :=
    (tSeq (tDrop (tCall (spD K (c_need_day K)) [] E (tCons (tVar 1) tNil)))
      (tRet (tOp (rIx K) (tFld K (tVar 0) "lengths") (tOp rModA (tVar 1) (tCB (rLen K) (tCons (tFld K (tVar 0) "lengths") tNil))))))
def t_Calendar_first (K : PySem.W.Frag) (E : XK) : TS :=
    (tSeq (tDrop (tCall (spD K (c_need_day K)) [] E (tCons (tVar 1) tNil)))
      (tSeq (tAsg (tCB rDivmod (tCons (tVar 1) (tCons (tCB (rLen K) (tCons (tFld K (tVar 0) "lengths") tNil)) tNil))) (gTup K 2 (gCons (gName 2) (gCons (gName 3) gNil))))
      (tRet (tOp (rAddA K) (tOp rMulA (tVar 2) (tFld K (tVar 0) "whole")) (tOp (rIx K) (tFld K (tVar 0) "begins") (tVar 3))))))
section
variable {K : PySem.W.Frag}
theorem d_are_numbers : ∀ ds μ P PX, c_are_numbers K ds μ P PX → MuCl μ μ.length → clL ds μ.length = true → ∀ B E, XAg K B (RetX μ.length PX) E → DS K B (t_are_numbers K E) (startD ["thing", "long", "least", "most", "one"] ds) μ (fnE μ.length P) := by
  intro ds μ P PX h hm hc B E hE
  obtain ⟨x, d, long, lo, hi, rfl, fz, hd, hlong, h⟩ := h
  show DS K B _ [some x, some (.int long), some (.int lo), some (.int hi), none] μ _
  have key : ∀ xs, d = .lst xs → tyD μ x = some "list" → Ls μ x xs → DS K B (t_are_numbers K E) [some x, some (.int long), some (.int lo), some (.int hi), none] μ (fnE μ.length P) := by
    rintro xs rfl ht hl
    have hdx : ∀ y ∈ xs, y.dat = true := by
      unfold D.dat at hd
      exact datL_iff.mp hd
    obtain ⟨S, wk⟩ := hl.wk
    unfold t_are_numbers
    wtm_at "g"
    refine rc_isiB ht (by rfl) ?_
    wtm_at "A"
    refine rc_lenL hl ?_
    have hf : ¬ (1 ≤ xs.length ∧ (xs.length : Int) ≤ long) → Ret μ.length P (.bl false) μ := fun hn => by
      wtm_at "r"
      have : areNums (.lst xs) long lo hi = false := by
        simp [areNums]
        omega
      rw [this] at h
      exact h
    wtm_at "A"
    · exact hf (by omega)
    · refine lc_map (fun d => .bl (isNum d lo hi)) (gw_name (by simp)) ?_
      wtm_at "A"
      refine ⟨xs, S, wk, wk.now, by omega, fun i d hd' => ?_, fun out ho => ?_⟩
      · wtm_at "A"
        refine ⟨rfl, de_call XAg.none ?_⟩
        wtm_at "A"
        exact ⟨d, lo, hi, rfl, hdx d (List.mem_of_getElem? hd'), rfl, rfl⟩
      · wtm_at "A"
        refine rc_all (bs := xs.map (isNum · lo hi)) (by rw [← ho, List.map_map]; exact .lst _) ?_
        wtm_at "r"
        have : areNums (.lst xs) long lo hi = (xs.map (isNum · lo hi)).all id := by
          simp only [areNums, List.all_map]
          rename_i hb
          simp [show 1 ≤ xs.length by omega, show (xs.length : Int) ≤ long by omega]
        rw [this] at h
        exact h
    · exact hf (by omega)
  cases fz with
  | id =>
    by_cases hl : isTy x "list" = true
    · obtain ⟨xs, rfl⟩ := isTy_list hl
      exact key xs rfl rfl (.lst xs)
    · unfold t_are_numbers
      wtm_at "A"
      · exact absurd ‹_› hl
      · wtm_at "r"
        have : areNums x long lo hi = false := by cases x <;> simp_all [areNums, isTy]
        rw [this] at h
        exact h
  | own hk => exact key _ rfl (by simp [tyD, hk]) (.own hk)
theorem d_need_day : ∀ ds μ P PX, c_need_day K ds μ P PX → MuCl μ μ.length → clL ds μ.length = true → ∀ B E, XAg K B (RetX μ.length PX) E → DS K B (t_need_day K E) (startD ["number"] ds) μ (fnE μ.length P) := by
  intro ds μ P PX h hm hc B E hE
  obtain ⟨n, rfl, h1, h2⟩ := h
  show DS K B _ [some (.int n)] μ _
  unfold t_need_day
  wtm_at "A"
  · exact ds_raise0 hE (retx_same0 hm rfl (h2 (by omega)))
  · exact ret_same0 (Nat.le_refl _) hm rfl (h1 (by omega))
theorem nums_ints : ∀ {xs : List D} {lo hi : Int}, xs.all (fun x => isNum x lo hi) = true → ∃ ls : List Int, xs = ls.map D.int ∧ ∀ x ∈ ls, lo ≤ x ∧ x ≤ hi
  | [], _, _, _ => ⟨[], rfl, by simp⟩
  | x :: xs, lo, hi, h => by
    rw [List.all_cons, Bool.and_eq_true] at h
    obtain ⟨ls, rfl, hl⟩ := nums_ints h.2
    cases x <;> simp [isNum] at h
    rename_i n
    exact ⟨n :: ls, rfl, fun y hy => by
      rcases List.mem_cons.mp hy with m | m
      · subst m; exact h.1
      · exact hl y m⟩
theorem areNums_cal {d : D} (h : areNums d 20 1 400 = true) : ∃ ls, d = intsD ls ∧ GCal ls := by
  cases d <;> simp [areNums] at h
  rename_i xs
  obtain ⟨ls, rfl, hl⟩ := nums_ints (lo := 1) (hi := 400) (xs := xs) (by rw [List.all_eq_true]; exact h.2)
  simp at h
  exact ⟨ls, rfl, by omega, by omega, hl⟩
theorem areNums_of {ls : List Int} (h : GCal ls) : areNums (intsD ls) 20 1 400 = true := by
  have := h.pos; have := h.most
  simp [areNums, intsD]
  refine ⟨by omega, fun x hx => ?_⟩
  have := h.each x hx
  simp [isNum]; omega
theorem cl_ints (ls : List Int) (n : Nat) : clL (ls.map D.int) n = true := clL_map fun x _ => by simp [D.cl]
theorem d_Calendar_init (kc : KCal K) : ∀ ds μ P PX, c_Calendar_init K ds μ P PX → MuCl μ μ.length → clL ds μ.length = true → ∀ B E, XAg K B (RetX μ.length PX) E → DS K B (t_Calendar_init K E) (startD ["self", "years", "days"] ds) μ (fnE μ.length P) := by
  intro ds μ P PX h hm hc B E hE
  obtain ⟨k, x, d, rfl, hk, fz, hd, h1, h2⟩ := h
  show DS K B _ [some (.own k), some x, none] μ _
  have c1 := kc.cl; have c2 := kc.lengths; have c3 := kc.begins; have c4 := kc.whole
  unfold t_Calendar_init
  wtm_at "A"
  refine ⟨x, d, 20, 1, 400, rfl, fz, hd, by decide, ?_⟩
  wtm_at "A"
  · exact ds_raise0 hE (retx_same0 hm rfl (h2 ‹_›))
  · rename_i hs
    obtain ⟨ls, rfl, hg⟩ := areNums_cal hs
    have hl : Ls μ x (ls.map D.int) := by
      cases fz with
      | id => exact .lst _
      | own h => exact .own h
    have kl := (List.getElem?_eq_some_iff.mp hk).1
    have hset : ∀ z, (μ.set k z)[k]? = some z := fun z => set_get hk
    have hlen : ∀ z : MO, (List.set μ k z).length = μ.length := fun z => by simp
    refine rc_list hl ?_
    wtm_at "A"
    refine pp_own hk c1 c2 (of_decide_eq_true (by rfl)) ?_
    wtm_at "A"
    refine de_lstOZ ?_
    wtm_at "A"
    rw [hlen]
    refine pp_own (mu_old (hset _)) c1 c3 (of_decide_eq_true (by rfl)) ?_
    rw [set_old (hset _), set_set']
    wtm_at "A"
    refine pp_own (mu_old (hset _)) c1 c4 (of_decide_eq_true (by rfl)) ?_
    rw [set_old (hset _), set_set']
    refine ds_ghostN ?_
    refine ds_for ?_
    wtm_at "A"
    refine fp_own (mu_old (hset _)) c1 c2 rfl ?_
    refine ⟨_, _, .lst _, fun i ρ μ' => ∃ y2, ρ = [some (.own k), some x, y2] ∧ μ' = μ.set k (.ins (cCal K) [("lengths", intsD ls), ("begins", .own μ.length), ("whole", .int (preY ls i))]) ++ [.lst (((List.range i).map (preY ls)).map D.int)],
      ⟨none, rfl, rfl⟩, fun _ _ _ _ _ => trivial, ?_, ?_⟩
    · rintro i d ρ μ' hd' ⟨y2, rfl, rfl⟩
      rw [List.getElem?_map] at hd'
      cases q : ls[i]? with
      | none => rw [q] at hd'; cases hd'
      | some n =>
        rw [q] at hd'
        obtain rfl : D.int n = d := Option.some.inj hd'
        have hi := (List.getElem?_eq_some_iff.mp q).1
        have hmost := hg.most
        have hlast : ∀ z : MO, ∀ o : MO, (μ.set k z ++ [o])[μ.length]? = some o := fun z o => by rw [← hlen z]; exact mu_last
        have hsetl : ∀ z : MO, ∀ o o' : MO, (μ.set k z ++ [o]).set μ.length o' = μ.set k z ++ [o'] := fun z o o' => by rw [← hlen z]; exact set_last
        wtm_at "A"
        refine fp_own (mu_old (hset _)) c1 c3 rfl ?_
        refine ⟨ty_list (.own (hlast _ _)), ?_⟩
        wtm_at "A"
        refine fp_own (mu_old (hset _)) c1 c4 rfl ?_
        wtm_at "A"
        refine rm_app (hlast _ _) (by simp; omega) ?_
        rw [hsetl]
        refine ds_fldAug ?_
        wtm_at "A"
        refine ⟨k, _, _, _, rfl, mu_old (hset _), c1, c4, rfl, ?_⟩
        wtm_at "A"
        refine ro_add ?_
        refine ⟨_, mu_old (hset _), by simp, ?_⟩
        rw [set_old (hset _), set_set']
        refine ⟨_, rfl, ?_⟩
        rw [← preY_succ q, List.range_succ, List.map_append, List.map_append]
        rfl
    · rintro ρ μ' ⟨y2, rfl, rfl⟩
      rw [List.length_map]
      have hlast : ∀ z : MO, ∀ o : MO, (μ.set k z ++ [o])[μ.length]? = some o := fun z o => by rw [← hlen z]; exact mu_last
      have hsetl : ∀ z : MO, ∀ o o' : MO, (μ.set k z ++ [o]).set μ.length o' = μ.set k z ++ [o'] := fun z o o' => by rw [← hlen z]; exact set_last
      refine ⟨_, gh_fld (f := "begins") (mu_old (hset _)) rfl (hlast _ _), ?_⟩
      rw [hsetl, set_old (hset _), set_set', preY_all]
      refine ret_same (by simp) ?_ rfl (h1 ls rfl hg)
      rw [hlen]
      refine hm.set ?_
      show clF (calF ls) _ = true
      simp only [clF, calF, D.cl, intsD, cl_ints, Bool.and_self]
theorem d_Calendar_years (kc : KCal K) : ∀ ds μ P PX, c_Calendar_years K ds μ P PX → MuCl μ μ.length → clL ds μ.length = true → ∀ B E, XAg K B (RetX μ.length PX) E → DS K B (t_Calendar_years K E) (startD ["self"] ds) μ (fnE μ.length P) := by
  intro ds μ P PX h hm hc B E hE
  obtain ⟨ls, rfl, h⟩ := h
  show DS K B _ [some (calD K ls)] μ _
  have c1 := kc.cl; have c2 := kc.lengths; have c3 := kc.begins; have c4 := kc.whole
  unfold t_Calendar_years
  rcases h with h | h
  · wtm_at "A"
    exact ret_same0 (Nat.le_refl _) hm (by simp [D.cl, cl_ints]) h
  · refine ds_ret (de_cb ?_)
    refine da_cons ?_
    wtm_at "f3"
    wtm_at "v"
    wtm_at "p3"
    wtm_at "dO"
    refine rc_listO (.lst _) ?_
    exact ret_same0 (by simp) (hm.app (by simp [MO.cl, cl_ints])) (by simp [D.cl]) h
theorem at_map {α : Type} {f : α → D} {xs : List α} {i : Int} {j : Nat} {x : α} (e : i = (j : Int)) (h : xs[j]? = some x) : atI (xs.map f) i = some (f x) := by
  rw [e]
  exact atI_nat (by rw [List.getElem?_map, h]; rfl)
theorem d_Calendar_long (kc : KCal K) : ∀ ds μ P PX, c_Calendar_long K ds μ P PX → MuCl μ μ.length → clL ds μ.length = true → ∀ B E, XAg K B (RetX μ.length PX) E → DS K B (t_Calendar_long K E) (startD ["self", "year"] ds) μ (fnE μ.length P) := by
  intro ds μ P PX h hm hc B E hE
  obtain ⟨ls, y, rfl, hg, h, hx⟩ := h
  show DS K B _ [some (calD K ls), some (.int y)] μ _
  have c1 := kc.cl; have c2 := kc.lengths; have c3 := kc.begins; have c4 := kc.whole
  have hp := hg.pos
  unfold t_Calendar_long
  wtm_at "A"
  refine ⟨y, rfl, fun hy => ?_, fun hy => retx_same0 hm rfl (hx hy)⟩
  wtm_at "A"
  refine ro_mod (by simp; omega) ?_
  have h1 := Int.emod_nonneg y (b := (ls.length : Int)) (by omega)
  rw [List.length_map]
  refine ro_ixL (.lst _) (at_map (j := (y % ls.length).toNat) (by omega) (longY_get hg hy)) ?_
  wtm_at "r"
  exact h hy
theorem d_Calendar_first (kc : KCal K) : ∀ ds μ P PX, c_Calendar_first K ds μ P PX → MuCl μ μ.length → clL ds μ.length = true → ∀ B E, XAg K B (RetX μ.length PX) E → DS K B (t_Calendar_first K E) (startD ["self", "year", "turns", "place"] ds) μ (fnE μ.length P) := by
  intro ds μ P PX h hm hc B E hE
  obtain ⟨ls, y, rfl, hg, h, hx⟩ := h
  show DS K B _ [some (calD K ls), some (.int y), none, none] μ _
  have c1 := kc.cl; have c2 := kc.lengths; have c3 := kc.begins; have c4 := kc.whole
  have hp := hg.pos; have hm20 := hg.most
  have hs := hg.sum_pos; have hs2 := hg.sum_le
  unfold t_Calendar_first
  wtm_at "A"
  refine ⟨y, rfl, fun hy => ?_, fun hy => retx_same0 hm rfl (hx hy)⟩
  wtm_at "A"
  rw [List.length_map]
  refine rc_divmod ⟨by omega, by omega⟩ ?_
  have h1 := Int.emod_nonneg y (b := (ls.length : Int)) (by omega)
  have h2 := Int.emod_lt_of_pos y (b := (ls.length : Int)) (by omega)
  wtm_at "A"
  refine ro_ixL (.lst _) (at_map (j := (y % ls.length).toNat) (by omega) (begins_get (by omega))) ?_
  wtm_at "A"
  wtm_at "r"
  exact h hy
end
/-! ### the year of a day -/
/-! ### draws of the calendar laws: contracts -/
/-- what is held: how many draws so far, the cells -/
structure Hd (k k2 : Nat) (c : Int) (ns : List Int) (μ : Mu) : Prop where
  a : μ[k]? = some (.lst [.int c, .own k2])
  b : μ[k2]? = some (.lst (ns.map D.int))
  ne : k ≠ k2
  c0 : 0 ≤ c
  n0 : 0 < ns.length
  n1 : ns.length ≤ 1000
def hold (μ : Mu) (k k2 : Nat) (c : Int) (ns : List Int) : Mu := (μ.set k (.lst [.int c, .own k2])).set k2 (.lst (ns.map D.int))
theorem hold_len {μ : Mu} {k k2 : Nat} {c : Int} {ns : List Int} : (hold μ k k2 c ns).length = μ.length := by simp [hold]
theorem hold_hold {μ : Mu} {k k2 : Nat} {c c' : Int} {ns ns' : List Int} (ne : k ≠ k2) : hold (hold μ k k2 c ns) k k2 c' ns' = hold μ k k2 c' ns' := by
  unfold hold
  rw [List.set_comm _ _ (Ne.symm ne), List.set_set, List.set_set]
theorem Hd.hold {μ : Mu} {k k2 : Nat} {c c' : Int} {ns ns' : List Int} (h : Hd k k2 c ns μ) (hc : 0 ≤ c') (hn : ns'.length = ns.length) : Hd k k2 c' ns' (Dl.hold μ k k2 c' ns') := by
  have h1 := (List.getElem?_eq_some_iff.mp h.a).1
  have h2 := (List.getElem?_eq_some_iff.mp h.b).1
  refine ⟨?_, ?_, h.ne, hc, by have := h.n0; omega, by have := h.n1; omega⟩
  · unfold Dl.hold
    rw [List.getElem?_set_ne (Ne.symm h.ne), List.getElem?_set_self h1]
  · unfold Dl.hold
    rw [List.getElem?_set_self (by simpa using h2)]
theorem Hd.app {μ : Mu} {k k2 : Nat} {c : Int} {ns : List Int} (h : Hd k k2 c ns μ) (ext : Mu) : Hd k k2 c ns (μ ++ ext) := ⟨mu_old h.a, mu_old h.b, h.ne, h.c0, h.n0, h.n1⟩
theorem hold_app {μ ext : Mu} {k k2 : Nat} {c c' : Int} {ns ns' : List Int} (h : Hd k k2 c ns μ) : hold (μ ++ ext) k k2 c' ns' = hold μ k k2 c' ns' ++ ext := by
  have h1 := (List.getElem?_eq_some_iff.mp h.a).1
  have h2 := (List.getElem?_eq_some_iff.mp h.b).1
  unfold hold
  rw [List.set_append_left _ _ h1, List.set_append_left _ _ (by simpa using h2)]
theorem hold_same {μ : Mu} {k k2 : Nat} {c : Int} {ns : List Int} (h : Hd k k2 c ns μ) : hold μ k k2 c ns = μ := by
  unfold hold
  have h1 : (μ.set k (.lst [.int c, .own k2])) = μ := by
    apply List.ext_getElem?
    intro i
    by_cases e : k = i
    · subst e; rw [List.getElem?_set_self (List.getElem?_eq_some_iff.mp h.a).1, h.a]
    · rw [List.getElem?_set_ne e]
  rw [h1]
  apply List.ext_getElem?
  intro i
  by_cases e : k2 = i
  · subst e; rw [List.getElem?_set_self (List.getElem?_eq_some_iff.mp h.b).1, h.b]
  · rw [List.getElem?_set_ne e]
theorem Hd.cl {μ : Mu} {k k2 : Nat} {c c' : Int} {ns ns' : List Int} (h : Hd k k2 c ns μ) (hm : MuCl μ μ.length) : MuCl (Dl.hold μ k k2 c' ns') (Dl.hold μ k k2 c' ns').length := by
  have h2 := (List.getElem?_eq_some_iff.mp h.b).1
  rw [hold_len]
  unfold Dl.hold
  refine (hm.set ?_).set ?_
  · simp [MO.cl, clL, D.cl, h2]
  · simp only [MO.cl]
    exact clL_map fun x _ => by simp [D.cl]
def c_law_draw (K : PySem.W.Frag) : CT := fun ds μ P PX => ∃ (k k2 : Nat) (c : Int) (ns : List Int) (m : Int), ds = [.own k, .int m] ∧ Hd k k2 c ns μ ∧ c < 2 ^ 40 ∧ 0 < m ∧ m < 2 ^ 200 ∧ ∀ (r : Int) (ns' : List Int), 0 ≤ r → r < m → ns'.length = ns.length → P (.int r) (hold μ k k2 (c + 1) ns')
def c_law_lengths (K : PySem.W.Frag) : CT := fun ds μ P PX => ∃ (k k2 : Nat) (c : Int) (ns : List Int) (most many : Int), ds = [.own k, .int most, .int many] ∧ Hd k k2 c ns μ ∧ c < 2 ^ 39 ∧ 1 ≤ most ∧ most ≤ 1000 ∧ 1 ≤ many ∧ many ≤ 100 ∧
  ∀ (ls : List Int) (c' : Int) (ns' : List Int), 0 < ls.length → (ls.length : Int) ≤ many → (∀ x ∈ ls, 1 ≤ x ∧ x ≤ max 5 most) → c ≤ c' → c' ≤ c + 2 + many → ns'.length = ns.length → P (intsD ls) (hold μ k k2 c' ns')
/-- a list, a tuple of whole numbers -/
inductive SeqI (μ : Mu) : Bool → D → List Int → Prop
  | lst (xs : List Int) : SeqI μ true (.lst (xs.map D.int)) xs
  | own {k : Nat} {xs : List Int} (h : μ[k]? = some (.lst (xs.map D.int))) : SeqI μ true (.own k) xs
  | tup (xs : List Int) : SeqI μ false (.tup (xs.map D.int)) xs
def t_law_draw (K : PySem.W.Frag) (E : XK) : TS :=
    (tSeq (tAsg (tOp rModA (tOp (rIx K) (tVar 0) (tC (.int 0))) (tCB (rLen K) (tCons (tOp (rIx K) (tVar 0) (tC (.int 1))) tNil))) (gName 2))
      (tSeq (tAsg (tOp (rIx K) (tOp (rIx K) (tVar 0) (tC (.int 1))) (tVar 2)) (gName 3))
      (tSeq (tAugS (tVar 0) (tC (.int 0)) (tC (.int 1)) (rIxL K) (ipI fun i j => i + j) rSetL)
      (tSeq (tIfS (tTest (tOp (rI0 fun i j => .bl (decide (j ≤ i))) (tVar 3) (tC (.int 1000000000000000000)))) (tSeq (tAsg (tOp rFdivA (tVar 3) (tVar 1)) (gSub (tOp (rIx K) (tVar 0) (tC (.int 1))) (tVar 2) rSetL))
      (tRet (tOp rModA (tVar 3) (tVar 1)))) tNext)
      (tSeq (tAsg (tOp rModA (tOp (rAddA K) (tOp rModA (tVar 3) (tC (.int 2147483629))) (tOp rMulA (tC (.int 104729)) (tOp (rIx K) (tVar 0) (tC (.int 0))))) (tC (.int 2147483647))) (gName 4))
      (tSeq (tAsg (tOp rModA (tOp rMulA (tOp rModA (tOp (rI CPow fun i j => .int (i ^ j.toNat)) (tVar 4) (tC (.int 5))) (tC (.int 2147483647))) (tC (.int 48271))) (tC (.int 2147483629))) (gName 4))
      (tRet (tOp rModA (tOp rFdivA (tOp rModA (tOp (rI CPow fun i j => .int (i ^ j.toNat)) (tOp (rAddA K) (tVar 4) (tOp rMulA (tOp rModA (tVar 3) (tC (.int 1000003))) (tOp (rIx K) (tVar 0) (tC (.int 0))))) (tC (.int 3))) (tC (.int 2147483587))) (tC (.int 11))) (tVar 1)))))))))
def t_law_lengths (K : PySem.W.Frag) (E : XK) : TS :=
    (tSeq (tAsg (tCall (spD K (c_law_draw K)) [] E (tCons (tVar 0) (tCons (tC (.int 8)) tNil))) (gName 3))
      (tSeq (tIfS (tTest (tOp (rEqD K) (tVar 3) (tC (.int 0)))) (tRet (tOp rMulA (tLst (tCons (tVar 1) tNil)) (tVar 2))) tNext)
      (tSeq (tAsg (tOp (rIx K) (tLst (tCons (tC (.int 1)) (tCons (tC (.int 2)) (tCons (tC (.int 5)) (tCons (tVar 1) (tCons (tVar 1) (tCons (tVar 1) (tCons (tVar 1) tNil)))))))) (tOp (rI0 fun i j => .int (i - j)) (tVar 3) (tC (.int 1)))) (gName 4))
      (tRet (tLc (iRng1 (tCons (tOp (rAddA K) (tC (.int 1)) (tCall (spD K (c_law_draw K)) [] E (tCons (tVar 0) (tCons (tVar 2) tNil)))) tNil)) (gName 5) tYes (tOp (rAddA K) (tC (.int 1)) (tCall (spD K (c_law_draw K)) [] E0 (tCons (tVar 0) (tCons (tVar 4) tNil)))) [5])))))
section
variable {K : PySem.W.Frag}
theorem d_law_draw : ∀ ds μ P PX, c_law_draw K ds μ P PX → MuCl μ μ.length → clL ds μ.length = true → ∀ B E, XAg K B (RetX μ.length PX) E → DS K B (t_law_draw K E) (startD ["_law_hold", "_law_many", "_law_spot", "_law_cell", "_law_mark"] ds) μ (fnE μ.length P) := by
  intro ds μ P PX h hm hc B E hE
  obtain ⟨k, k2, c, ns, m, rfl, hd, hc40, hm0, hm1, h⟩ := h
  show DS K B _ [some (.own k), some (.int m), none, none, none] μ _
  have hn0 := hd.n0; have hc0 := hd.c0
  unfold t_law_draw
  wtm_at "A"
  refine ro_ixL (.own hd.a) (d := .int c) rfl ?_
  wtm_at "A"
  refine ro_ixL (.own hd.a) (d := .own k2) rfl ?_
  wtm_at "A"
  refine rc_lenL (.own hd.b) ?_
  rw [List.length_map]
  wtm_at "A"
  refine ro_ixL (.own hd.a) (d := .own k2) rfl ?_
  have hs0 := Int.emod_nonneg c (b := (ns.length : Int)) (by omega)
  have hs1 := Int.emod_lt_of_pos c (b := (ns.length : Int)) (by omega)
  obtain ⟨cell, hcell, hcell'⟩ := atNN (xs := ns) hs0 hs1
  wtm_at "A"
  refine ro_ixL (.own hd.b) (d := .int cell) (at_map (j := (c % ns.length).toNat) (by omega) hcell') ?_
  wtm_at "A"
  refine q_augS ?_
  wtm_at "A"
  refine ro_ixLL (.own hd.a) (d := .int c) rfl ?_
  wtm_at "A"
  refine rset_lst hd.a (j := 0) rfl ?_
  have e1 : (μ.set k (.lst ([D.int c, .own k2].set 0 (.int (c + 1))))) = hold μ k k2 (c + 1) ns := by
    unfold hold
    show μ.set k (.lst [.int (c + 1), .own k2]) = _
    apply List.ext_getElem?
    intro i
    by_cases e : k2 = i
    · subst e
      rw [List.getElem?_set_self (by simpa using (List.getElem?_eq_some_iff.mp hd.b).1), List.getElem?_set_ne hd.ne, hd.b]
    · rw [List.getElem?_set_ne e]
  rw [e1]
  have hd1 : Hd k k2 (c + 1) ns (hold μ k k2 (c + 1) ns) := hd.hold (by omega) rfl
  have ret : ∀ (r : Int) (ns' : List Int), 0 ≤ r → r < m → ns'.length = ns.length → Ret μ.length P (.int r) (hold μ k k2 (c + 1) ns') := fun r ns' h0 h1 hn => ret_same0 (by rw [hold_len]; exact Nat.le_refl _) (hd.cl hm) rfl (h r ns' h0 h1 hn)
  have hr : ∀ z : Int, 0 ≤ z % m ∧ z % m < m := fun z => ⟨Int.emod_nonneg z (by omega), Int.emod_lt_of_pos z hm0⟩
  wtm_at "A"
  · refine ro_fdiv hm0 (log2S hm0 hm1) ?_
    wtm_at "A"
    refine ro_ixL (.own hd1.a) (d := .own k2) rfl ?_
    wtm_at "A"
    refine rset_lst hd1.b (j := (c % ns.length).toNat) (by unfold ixN; rw [if_pos hs0, if_pos (by rw [List.length_map]; omega)]) ?_
    rw [show (hold μ k k2 (c + 1) ns).set k2 (.lst ((ns.map D.int).set (c % ns.length).toNat (.int (cell / m)))) = hold μ k k2 (c + 1) (ns.set (c % ns.length).toNat (cell / m)) by
      unfold hold
      rw [List.set_set, List.map_set]]
    wtm_at "A"
    exact ret _ _ (hr _).1 (hr _).2 (by simp)
  · have q1 := Int.emod_nonneg cell (b := 2147483629) (by decide)
    have q2 := Int.emod_lt_of_pos cell (b := 2147483629) (by decide)
    have q3 := Int.emod_nonneg cell (b := 1000003) (by decide)
    have q4 := Int.emod_lt_of_pos cell (b := 1000003) (by decide)
    refine ro_ixL (.own hd1.a) (d := .int (c + 1)) rfl ?_
    wtm_at "A"
    have q5 := Int.emod_nonneg (cell % 2147483629 + 104729 * (c + 1)) (b := 2147483647) (by decide)
    have q6 := Int.emod_lt_of_pos (cell % 2147483629 + 104729 * (c + 1)) (b := 2147483647) (by decide)
    refine ro_pow ⟨by decide, by decide, by omega⟩ ?_
    generalize hz : (cell % 2147483629 + 104729 * (c + 1)) % 2147483647 = z at *
    wtm_at "A"
    refine ro_ixL (.own hd1.a) (d := .int (c + 1)) rfl ?_
    wtm_at "A"
    generalize hy : z ^ (5 : Int).toNat % 2147483647 * 48271 % 2147483629 = y at *
    have q7 : 0 ≤ y ∧ y < 2147483629 := by
      rw [← hy]
      exact ⟨Int.emod_nonneg _ (by decide), Int.emod_lt_of_pos _ (by decide)⟩
    have q8 : 0 ≤ cell % 1000003 * (c + 1) ∧ cell % 1000003 * (c + 1) ≤ 1000003 * (2 ^ 40 + 1) := by
      refine ⟨Int.mul_nonneg q3 (by omega), ?_⟩
      exact Int.mul_le_mul (by omega) (by omega) (by omega) (by decide)
    refine ro_pow ⟨by decide, by decide, by omega⟩ ?_
    wtm_at "A"
    refine ro_fdiv (by decide) (by decide) ?_
    wtm_at "A"
    exact ret _ _ (hr _).1 (hr _).2 rfl
theorem d_law_lengths : ∀ ds μ P PX, c_law_lengths K ds μ P PX → MuCl μ μ.length → clL ds μ.length = true → ∀ B E, XAg K B (RetX μ.length PX) E → DS K B (t_law_lengths K E) (startD ["_law_hold", "_law_most", "_law_many", "_law_way", "_law_some", "_law_k"] ds) μ (fnE μ.length P) := by
  intro ds μ P PX h hm hc B E hE
  obtain ⟨k, k2, c, ns, most, many, rfl, hd, hc39, hm0, hm1, hy0, hy1, h⟩ := h
  show DS K B _ [some (.own k), some (.int most), some (.int many), none, none, none] μ _
  have hn0 := hd.n0; have hc0 := hd.c0
  have ret : ∀ (ls : List Int) (c' : Int) (ns' : List Int), 0 < ls.length → (ls.length : Int) ≤ many → (∀ x ∈ ls, 1 ≤ x ∧ x ≤ max 5 most) → c ≤ c' → c' ≤ c + 2 + many → ns'.length = ns.length → Ret μ.length P (.lst (ls.map D.int)) (hold μ k k2 c' ns') := fun ls c' ns' h0 h1 h2 h3 h4 hn => ret_same0 (by rw [hold_len]; exact Nat.le_refl _) (hd.cl hm) (by simp [D.cl, cl_ints]) (h ls c' ns' h0 h1 h2 h3 h4 hn)
  unfold t_law_lengths
  wtm_at "A"
  refine ⟨k, k2, c, ns, 8, rfl, hd, by omega, by decide, by decide, fun w ns1 hw0 hw1 hn1 => ?_⟩
  have hd1 := hd.hold (c' := c + 1) (ns' := ns1) (by omega) hn1
  wtm_at "A"
  · refine de_lstZ ?_
    wtm_at "A"
    refine ro_rep (.lst _) (by omega) (by simp; omega) ?_
    have e : repD [D.int most] many = (List.replicate many.toNat most).map D.int := by
      simp [repD]
    rw [e]
    exact ret _ _ ns1 (by simp; omega) (by simp; omega) (fun x hx => by rw [List.mem_replicate] at hx; omega) (by omega) (by omega) hn1
  · refine de_lstZ ?_
    wtm_at "A"
    obtain ⟨top, htop, ht0, ht1⟩ : ∃ top, atI [D.int 1, .int 2, .int 5, .int most, .int most, .int most, .int most] (w - 1) = some (.int top) ∧ 0 < top ∧ top ≤ max 5 most := by
      have hw : w - 1 = 0 ∨ w - 1 = 1 ∨ w - 1 = 2 ∨ w - 1 = 3 ∨ w - 1 = 4 ∨ w - 1 = 5 ∨ w - 1 = 6 := by omega
      rcases hw with e | e | e | e | e | e | e <;> rw [e]
      · exact ⟨1, rfl, by omega, by omega⟩
      · exact ⟨2, rfl, by omega, by omega⟩
      · exact ⟨5, rfl, by omega, by omega⟩
      all_goals exact ⟨most, rfl, by omega, by omega⟩
    refine ro_ixL (.lst _) htop ?_
    wtm_at "A"
    refine de_lc (gw_name (by simp)) ?_
    wtm_at "A"
    refine ⟨k, k2, _, ns1, many, rfl, hd1, by omega, by omega, by omega, fun n ns2 hn0' hn1' hn2 => ?_⟩
    rw [hold_hold hd.ne]
    wtm_at "A"
    refine ⟨by omega, by omega, by rw [rangeD_length]; omega, fun i acc μ' => ∃ (ls ns3 : List Int), acc = ls.map D.int ∧ μ' = hold μ k k2 (c + 2 + i) ns3 ∧ ns3.length = ns.length ∧ ls.length = i ∧ ∀ x ∈ ls, 1 ≤ x ∧ x ≤ max 5 most,
      ⟨[], ns2, rfl, by rw [show c + 1 + 1 = c + 2 + ((0 : Nat) : Int) by omega], by omega, rfl, by simp⟩, fun _ _ _ _ _ => trivial, ?_, ?_⟩
    · rintro i d acc μ' hd' ⟨ls, ns3, rfl, rfl, hn3, hli, hls⟩
      obtain ⟨hi, rfl⟩ := rangeD_some hd'
      have hd3 := hd.hold (c' := c + 2 + i) (ns' := ns3) (by omega) hn3
      wtm_at "E"
      refine de_call XAg.none ?_
      wtm_at "E"
      refine ⟨k, k2, _, ns3, top, rfl, hd3, by omega, ht0, by omega, fun r ns4 hr0 hr1 hn4 => ?_⟩
      rw [hold_hold hd.ne]
      wtm_at "E"
      refine ⟨ls ++ [1 + r], ns4, by simp, by rw [show c + 2 + (i : Int) + 1 = c + 2 + ((i + 1 : Nat) : Int) by omega], by omega, by simp [hli], fun x hx => ?_⟩
      rcases List.mem_append.mp hx with m | m
      · exact hls x m
      · simp at m; subst m; omega
    · rintro acc μ' ⟨ls, ns3, rfl, rfl, hn3, hli, hls⟩
      rw [rangeD_length] at hli ⊢
      exact ret ls _ ns3 (by omega) (by omega) hls (by omega) (by omega) hn3
theorem SeqI.len {μ : Mu} {b : Bool} {x : D} {xs : List Int} {P : D → Mu → Prop} (h : SeqI μ b x xs) (p : P (.int (xs.length : Int)) μ) : RC K (rLen K) [x] μ P := by
  have e : ((xs.map D.int).length : Int) = (xs.length : Int) := by rw [List.length_map]
  cases h with
  | lst => exact rc_lenL (.lst _) (by rw [e]; exact p)
  | own h => exact rc_lenL (.own h) (by rw [e]; exact p)
  | tup => exact rc_lenT' (.tup _) (by rw [e]; exact p)
end
section
variable {K : PySem.W.Frag}
/-- hold = [0, list(script) if script != [] else [0]] -/
theorem de_hold0 {B : Bs} {ρ : En} {μ : Mu} {ns : List Int} {P : D → Mu → Prop} (e : ρ[0]? = some (some (.rdl (ns.map D.int)))) (hl : ns.length ≤ 63) (h : ∀ cs : List Int, Hd (μ.length + 1) μ.length 0 cs (μ ++ [.lst (cs.map D.int), .lst [.int 0, .own μ.length]]) → P (.own (μ.length + 1)) (μ ++ [.lst (cs.map D.int), .lst [.int 0, .own μ.length]])) :
    DE K B (tLst (tCons (tC (.int 0)) (tCons (tIf (tTest (tOp (rNeD K) (tVar 0) (tLst tNil))) (tCB (rListOf K) (tCons (tVar 0) tNil)) (tLst (tCons (tC (.int 0)) tNil))) tNil))) ρ μ P := by
  have fin : ∀ cs : List Int, 0 < cs.length → cs.length ≤ 63 → P (.own (μ ++ [MO.lst (cs.map D.int)]).length) (μ ++ [MO.lst (cs.map D.int)] ++ [MO.lst [.int 0, .own μ.length]]) := fun cs h0 h1 => by
    have := h cs ⟨by rw [List.getElem?_append_right (by omega)]; simp, by rw [List.getElem?_append_right (by omega)]; simp, by omega, by omega, h0, by omega⟩
    rw [List.append_assoc, List.length_append]
    exact this
  refine de_lstOZ ?_
  wtm_at "E"
  refine de_lstZ ?_
  wtm_at "E"
  refine ro_neD (n := 1) (m := 1) (.id _) (.id _) (by simpa [D.shp] using shpL_map (f := D.int) (n := 0) fun x _ => rfl) rfl ?_
  rw [show eqvD (.rdl (ns.map D.int)) (.lst []) = decide (ns = []) by
    have := eqv_nil (ns.map D.int)
    simp only [List.map_eq_nil_iff] at this
    rw [← this]
    simp only [eqvD, D.py]]
  wtm_at "E"
  · rename_i hb
    refine rc_listO (.rdl _) ?_
    wtm_at "E"
    exact fin ns (by cases ns with
      | nil => simp at hb
      | cons _ _ => simp) hl
  · refine de_lstOZ ?_
    wtm_at "E"
    exact fin [0] (by decide) (by decide)
theorem Fz.app {μ : Mu} {x d : D} (h : Fz μ x d) (ext : Mu) : Fz (μ ++ ext) x d := by
  cases h with
  | id => exact .id _
  | own h => exact .own (mu_old h)
end
/-! ### feasts: contracts -/
def isNameD : D → Bool
  | .str s => decide (nameOk s)
  | _ => false
def c_is_name (K : PySem.W.Frag) : CT := fun ds μ P PX => ∃ x, ds = [x] ∧ x.dat = true ∧ (∀ s, x = .str s → s.length ≤ 100000) ∧ P (.bl (isNameD x)) μ
structure KeptOk (ys : List Int) : Prop where
  pos : 0 < ys.length
  most : ys.length ≤ 20
  each : ∀ y ∈ ys, 0 ≤ y ∧ y ≤ 19
  up : ∀ (i : Nat) (a b : Int), ys[i]? = some a → ys[i + 1]? = some b → a < b
def keptD : Option (List Int) → D
  | none => .non
  | some ys => intsD ys
def KeptO (k : Option (List Int)) : Prop := ∀ ys, k = some ys → KeptOk ys
def c_good_years (K : PySem.W.Frag) : CT := fun ds μ P PX => ∃ (x : D) (k : Option (List Int)), ds = [x] ∧ Fz μ x (keptD k) ∧ KeptO k ∧ P (.bl true) μ
def actD (p : Str × Str) : D := .tup [.str p.1, .str p.2]
def actsD (ps : List (Str × Str)) : D := .lst (ps.map actD)
structure ActsOk (ps : List (Str × Str)) : Prop where
  most : ps.length ≤ 4
  each : ∀ p ∈ ps, nameOk p.1 ∧ (p.2 = "off" ∨ p.2 = "rest")
  nd : (ps.map (·.1)).Nodup
def c_is_put (K : PySem.W.Frag) : CT := fun ds μ P PX => ∃ p : Str × Str, ds = [actD p] ∧ nameOk p.1 ∧ (p.2 = "off" ∨ p.2 = "rest") ∧ P (.bl true) μ
def c_good_puts (K : PySem.W.Frag) : CT := fun ds μ P PX => ∃ (x : D) (ps : List (Str × Str)), ds = [x] ∧ Fz μ x (actsD ps) ∧ ActsOk ps ∧ P (.bl true) μ
structure FeT where
  name : Str
  place : Int
  lasts : Int
  kept : Option (List Int)
  acts : List (Str × Str)
structure GFe (f : FeT) : Prop where
  name : nameOk f.name
  p0 : -400 ≤ f.place
  p1 : f.place ≤ 399
  l0 : 1 ≤ f.lasts
  l1 : f.lasts ≤ 40
  kept : KeptO f.kept
  acts : ActsOk f.acts
abbrev cFe (K : PySem.W.Frag) : Addr := He.ga K "Feast"
def feF (f : FeT) : List (Str × D) := [("name", .str f.name), ("place", .int f.place), ("lasts", .int f.lasts), ("kept", keptD f.kept), ("acts", actsD f.acts)]
def feD (K : PySem.W.Frag) (f : FeT) : D := .obj (cFe K) (feF f)
structure KFe (K : PySem.W.Frag) : Prop where
  cl : Cls K (cFe K)
  name : NoAttr K (cFe K) "name"
  place : NoAttr K (cFe K) "place"
  lasts : NoAttr K (cFe K) "lasts"
  kept : NoAttr K (cFe K) "kept"
  acts : NoAttr K (cFe K) "acts"
def c_Feast_init (K : PySem.W.Frag) : CT := fun ds μ P PX => ∃ (k : Nat) (f : FeT) (xk xp : D), ds = [.own k, .str f.name, .int f.place, .int f.lasts, xk, xp] ∧ μ[k]? = some (.ins (cFe K) []) ∧ GFe f ∧ Fz μ xk (keptD f.kept) ∧ Fz μ xp (actsD f.acts) ∧ P .non (μ.set k (.ins (cFe K) (feF f)))
/-- from which day up to which the feast is kept in that year -/
def keptIn (ls : List Int) (f : FeT) (y : Int) : Bool := match f.kept with
  | none => true
  | some ys => decide (y % ls.length ∈ ys)
def spanOf (ls : List Int) (f : FeT) (y : Int) : Option (Int × Int) :=
  if keptIn ls f y = false then none
  else
    let p := if 0 ≤ f.place then f.place else longY ls y + f.place
    if 0 ≤ p ∧ p < longY ls y then some (firstY ls y + p, firstY ls y + min (p + f.lasts) (longY ls y)) else none
def spanD : Option (Int × Int) → D
  | none => .non
  | some p => pairD p
def c_Feast_span (K : PySem.W.Frag) : CT := fun ds μ P PX => ∃ (f : FeT) (ls : List Int) (y : Int), ds = [feD K f, calD K ls, .int y] ∧ GCal ls ∧ (0 ≤ y → P (spanD (spanOf ls f y)) μ) ∧ (y < 0 → PX (He.ga K "NoDay") [] μ)
def t_is_name (K : PySem.W.Frag) (E : XK) : TS :=
    (tSeq (tIfS (tOr (tNot (tTruth K (tCB (rIsi K) (tCons (tVar 0) (tCons (tC (.ty "str")) tNil))))) (tNot (tTest (tChain (rI0 fun i j => .bl (decide (i ≤ j))) (rI0 fun i j => .bl (decide (i ≤ j))) (tC (.int 1)) (tCB (rLen K) (tCons (tVar 0) tNil)) (tC (.int 8)))))) (tRet (tC (.bl false))) tNext)
      (tRet (tCB (rAll K) (tCons (tLc (iAny K (tVar 0)) (gName 1) tYes (tOp (rInA K) (tVar 1) (tC (.str "abcdefghijklmnopqrstuvwxyz"))) [1]) tNil))))
def t_good_years (K : PySem.W.Frag) (E : XK) : TS :=
    (tSeq (tIfS (tB (tIsN (tVar 0))) (tRet (tC (.bl true))) tNext)
      (tRet (tAndV (tCall (spD K (c_are_numbers K)) [] E (tCons (tVar 0) (tCons (tC (.int 20)) (tCons (tC (.int 0)) (tCons (tC (.int 19)) tNil))))) (tCB (rAll K) (tCons (tLc (iRng1 (tCons (tOp (rI0 fun i j => .int (i - j)) (tCB (rLen K) (tCons (tVar 0) tNil)) (tC (.int 1))) tNil)) (gName 1) tYes (tOp (rI0 fun i j => .bl (decide (i < j))) (tOp (rIx K) (tVar 0) (tVar 1)) (tOp (rIx K) (tVar 0) (tOp (rAddA K) (tVar 1) (tC (.int 1))))) [1]) tNil)))))
def t_is_put (K : PySem.W.Frag) (E : XK) : TS :=
    (tRet (tAndV (tCB (rIsi K) (tCons (tVar 0) (tCons (tC (.ty "tuple")) tNil))) (tAndV (tOp (rEqD K) (tCB (rLen K) (tCons (tVar 0) tNil)) (tC (.int 2))) (tAndV (tCall (spD K (c_is_name K)) [] E (tCons (tOp (rIx K) (tVar 0) (tC (.int 0))) tNil)) (tOp (rInA K) (tOp (rIx K) (tVar 0) (tC (.int 1))) (tTup (tCons (tC (.str "off")) (tCons (tC (.str "rest")) tNil))))))))
def t_good_puts (K : PySem.W.Frag) (E : XK) : TS :=
    (tSeq (tIfS (tB (tIsN (tVar 0))) (tRet (tC (.bl true))) tNext)
      (tSeq (tIfS (tOr (tNot (tTruth K (tCB (rIsi K) (tCons (tVar 0) (tCons (tC (.ty "list")) tNil))))) (tOr (tTest (tOp (rI0 fun i j => .bl (decide (j < i))) (tCB (rLen K) (tCons (tVar 0) tNil)) (tC (.int 4)))) (tNot (tTruth K (tCB (rAll K) (tCons (tLc (iAny K (tVar 0)) (gName 1) tYes (tCall (spD K (c_is_put K)) [] E0 (tCons (tVar 1) tNil)) [1]) tNil)))))) (tRet (tC (.bl false))) tNext)
      (tRet (tOp (rEqD K) (tLenSetS K (tLc (iAny K (tVar 0)) (gTup K 2 (gCons (gName 2) (gCons (gName 3) gNil))) tYes (tVar 2) [2, 3])) (tCB (rLen K) (tCons (tVar 0) tNil))))))
def t_Feast_init (K : PySem.W.Frag) (E : XK) : TS :=
    (tSeq (tIfS (tOr (tNot (tTruth K (tCall (spD K (c_is_name K)) [] E (tCons (tVar 1) tNil)))) (tOr (tNot (tTruth K (tCall (spD K (c_is_number K)) [] E (tCons (tVar 2) (tCons (tUn (rU fun i => .int (-i)) (tC (.int 400))) (tCons (tC (.int 399)) tNil)))))) (tNot (tTruth K (tCall (spD K (c_is_number K)) [] E (tCons (tVar 3) (tCons (tC (.int 1)) (tCons (tC (.int 40)) tNil)))))))) (tRaise0 (He.ga K "BadFeast") E) tNext)
      (tSeq (tIfS (tOr (tNot (tTruth K (tCall (spD K (c_good_years K)) [] E (tCons (tVar 4) tNil)))) (tNot (tTruth K (tCall (spD K (c_good_puts K)) [] E (tCons (tVar 5) tNil))))) (tRaise0 (He.ga K "BadFeast") E) tNext)
      (tSeq (sFld K (tVar 0) (tVar 1) "name")
      (tSeq (sFld K (tVar 0) (tVar 2) "place")
      (tSeq (sFld K (tVar 0) (tVar 3) "lasts")
      (tSeq (sFld K (tVar 0) (tIf (tB (tIsN (tVar 4))) (tC .non) (tCB (rListOf K) (tCons (tVar 4) tNil))) "kept")
      (sFld K (tVar 0) (tIf (tB (tIsN (tVar 5))) (tLst tNil) (tCB (rListOf K) (tCons (tVar 5) tNil))) "acts")))))))
def t_Feast_span (K : PySem.W.Frag) (E : XK) : TS :=
    (tSeq (tDrop (tCall (spD K (c_need_day K)) [] E (tCons (tVar 2) tNil)))
      (tSeq (tIfS (tAnd (tB (tNotN (tFld K (tVar 0) "kept"))) (tTest (tOp (rNotInA K) (tOp rModA (tVar 2) (tCB (rLen K) (tCons (tMeth (He.ga K "Calendar") "years" (spD K (c_Calendar_years K)) [] E (tVar 1) tNil) tNil))) (tFld K (tVar 0) "kept")))) (tRet (tC .non)) tNext)
      (tSeq (tAsg (tMeth (He.ga K "Calendar") "long" (spD K (c_Calendar_long K)) [] E (tVar 1) (tCons (tVar 2) tNil)) (gName 3))
      (tSeq (tAsg (tIf (tTest (tOp (rI0 fun i j => .bl (decide (j ≤ i))) (tFld K (tVar 0) "place") (tC (.int 0)))) (tFld K (tVar 0) "place") (tOp (rAddA K) (tVar 3) (tFld K (tVar 0) "place"))) (gName 4))
      (tSeq (tIfS (tNot (tTest (tChain (rI0 fun i j => .bl (decide (i ≤ j))) (rI0 fun i j => .bl (decide (i < j))) (tC (.int 0)) (tVar 4) (tVar 3)))) (tRet (tC .non)) tNext)
      (tSeq (tAsg (tMeth (He.ga K "Calendar") "first" (spD K (c_Calendar_first K)) [] E (tVar 1) (tCons (tVar 2) tNil)) (gName 5))
      (tRet (tTup (tCons (tOp (rAddA K) (tVar 5) (tVar 4)) (tCons (tOp (rAddA K) (tVar 5) (tCB (rMinA K) (tCons (tOp (rAddA K) (tVar 4) (tFld K (tVar 0) "lasts")) (tCons (tVar 3) tNil)))) tNil))))))))))
section
variable {K : PySem.W.Frag}
theorem signs_get {s : Str} {i : Nat} {d : D} (h : (signsD s)[i]? = some d) : ∃ c, s.cps.toList[i]? = some c ∧ d = .str ⟨#[c]⟩ := by
  unfold signsD at h
  rw [List.getElem?_map] at h
  cases q : s.cps.toList[i]? with
  | none => rw [q] at h; cases h
  | some c => rw [q] at h; exact ⟨c, rfl, (Option.some.inj h).symm⟩
theorem d_is_name : ∀ ds μ P PX, c_is_name K ds μ P PX → MuCl μ μ.length → clL ds μ.length = true → ∀ B E, XAg K B (RetX μ.length PX) E → DS K B (t_is_name K E) (startD ["thing", "sign"] ds) μ (fnE μ.length P) := by
  intro ds μ P PX h hm hc B E hE
  obtain ⟨x, rfl, hd, hl, h⟩ := h
  show DS K B _ [some x, none] μ _
  unfold t_is_name
  by_cases hs : ∃ s, x = .str s
  · obtain ⟨s, rfl⟩ := hs
    have hl' := hl s rfl
    have no : ¬ (1 ≤ s.length ∧ s.length ≤ 8) → Ret μ.length P (.bl false) μ := fun hn => by
      have e : isNameD (.str s) = false := by
        simp only [isNameD, decide_eq_false_iff_not]
        exact fun hx => hn ⟨hx.1, hx.2.1⟩
      rw [e] at h
      wtm_at "r"
      exact h
    wtm_at "A"
    refine rc_lenS' hl' ?_
    wtm_at "A"
    · exact no (by omega)
    · refine lc_map (fun d => match d with | .str z => .bl (z.cps.toList.all fun c => decide (c ∈ letters)) | _ => .non) (gw_name (by simp)) ?_
      wtm_at "A"
      refine ⟨_, _, .str s, trivial, by simp [signsD]; unfold Str.length at hl'; omega, fun i d hd' => ?_, fun out ho => ?_⟩
      · obtain ⟨c, hc', rfl⟩ := signs_get hd'
        wtm_at "A"
        refine ⟨rfl, ?_⟩
        wtm_at "A"
        refine ro_inSg ?_
        refine ⟨?_, rfl⟩
        rw [letters_str]
        simp
      · wtm_at "A"
        refine rc_all (bs := s.cps.toList.map fun c => decide (c ∈ letters)) ?_ ?_
        · rw [← ho]
          unfold signsD
          rw [List.map_map, List.map_map]
          have : (fun c : Nat => D.bl (decide (c ∈ letters))) = ((fun d => match d with | .str z => D.bl (z.cps.toList.all fun c => decide (c ∈ letters)) | _ => .non) ∘ fun c => D.str ⟨#[c]⟩) := by
            funext c; simp
          rw [← this]
          exact .lst _
        wtm_at "r"
        rename_i h1 h2
        have e : isNameD (.str s) = ((s.cps.toList.map fun c => decide (c ∈ letters)).all id) := by
          simp only [isNameD]
          rw [Bool.eq_iff_iff]
          simp only [decide_eq_true_eq, List.all_map, List.all_eq_true, Function.comp, id]
          exact ⟨fun hx c hc => hx.2.2 c hc, fun hx => ⟨by omega, by omega, hx⟩⟩
        rw [e] at h
        exact h
    · exact no (by omega)
  · have hx : isTy x "str" = false := by
      cases x <;> first | rfl | exact absurd ⟨_, rfl⟩ hs
    wtm_at "A"
    · rename_i hb; rw [hx] at hb; cases hb
    · wtm_at "r"
      have e : isNameD x = false := by cases x <;> first | rfl | exact absurd ⟨_, rfl⟩ hs
      rw [e] at h
      exact h
theorem d_good_years : ∀ ds μ P PX, c_good_years K ds μ P PX → MuCl μ μ.length → clL ds μ.length = true → ∀ B E, XAg K B (RetX μ.length PX) E → DS K B (t_good_years K E) (startD ["years", "k"] ds) μ (fnE μ.length P) := by
  intro ds μ P PX h hm hc B E hE
  obtain ⟨x, k, rfl, fz, hk, h⟩ := h
  show DS K B _ [some x, none] μ _
  unfold t_good_years
  cases k with
  | none =>
    have hx : x = .non := by
      unfold keptD at fz
      cases fz with
      | id => rfl
    subst hx
    wtm_at "A"
    wtm_at "r"
    exact h
  | some ys =>
    have hy := hk ys rfl
    have hp := hy.pos; have hm20 := hy.most
    unfold keptD at fz
    have hne : x ≠ .non := by
      unfold intsD at fz
      intro e
      subst e
      cases fz
    have hl : Ls μ x (ys.map D.int) := by
      unfold intsD at fz
      cases fz with
      | id => exact .lst _
      | own h => exact .own h
    have hnum : areNums (intsD ys) 20 0 19 = true := by
      simp [areNums, intsD]
      refine ⟨by omega, fun y hy' => ?_⟩
      have := hy.each y hy'
      simp [isNum]; omega
    wtm_at "E"
    wtm_at "dS"
    wtm_at "E"
    refine np_f hne ?_
    wtm_at "A"
    refine ⟨x, intsD ys, 20, 0, 19, rfl, fz, ?_, by decide, ?_⟩
    · unfold intsD D.dat
      rw [datL_iff]
      intro z hz
      obtain ⟨w, _, rfl⟩ := List.mem_map.mp hz
      rfl
    rw [hnum]
    wtm_at "A"
    refine lc_map (fun _ => .bl true) (gw_name (by simp)) ?_
    wtm_at "A"
    refine rc_lenL hl ?_
    rw [List.length_map]
    wtm_at "A"
    refine ⟨by omega, by omega, trivial, by rw [rangeD_length]; omega, fun i d hd => ?_, fun out ho => ?_⟩
    · obtain ⟨hi, rfl⟩ := rangeD_some hd
      have e1 : ys[i]? = some (ys[i]'(by omega)) := List.getElem?_eq_getElem _
      have e2 : ys[i + 1]? = some (ys[i + 1]'(by omega)) := List.getElem?_eq_getElem _
      have hlt := hy.up i _ _ e1 e2
      wtm_at "A"
      refine ⟨rfl, ?_⟩
      wtm_at "A"
      refine ro_ixL hl (at_map (j := i) (by omega) e1) ?_
      wtm_at "A"
      refine ro_ixL hl (at_map (j := i + 1) (by omega) e2) ?_
      wtm_at "A"
      simp only [decide_eq_true hlt, and_self]
    · wtm_at "A"
      refine rc_all (bs := (rangeD 0 ((ys.length : Int) - 1).toNat).map fun _ => true) ?_ ?_
      · rw [← ho, List.map_map]
        exact .lst _
      wtm_at "r"
      rw [show ((rangeD 0 ((ys.length : Int) - 1).toNat).map fun _ => true).all id = true by simp]
      exact h
theorem d_is_put : ∀ ds μ P PX, c_is_put K ds μ P PX → MuCl μ μ.length → clL ds μ.length = true → ∀ B E, XAg K B (RetX μ.length PX) E → DS K B (t_is_put K E) (startD ["pair"] ds) μ (fnE μ.length P) := by
  intro ds μ P PX h hm hc B E hE
  obtain ⟨⟨n, s⟩, rfl, hn, hs, h⟩ := h
  show DS K B _ [some (.tup [.str n, .str s])] μ _
  simp only at hn hs
  unfold t_is_put
  wtm_at "A"
  refine ⟨.str n, rfl, rfl, fun z hz => by cases hz; have := hn.2.1; omega, ?_⟩
  rw [show isNameD (.str n) = true by simp [isNameD, hn]]
  wtm_at "A"
  refine ro_inTS (ns := ["off", "rest"]) (.tup _) ?_
  wtm_at "r"
  rw [show decide (s ∈ (["off", "rest"] : List Str)) = true by rcases hs with rfl | rfl <;> simp]
  exact h
theorem ded_nodup : ∀ (xs : List Str), xs.Nodup → ∀ i, i ≤ xs.length → DlSet.ded xs i = xs.take i
  | xs, h, 0, _ => by simp [DlSet.ded]
  | xs, h, i + 1, hi => by
    have e : xs[i]? = some (xs[i]'(by omega)) := List.getElem?_eq_getElem _
    rw [DlSet.ded_succ e, ded_nodup xs h i (by omega), if_neg, List.take_add_one, e]
    · rfl
    · intro hx
      rw [List.any_eq_true] at hx
      obtain ⟨y, hy, ey⟩ := hx
      have ey' : y = xs[i] := by simpa using ey
      subst ey'
      obtain ⟨j, hj, ej⟩ := List.mem_take_iff_getElem.mp hy
      have hj' : j < i := by omega
      exact (List.pairwise_iff_getElem.mp h j i (by omega) (by omega) hj') ej
theorem acts_get {ss : List (Str × Str)} {i : Nat} {d : D} (h : (ss.map actD)[i]? = some d) : ∃ s, ss[i]? = some s ∧ d = actD s := by
  rw [List.getElem?_map] at h
  cases q : ss[i]? with
  | none => rw [q] at h; cases h
  | some s => rw [q] at h; exact ⟨s, rfl, (Option.some.inj h).symm⟩
def actN : D → D
  | .tup [n, _] => n
  | _ => .non
theorem d_good_puts : ∀ ds μ P PX, c_good_puts K ds μ P PX → MuCl μ μ.length → clL ds μ.length = true → ∀ B E, XAg K B (RetX μ.length PX) E → DS K B (t_good_puts K E) (startD ["puts", "pair", "name", "sort"] ds) μ (fnE μ.length P) := by
  intro ds μ P PX h hm hc B E hE
  obtain ⟨x, ps, rfl, fz, hp, h⟩ := h
  show DS K B _ [some x, none, none, none] μ _
  have hm4 := hp.most
  have hne : x ≠ .non := by
    unfold actsD at fz
    intro e
    subst e
    cases fz
  have hl : Ls μ x (ps.map actD) := by
    unfold actsD at fz
    cases fz with
    | id => exact .lst _
    | own h => exact .own h
  have ht : tyD μ x = some "list" := by
    unfold actsD at fz
    cases fz with
    | id => rfl
    | own h => simp [tyD, h]
  obtain ⟨S, wk⟩ := hl.wk
  unfold t_good_puts
  wtm_at "E"
  wtm_at "dS"
  wtm_at "E"
  refine np_f hne ?_
  wtm_at "A"
  refine rc_isiB ht (by rfl) ?_
  wtm_at "A"
  refine rc_lenL hl ?_
  rw [List.length_map]
  wtm_at "A"
  refine lc_map (fun _ => .bl true) (gw_name (by simp)) ?_
  wtm_at "A"
  refine ⟨_, S, wk, wk.now, by simp; omega, fun i d hd => ?_, fun out ho => ?_⟩
  · obtain ⟨p, hpi, rfl⟩ := acts_get hd
    have := hp.each p (List.mem_of_getElem? hpi)
    wtm_at "A"
    refine ⟨rfl, de_call XAg.none ?_⟩
    wtm_at "A"
    exact ⟨p, rfl, this.1, this.2, rfl, rfl⟩
  wtm_at "A"
  refine rc_all (bs := ps.map fun _ => true) ?_ ?_
  · rw [← ho, List.map_map, List.map_map]
    exact .lst _
  rw [show (ps.map fun _ => true).all id = true by simp]
  wtm_at "A"
  refine de_lenSetS ?_
  refine lc_map actN (gw_tup (gws_cons (i := 2) (vs := [2, 3]) (by simp) (gws_cons (i := 3) (by simp) gws_nil))) ?_
  wtm_at "A"
  refine ⟨_, S, wk, wk.now, by simp; omega, fun i d hd => ?_, fun out ho => ?_⟩
  · obtain ⟨p, hpi, rfl⟩ := acts_get hd
    wtm_at "A"
    refine ⟨rfl, ?_⟩
    wtm_at "A"
    exact ⟨rfl, rfl⟩
  refine ⟨ps.map (·.1), by rw [← ho, List.map_map, List.map_map]; exact .lst _, by simp; omega, ?_⟩
  rw [ded_nodup _ hp.nd _ (Nat.le_refl _), List.take_length, List.length_map]
  wtm_at "A"
  refine rc_lenL hl ?_
  rw [List.length_map]
  wtm_at "A"
  wtm_at "r"
  simpa using h
theorem cl_kept (k : Option (List Int)) (n : Nat) : (keptD k).cl n = true := by
  cases k with
  | none => rfl
  | some ys => simp only [keptD, intsD, D.cl, cl_ints]
theorem cl_acts (ps : List (Str × Str)) (n : Nat) : (actsD ps).cl n = true := by
  unfold actsD D.cl
  exact clL_map fun x _ => by simp [actD, D.cl, clL]
theorem Fz.set {μ : Mu} {x d : D} {k : Nat} {o : MO} {C : Addr} {gs : List (Str × D)} (h : Fz μ x d) (hk : μ[k]? = some (.ins C gs)) : Fz (μ.set k o) x d := by
  cases h with
  | id => exact .id _
  | @own j ds h =>
    have : k ≠ j := fun e => by rw [e, h] at hk; cases hk
    exact .own (by rw [List.getElem?_set_ne this]; exact h)
theorem Fz.list {μ : Mu} {x : D} {ds : List D} (h : Fz μ x (.lst ds)) : Ls μ x ds := by
  cases h with
  | id => exact .lst _
  | own h => exact .own h
theorem d_Feast_init (kf : KFe K) : ∀ ds μ P PX, c_Feast_init K ds μ P PX → MuCl μ μ.length → clL ds μ.length = true → ∀ B E, XAg K B (RetX μ.length PX) E → DS K B (t_Feast_init K E) (startD ["self", "name", "place", "days", "years", "puts"] ds) μ (fnE μ.length P) := by
  intro ds μ P PX h hm hc B E hE
  obtain ⟨k, f, xk, xp, rfl, hk, hg, fk, fp, h⟩ := h
  show DS K B _ [some (.own k), some (.str f.name), some (.int f.place), some (.int f.lasts), some xk, some xp] μ _
  have c1 := kf.cl; have c2 := kf.name; have c3 := kf.place; have c4 := kf.lasts; have c5 := kf.kept; have c6 := kf.acts
  have hn := hg.name
  have h1 := hg.p0; have h2 := hg.p1; have h3 := hg.l0; have h4 := hg.l1
  have hset : ∀ z, (μ.set k z)[k]? = some z := fun z => set_get hk
  unfold t_Feast_init
  wtm_at "A"
  refine ⟨.str f.name, rfl, rfl, fun z hz => by cases hz; have := hn.2.1; omega, ?_⟩
  rw [show isNameD (.str f.name) = true by simp [isNameD, hn]]
  wtm_at "A"
  refine ⟨.int f.place, _, _, rfl, rfl, ?_⟩
  rw [show isNum (.int f.place) (-400) 399 = true by simp [isNum]; omega]
  wtm_at "A"
  refine ⟨.int f.lasts, _, _, rfl, rfl, ?_⟩
  rw [show isNum (.int f.lasts) 1 40 = true by simp [isNum]; omega]
  wtm_at "A"
  refine ⟨xk, f.kept, rfl, fk, hg.kept, ?_⟩
  wtm_at "A"
  refine ⟨xp, f.acts, rfl, fp, hg.acts, ?_⟩
  wtm_at "A"
  refine pp_own hk c1 c2 (of_decide_eq_true (by rfl)) ?_
  wtm_at "A"
  refine pp_own (hset _) c1 c3 (of_decide_eq_true (by rfl)) ?_
  rw [set_set']
  wtm_at "A"
  refine pp_own (hset _) c1 c4 (of_decide_eq_true (by rfl)) ?_
  rw [set_set']
  generalize hz : MO.ins (cFe K) (putD "lasts" (.int f.lasts) (putD "place" (.int f.place) (putD "name" (.str f.name) []))) = z
  have kE : DE K B (tIf (tB (tIsN (tVar 4))) (tC .non) (tCB (rListOf K) (tCons (tVar 4) tNil))) [some (.own k), some (.str f.name), some (.int f.place), some (.int f.lasts), some xk, some xp] (μ.set k z) (fun d μ' => d = keptD f.kept ∧ μ' = μ.set k z) := by
    have fk' := fk.set (o := z) hk
    cases q : f.kept with
    | none =>
      rw [q] at fk'
      have hx : xk = .non := by
        unfold keptD at fk'
        cases fk' with
        | id => rfl
      subst hx
      wtm_at "A"
      exact ⟨rfl, rfl⟩
    | some ys =>
      rw [q] at fk'
      unfold keptD intsD at fk'
      have hne : xk ≠ .non := by
        intro e
        subst e
        cases fk'
      wtm_at "E"
      refine np_f hne ?_
      wtm_at "E"
      refine rc_list fk'.list ?_
      exact ⟨rfl, rfl⟩
  wtm_at "s3"
  refine kE.imp ?_
  rintro d μ' ⟨rfl, rfl⟩
  wtm_at "A"
  refine pp_own (by rw [← hz]; exact hset _) c1 c5 (of_decide_eq_true (by rfl)) ?_
  rw [set_set']
  have fp' := fp.set (o := MO.ins (cFe K) (putD "kept" (keptD f.kept) (putD "lasts" (.int f.lasts) (putD "place" (.int f.place) (putD "name" (.str f.name) []))))) hk
  unfold actsD at fp'
  have hne : xp ≠ .non := by
    intro e
    subst e
    cases fp'
  wtm_at "s3"
  wtm_at "E"
  refine np_f hne ?_
  wtm_at "E"
  refine rc_list fp'.list ?_
  wtm_at "E"
  refine pp_own (hset _) c1 c6 (of_decide_eq_true (by rfl)) ?_
  rw [set_set']
  refine ret_same0 (by simp) ?_ rfl h
  rw [List.length_set]
  refine hm.set ?_
  show clF (feF f) _ = true
  simp only [clF, feF, D.cl, cl_kept, cl_acts, Bool.and_self]
theorem d_Feast_span (kf : KFe K) : ∀ ds μ P PX, c_Feast_span K ds μ P PX → MuCl μ μ.length → clL ds μ.length = true → ∀ B E, XAg K B (RetX μ.length PX) E → DS K B (t_Feast_span K E) (startD ["self", "calendar", "year", "days", "place", "first"] ds) μ (fnE μ.length P) := by
  intro ds μ P PX h hm hc B E hE
  obtain ⟨f, ls, y, rfl, hg, h, hx⟩ := h
  show DS K B _ [some (feD K f), some (calD K ls), some (.int y), none, none, none] μ _
  have c1 := kf.cl; have c2 := kf.name; have c3 := kf.place; have c4 := kf.lasts; have c5 := kf.kept; have c6 := kf.acts
  have hp := hg.pos
  unfold t_Feast_span
  wtm_at "A"
  refine ⟨y, rfl, fun hy => ?_, fun hy => retx_same0 hm rfl (hx hy)⟩
  have h := h hy
  have none_ : spanOf ls f y = none → Ret μ.length P .non μ := fun e => by
    rw [e] at h
    wtm_at "r"
    exact h
  have hkept : DT K B (tAnd (tB (tNotN (tFld K (tVar 0) "kept"))) (tTest (tOp (rNotInA K) (tOp rModA (tVar 2) (tCB (rLen K) (tCons (tMeth (He.ga K "Calendar") "years" (spD K (c_Calendar_years K)) [] E (tVar 1) tNil) tNil))) (tFld K (tVar 0) "kept")))) [some (feD K f), some (calD K ls), some (.int y), none, none, none] μ (fun b μ1 => b = !keptIn ls f y ∧ μ1 = μ) := by
    unfold keptIn
    cases q : f.kept with
    | none =>
      wtm_at "A"
      rw [q]
      refine np_t ?_
      wtm_at "A"
      exact ⟨rfl, rfl⟩
    | some ys =>
      have hq : keptD f.kept = intsD ys := by rw [q]; rfl
      wtm_at "A"
      rw [hq]
      refine np_lst ?_
      wtm_at "A"
      refine ⟨ls, rfl, .inl ?_⟩
      wtm_at "A"
      rw [List.length_map]
      wtm_at "A"
      rw [hq]
      refine ro_notInI (.lst _) ?_
      wtm_at "A"
      exact ⟨rfl, rfl⟩
  refine q_when (dt_imp hkept ?_)
  rintro b μ' ⟨rfl, rfl⟩
  refine br (fun hb => ?_) (fun hb => ?_)
  · wtm_at "A"
    refine none_ ?_
    unfold spanOf
    rw [if_pos (by simpa using hb)]
  have hkp : keptIn ls f y = true := by simpa using hb
  wtm_at "A"
  refine ⟨ls, y, rfl, hg, fun _ => ?_, fun hy' => absurd hy' (by omega)⟩
  have pE : DE K B (tIf (tTest (tOp (rI0 fun i j => .bl (decide (j ≤ i))) (tFld K (tVar 0) "place") (tC (.int 0)))) (tFld K (tVar 0) "place") (tOp (rAddA K) (tVar 3) (tFld K (tVar 0) "place"))) [some (feD K f), some (calD K ls), some (.int y), some (.int (longY ls y)), none, none] μ' (fun d μ1 => d = .int (if 0 ≤ f.place then f.place else longY ls y + f.place) ∧ μ' = μ1) := by
    wtm_at "A"
    · rename_i hb; exact ⟨by rw [if_pos hb], rfl⟩
    · rename_i hb; exact ⟨by rw [if_neg hb], rfl⟩
  wtm_at "dS"
  refine pE.imp ?_
  rintro d μ1 ⟨rfl, rfl⟩
  generalize hpl : (if 0 ≤ f.place then f.place else longY ls y + f.place) = p at *
  have out : ¬ (0 ≤ p ∧ p < longY ls y) → Ret μ'.length P .non μ' := fun hn => none_ (by
    unfold spanOf
    rw [if_neg (by rw [hkp]; simp)]
    simp only [hpl]
    rw [if_neg hn])
  wtm_at "A"
  · exact out (by omega)
  · refine ⟨ls, y, rfl, hg, fun _ => ?_, fun hy' => absurd hy' (by omega)⟩
    wtm_at "A"
    wtm_at "r"
    have e : spanOf ls f y = some (firstY ls y + p, firstY ls y + min (p + f.lasts) (longY ls y)) := by
      unfold spanOf
      rw [if_neg (by rw [hkp]; simp)]
      simp only [hpl]
      rw [if_pos (by omega)]
    rw [e] at h
    exact h
  · exact out (by omega)
end
/-! ### rows of pieces -/
structure RwT where
  going : Bool
  name : Str
  many : Int
  most : Int
  begin : Int
structure GRw (r : RwT) : Prop where
  name : nameOk r.name
  m0 : 1 ≤ r.many
  m1 : r.many ≤ 1000000
  t0 : 1 ≤ r.most
  t1 : r.most ≤ 9
  b0 : 0 ≤ r.begin
  b1 : r.begin < r.many
  yb : r.going = false → r.begin = 0
abbrev cGo (K : PySem.W.Frag) : Addr := He.ga K "Going"
abbrev cYe (K : PySem.W.Frag) : Addr := He.ga K "Yearly"
def goF (name : Str) (many most begin : Int) : List (Str × D) := [("name", .str name), ("pieces", .int many), ("most", .int most), ("begin", .int begin)]
def yeF (name : Str) (many most : Int) : List (Str × D) := [("name", .str name), ("pieces", .int many), ("most", .int most)]
def rowD (K : PySem.W.Frag) (r : RwT) : D := if r.going = true then .obj (cGo K) (goF r.name r.many r.most r.begin) else .obj (cYe K) (yeF r.name r.many r.most)
inductive Srt where
  | free | off | rest
deriving DecidableEq
def Srt.s : Srt → Str
  | .free => "free"
  | .off => "off"
  | .rest => "rest"
def comes (r : RwT) (due days : Int) : Int := if r.going = true then days else min days (r.many - due)
def over (r : RwT) (p : Int × Int) (w : Srt) (days : Int) : Int × Int :=
  match w with
  | .rest => p
  | .off => (p.1 + comes r p.1 days, p.2 + comes r p.1 days)
  | .free => (p.1 + comes r p.1 days, max (max (p.2 + comes r p.1 days * (1 - r.most)) 0 - (days - comes r p.1 days) * r.most) 0)
def holdsR (r : RwT) (p : Int × Int) : Bool := decide (0 ≤ p.2) && decide (p.2 ≤ p.1) && (r.going || decide (p.1 ≤ r.many))
structure KRw (K : PySem.W.Frag) : Prop where
  cg : Cls K (cGo K)
  cy : Cls K (cYe K)
  g1 : NoAttr K (cGo K) "name"
  g2 : NoAttr K (cGo K) "pieces"
  g3 : NoAttr K (cGo K) "most"
  g4 : NoAttr K (cGo K) "begin"
  y1 : NoAttr K (cYe K) "name"
  y2 : NoAttr K (cYe K) "pieces"
  y3 : NoAttr K (cYe K) "most"
def c_Row_init (K : PySem.W.Frag) : CT := fun ds μ P PX => ∃ (k : Nat) (C : Addr) (name : Str) (many most : Int), ds = [.own k, .str name, .int many, .int most] ∧ (C = cGo K ∨ C = cYe K) ∧ μ[k]? = some (.ins C []) ∧ nameOk name ∧ 1 ≤ many ∧ many ≤ 1000000 ∧ 1 ≤ most ∧ most ≤ 9 ∧ P .non (μ.set k (.ins C (yeF name many most)))
def c_Going_init (K : PySem.W.Frag) : CT := fun ds μ P PX => ∃ (k : Nat) (name : Str) (many most begin : Int), ds = [.own k, .str name, .int many, .int most, .int begin] ∧ μ[k]? = some (.ins (cGo K) []) ∧ nameOk name ∧ 1 ≤ many ∧ many ≤ 1000000 ∧ 1 ≤ most ∧ most ≤ 9 ∧ 0 ≤ begin ∧ begin < many ∧ P .non (μ.set k (.ins (cGo K) (goF name many most begin)))
def c_Yearly_init (K : PySem.W.Frag) : CT := fun ds μ P PX => ∃ (k : Nat) (name : Str) (many most : Int), ds = [.own k, .str name, .int many, .int most] ∧ μ[k]? = some (.ins (cYe K) []) ∧ nameOk name ∧ 1 ≤ many ∧ many ≤ 1000000 ∧ 1 ≤ most ∧ most ≤ 9 ∧ P .non (μ.set k (.ins (cYe K) (yeF name many most)))
def c_Row_coming (K : PySem.W.Frag) : CT := fun ds μ P PX => ∃ (x : D) (due days : Int), ds = [x, .int due, .int days] ∧ P (.int days) μ
def c_Yearly_coming (K : PySem.W.Frag) : CT := fun ds μ P PX => ∃ (r : RwT) (due days : Int), ds = [rowD K r, .int due, .int days] ∧ r.going = false ∧ P (.int (min days (r.many - due))) μ
def c_Row_begins_anew (K : PySem.W.Frag) : CT := fun ds μ P PX => ∃ x : D, ds = [x] ∧ P (.bl false) μ
def c_Yearly_begins_anew (K : PySem.W.Frag) : CT := fun ds μ P PX => ∃ x : D, ds = [x] ∧ P (.bl true) μ
def c_Row_over (K : PySem.W.Frag) : CT := fun ds μ P PX => ∃ (r : RwT) (p : Int × Int) (w : Srt) (days : Int), ds = [rowD K r, pairD p, .str w.s, .int days] ∧ GRw r ∧ P (pairD (over r p w days)) μ
def c_Going_told (K : PySem.W.Frag) : CT := fun ds μ P PX => ∃ r : RwT, ds = [rowD K r] ∧ r.going = true ∧ P (.tup [.str "going", .str r.name, .int r.many, .int r.most, .int r.begin]) μ
def c_Yearly_told (K : PySem.W.Frag) : CT := fun ds μ P PX => ∃ r : RwT, ds = [rowD K r] ∧ r.going = false ∧ P (.tup [.str "yearly", .str r.name, .int r.many, .int r.most]) μ
theorem rowD_go {K : PySem.W.Frag} {r : RwT} (h : r.going = true) : rowD K r = .obj (cGo K) (goF r.name r.many r.most r.begin) := by simp [rowD, h]
theorem rowD_ye {K : PySem.W.Frag} {r : RwT} (h : r.going = false) : rowD K r = .obj (cYe K) (yeF r.name r.many r.most) := by simp [rowD, h]
section
variable {K : PySem.W.Frag} {μ : Mu} {r : RwT} {F : D → Prop}
theorem fpr_name (kr : KRw K) (h : F (.str r.name)) : FldP K μ (rowD K r) "name" F := by
  cases hg : r.going with
  | true => rw [rowD_go hg]; exact fp_obj kr.cg kr.g1 rfl h
  | false => rw [rowD_ye hg]; exact fp_obj kr.cy kr.y1 rfl h
theorem fpr_pieces (kr : KRw K) (h : F (.int r.many)) : FldP K μ (rowD K r) "pieces" F := by
  cases hg : r.going with
  | true => rw [rowD_go hg]; exact fp_obj kr.cg kr.g2 rfl h
  | false => rw [rowD_ye hg]; exact fp_obj kr.cy kr.y2 rfl h
theorem fpr_most (kr : KRw K) (h : F (.int r.most)) : FldP K μ (rowD K r) "most" F := by
  cases hg : r.going with
  | true => rw [rowD_go hg]; exact fp_obj kr.cg kr.g3 rfl h
  | false => rw [rowD_ye hg]; exact fp_obj kr.cy kr.y3 rfl h
theorem fpr_begin (kr : KRw K) (hg : r.going = true) (h : F (.int r.begin)) : FldP K μ (rowD K r) "begin" F := by
  rw [rowD_go hg]; exact fp_obj kr.cg kr.g4 rfl h
end
/-- no field of a row -/
def NoF (m : Str) : Prop := (∀ n a b c, (goF n a b c).lookup m = none) ∧ ∀ n a b, (yeF n a b).lookup m = none
/-- a method of a row that a slot holds, of either class -/
theorem de_rowM {K : PySem.W.Frag} {B : Bs} {ρ : En} {μ : Mu} {te : TE} {ts : TA} {P : D → Mu → Prop} {PX : PXT} {E : XK} {m : Str} {Cg Cy : CT} {r : RwT} (hm : NoF m) (hE : XAg K B PX E)
    (hv : ∀ P' : D → Mu → Prop, P' (rowD K r) μ → DE K B te ρ μ P')
    (h : DA K B ts ρ μ fun ds μ2 => (r.going = true → Cg (rowD K r :: ds) μ2 P PX) ∧ (r.going = false → Cy (rowD K r :: ds) μ2 P PX)) :
    DE K B (tOrE (tMeth (cGo K) m (spD K Cg) [] E te ts) (tMeth (cYe K) m (spD K Cy) [] E te ts)) ρ μ P := by
  cases hg : r.going with
  | true =>
    refine de_orL (de_methZ hE (hv _ ?_))
    have h' : DA K B ts ρ μ fun ds μ2 => Cg (rowD K r :: ds) μ2 P PX := da_imp h fun ds μ2 p => p.1 hg
    rw [rowD_go hg] at h' ⊢
    exact mp_obj (hm.1 _ _ _ _) h'
  | false =>
    refine de_orR (de_methZ hE (hv _ ?_))
    have h' : DA K B ts ρ μ fun ds μ2 => Cy (rowD K r :: ds) μ2 P PX := da_imp h fun ds μ2 p => p.2 hg
    rw [rowD_ye hg] at h' ⊢
    exact mp_obj (hm.2 _ _ _) h'
theorem de_is {K : PySem.W.Frag} {B : Bs} {ρ : En} {μ : Mu} {te : TE} {P : D → Mu → Prop} {d0 : D} (h : DE K B te ρ μ fun d μ1 => d = d0 ∧ μ1 = μ) (k : P d0 μ) : DE K B te ρ μ P := h.imp fun d μ1 p => by obtain ⟨rfl, rfl⟩ := p; exact k
def t_Row_init (K : PySem.W.Frag) (E : XK) : TS :=
    (tSeq (tIfS (tOr (tNot (tTruth K (tCall (spD K (c_is_name K)) [] E (tCons (tVar 1) tNil)))) (tOr (tNot (tTruth K (tCall (spD K (c_is_number K)) [] E (tCons (tVar 2) (tCons (tC (.int 1)) (tCons (tC (.int 1000000)) tNil)))))) (tNot (tTruth K (tCall (spD K (c_is_number K)) [] E (tCons (tVar 3) (tCons (tC (.int 1)) (tCons (tC (.int 9)) tNil)))))))) (tRaise0 (He.ga K "BadRow") E) tNext)
      (tSeq (sFld K (tVar 0) (tVar 1) "name")
      (tSeq (sFld K (tVar 0) (tVar 2) "pieces")
      (sFld K (tVar 0) (tVar 3) "most"))))
def t_Row_coming (K : PySem.W.Frag) (E : XK) : TS :=
    (tRet (tVar 2))
def t_Row_begins_anew (K : PySem.W.Frag) (E : XK) : TS :=
    (tRet (tC (.bl false)))
def t_Row_over (K : PySem.W.Frag) (E : XK) : TS :=
    (tSeq (tAsg (tVar 1) (gTup K 2 (gCons (gName 4) (gCons (gName 5) gNil))))
      (tSeq (tIfS (tTest (tOp (rEqD K) (tVar 2) (tC (.str "rest")))) (tRet (tTup (tCons (tVar 4) (tCons (tVar 5) tNil)))) tNext)
      (tSeq (tAsg (tOrE (tMeth (He.ga K "Going") "coming" (spD K (c_Row_coming K)) [] E (tVar 0) (tCons (tVar 4) (tCons (tVar 3) tNil))) (tMeth (He.ga K "Yearly") "coming" (spD K (c_Yearly_coming K)) [] E (tVar 0) (tCons (tVar 4) (tCons (tVar 3) tNil)))) (gName 6))
      (tSeq (tIfS (tTest (tOp (rEqD K) (tVar 2) (tC (.str "off")))) (tRet (tTup (tCons (tOp (rAddA K) (tVar 4) (tVar 6)) (tCons (tOp (rAddA K) (tVar 5) (tVar 6)) tNil)))) tNext)
      (tSeq (tAsg (tCB (rMaxA K) (tCons (tOp (rAddA K) (tVar 5) (tOp rMulA (tVar 6) (tOp (rI0 fun i j => .int (i - j)) (tC (.int 1)) (tFld K (tVar 0) "most")))) (tCons (tC (.int 0)) tNil))) (gName 5))
      (tRet (tTup (tCons (tOp (rAddA K) (tVar 4) (tVar 6)) (tCons (tCB (rMaxA K) (tCons (tOp (rI0 fun i j => .int (i - j)) (tVar 5) (tOp rMulA (tOp (rI0 fun i j => .int (i - j)) (tVar 3) (tVar 6)) (tFld K (tVar 0) "most"))) (tCons (tC (.int 0)) tNil))) tNil)))))))))
def t_Going_init (K : PySem.W.Frag) (E : XK) : TS :=
    (tSeq (tDrop (tCall (spD K (c_Row_init K)) [] E (tCons (tVar 0) (tCons (tVar 1) (tCons (tVar 2) (tCons (tVar 3) tNil))))))
      (tSeq (tIfS (tNot (tTruth K (tCall (spD K (c_is_number K)) [] E (tCons (tVar 4) (tCons (tC (.int 0)) (tCons (tOp (rI0 fun i j => .int (i - j)) (tVar 2) (tC (.int 1))) tNil)))))) (tRaise0 (He.ga K "BadRow") E) tNext)
      (sFld K (tVar 0) (tVar 4) "begin")))
def t_Going_told (K : PySem.W.Frag) (E : XK) : TS :=
    (tRet (tTup (tCons (tC (.str "going")) (tCons (tFld K (tVar 0) "name") (tCons (tFld K (tVar 0) "pieces") (tCons (tFld K (tVar 0) "most") (tCons (tFld K (tVar 0) "begin") tNil)))))))
def t_Yearly_init (K : PySem.W.Frag) (E : XK) : TS :=
    (tDrop (tCall (spD K (c_Row_init K)) [] E (tCons (tVar 0) (tCons (tVar 1) (tCons (tVar 2) (tCons (tVar 3) tNil))))))
def t_Yearly_coming (K : PySem.W.Frag) (E : XK) : TS :=
    (tRet (tCB (rMinA K) (tCons (tVar 2) (tCons (tOp (rI0 fun i j => .int (i - j)) (tFld K (tVar 0) "pieces") (tVar 1)) tNil))))
def t_Yearly_begins_anew (K : PySem.W.Frag) (E : XK) : TS :=
    (tRet (tC (.bl true)))
def t_Yearly_told (K : PySem.W.Frag) (E : XK) : TS :=
    (tRet (tTup (tCons (tC (.str "yearly")) (tCons (tFld K (tVar 0) "name") (tCons (tFld K (tVar 0) "pieces") (tCons (tFld K (tVar 0) "most") tNil))))))
theorem Srt.ok (w : Srt) : PyData.strOk w.s = true := by cases w <;> decide +kernel
section
variable {K : PySem.W.Frag}
theorem d_Row_coming : ∀ ds μ P PX, c_Row_coming K ds μ P PX → MuCl μ μ.length → clL ds μ.length = true → ∀ B E, XAg K B (RetX μ.length PX) E → DS K B (t_Row_coming K E) (startD ["self", "due", "days"] ds) μ (fnE μ.length P) := by
  intro ds μ P PX h hm hc B E hE
  obtain ⟨x, due, days, rfl, h⟩ := h
  show DS K B _ [some x, some (.int due), some (.int days)] μ _
  unfold t_Row_coming
  wtm_at "A"
  wtm_at "r"
  exact h
theorem d_Row_begins_anew : ∀ ds μ P PX, c_Row_begins_anew K ds μ P PX → MuCl μ μ.length → clL ds μ.length = true → ∀ B E, XAg K B (RetX μ.length PX) E → DS K B (t_Row_begins_anew K E) (startD ["self"] ds) μ (fnE μ.length P) := by
  intro ds μ P PX h hm hc B E hE
  obtain ⟨x, rfl, h⟩ := h
  show DS K B _ [some x] μ _
  unfold t_Row_begins_anew
  wtm_at "A"
  wtm_at "r"
  exact h
theorem d_Yearly_begins_anew : ∀ ds μ P PX, c_Yearly_begins_anew K ds μ P PX → MuCl μ μ.length → clL ds μ.length = true → ∀ B E, XAg K B (RetX μ.length PX) E → DS K B (t_Yearly_begins_anew K E) (startD ["self"] ds) μ (fnE μ.length P) := by
  intro ds μ P PX h hm hc B E hE
  obtain ⟨x, rfl, h⟩ := h
  show DS K B _ [some x] μ _
  unfold t_Yearly_begins_anew
  wtm_at "A"
  wtm_at "r"
  exact h
theorem d_Yearly_coming (kr : KRw K) : ∀ ds μ P PX, c_Yearly_coming K ds μ P PX → MuCl μ μ.length → clL ds μ.length = true → ∀ B E, XAg K B (RetX μ.length PX) E → DS K B (t_Yearly_coming K E) (startD ["self", "due", "days"] ds) μ (fnE μ.length P) := by
  intro ds μ P PX h hm hc B E hE
  obtain ⟨r, due, days, rfl, hr, h⟩ := h
  rw [rowD_ye hr] at *
  have k1 := kr.cy; have k2 := kr.y2
  show DS K B _ [some (.obj (cYe K) (yeF r.name r.many r.most)), some (.int due), some (.int days)] μ _
  unfold t_Yearly_coming
  wtm_at "A"
  wtm_at "r"
  exact h
theorem d_Row_over (kr : KRw K) : ∀ ds μ P PX, c_Row_over K ds μ P PX → MuCl μ μ.length → clL ds μ.length = true → ∀ B E, XAg K B (RetX μ.length PX) E → DS K B (t_Row_over K E) (startD ["self", "pair", "sort", "days", "due", "owed", "more"] ds) μ (fnE μ.length P) := by
  intro ds μ P PX h hm hc B E hE
  obtain ⟨r, p, w, days, rfl, hr, h⟩ := h
  have h0 := hr.t0; have h1 := hr.t1
  have k1 := kr.cg; have k2 := kr.cy; have k3 := kr.g3; have k4 := kr.y3
  have hw := w.ok
  show DS K B _ [some (rowD K r), some (.tup [.int p.1, .int p.2]), some (.str w.s), some (.int days), none, none, none] μ _
  unfold t_Row_over
  wtm_at "A"
  refine ro_eqS hw (by decide +kernel) ?_
  wtm_at "E"
  · rename_i hb
    obtain rfl : w = .rest := by cases w <;> first | rfl | exact absurd hb (by decide)
    wtm_at "A"
    wtm_at "r"
    exact h
  · rename_i hb
    refine q_set (de_is (d0 := .int (comes r p.1 days)) ?_ ?_)
    · refine de_rowM (r := r) ⟨fun _ _ _ _ => rfl, fun _ _ _ => rfl⟩ hE (fun P' hP => by wtm_at "v"; exact hP) ?_
      wtm_at "E"
      · rename_i hg
        exact ⟨_, _, _, rfl, by simp [comes, hg]⟩
      · rename_i hg
        exact ⟨r, _, _, rfl, hg, by simp [comes, hg]⟩
    refine q_when ?_
    wtm_at "E"
    refine ro_eqS hw (by decide +kernel) ?_
    wtm_at "E"
    · rename_i hb2
      obtain rfl : w = .off := by cases w <;> first | rfl | exact absurd hb2 (by decide)
      wtm_at "A"
      wtm_at "r"
      exact h
    · rename_i hb2
      obtain rfl : w = .free := by cases w <;> first | rfl | exact absurd rfl hb | exact absurd rfl hb2
      wtm_at "A"
      refine fpr_most kr ?_
      wtm_at "A"
      refine fpr_most kr ?_
      wtm_at "A"
      wtm_at "r"
      exact h
theorem d_Going_told (kr : KRw K) : ∀ ds μ P PX, c_Going_told K ds μ P PX → MuCl μ μ.length → clL ds μ.length = true → ∀ B E, XAg K B (RetX μ.length PX) E → DS K B (t_Going_told K E) (startD ["self"] ds) μ (fnE μ.length P) := by
  intro ds μ P PX h hm hc B E hE
  obtain ⟨r, rfl, hg, h⟩ := h
  show DS K B _ [some (rowD K r)] μ _
  unfold t_Going_told
  wtm_at "A"
  refine fpr_name kr ?_
  wtm_at "A"
  refine fpr_pieces kr ?_
  wtm_at "A"
  refine fpr_most kr ?_
  wtm_at "A"
  refine fpr_begin kr hg ?_
  wtm_at "A"
  wtm_at "r"
  exact h
theorem d_Yearly_told (kr : KRw K) : ∀ ds μ P PX, c_Yearly_told K ds μ P PX → MuCl μ μ.length → clL ds μ.length = true → ∀ B E, XAg K B (RetX μ.length PX) E → DS K B (t_Yearly_told K E) (startD ["self"] ds) μ (fnE μ.length P) := by
  intro ds μ P PX h hm hc B E hE
  obtain ⟨r, rfl, hg, h⟩ := h
  show DS K B _ [some (rowD K r)] μ _
  unfold t_Yearly_told
  wtm_at "A"
  refine fpr_name kr ?_
  wtm_at "A"
  refine fpr_pieces kr ?_
  wtm_at "A"
  refine fpr_most kr ?_
  wtm_at "A"
  wtm_at "r"
  exact h
theorem d_Row_init (kr : KRw K) : ∀ ds μ P PX, c_Row_init K ds μ P PX → MuCl μ μ.length → clL ds μ.length = true → ∀ B E, XAg K B (RetX μ.length PX) E → DS K B (t_Row_init K E) (startD ["self", "name", "pieces", "most"] ds) μ (fnE μ.length P) := by
  intro ds μ P PX h hm hc B E hE
  obtain ⟨k, C, name, many, most, rfl, hC, hk, hn, hm0, hm1, ht0, ht1, h⟩ := h
  have kc : Cls K C ∧ NoAttr K C "name" ∧ NoAttr K C "pieces" ∧ NoAttr K C "most" := by
    rcases hC with rfl | rfl
    · exact ⟨kr.cg, kr.g1, kr.g2, kr.g3⟩
    · exact ⟨kr.cy, kr.y1, kr.y2, kr.y3⟩
  obtain ⟨k1, k2, k3, k4⟩ := kc
  show DS K B _ [some (.own k), some (.str name), some (.int many), some (.int most)] μ _
  unfold t_Row_init
  have hset : ∀ z, (μ.set k z)[k]? = some z := fun z => set_get hk
  have hcl : MuCl (μ.set k (.ins C (yeF name many most))) (μ.set k (.ins C (yeF name many most))).length := by
    rw [List.length_set]
    exact hm.set (by simp [MO.cl, yeF, clF, D.cl])
  refine q_assert ?_ ?_
  · wtm_at "E"
    refine ⟨.str name, rfl, rfl, fun z hz => by cases hz; have := hn.2.1; omega, ?_⟩
    rw [show isNameD (.str name) = true by simp [isNameD, hn]]
    wtm_at "E"
    refine ⟨.int many, _, _, rfl, rfl, ?_⟩
    rw [show isNum (.int many) 1 1000000 = true by simp [isNum]; omega]
    wtm_at "E"
    refine ⟨.int most, _, _, rfl, rfl, ?_⟩
    rw [show isNum (.int most) 1 9 = true by simp [isNum]; omega]
    wtm_at "E"
    exact ⟨rfl, rfl⟩
  wtm_at "A"
  refine pp_own hk k1 k2 (of_decide_eq_true (by rfl)) ?_
  wtm_at "A"
  refine pp_own (hset _) k1 k3 (of_decide_eq_true (by rfl)) ?_
  rw [set_set']
  wtm_at "A"
  refine pp_own (hset _) k1 k4 (of_decide_eq_true (by rfl)) ?_
  rw [set_set']
  exact ret_same0 (by rw [List.length_set]; exact Nat.le_refl _) hcl rfl h
theorem d_Going_init (kr : KRw K) : ∀ ds μ P PX, c_Going_init K ds μ P PX → MuCl μ μ.length → clL ds μ.length = true → ∀ B E, XAg K B (RetX μ.length PX) E → DS K B (t_Going_init K E) (startD ["self", "name", "many", "most", "begin"] ds) μ (fnE μ.length P) := by
  intro ds μ P PX h hm hc B E hE
  obtain ⟨k, name, many, most, begin, rfl, hk, hn, hm0, hm1, ht0, ht1, hb0, hb1, h⟩ := h
  have k1 := kr.cg; have k2 := kr.g4
  have hset : ∀ z, (μ.set k z)[k]? = some z := fun z => set_get hk
  show DS K B _ [some (.own k), some (.str name), some (.int many), some (.int most), some (.int begin)] μ _
  unfold t_Going_init
  wtm_at "A"
  refine ⟨k, _, name, many, most, rfl, .inl rfl, hk, hn, hm0, hm1, ht0, ht1, ?_⟩
  refine q_assert ?_ ?_
  · wtm_at "E"
    refine ⟨.int begin, _, _, rfl, rfl, ?_⟩
    rw [show isNum (.int begin) 0 (many - 1) = true by simp [isNum]; omega]
    wtm_at "E"
    exact ⟨rfl, rfl⟩
  wtm_at "A"
  refine pp_own (hset _) k1 k2 (of_decide_eq_true (by rfl)) ?_
  rw [set_set']
  refine ret_same0 (by rw [List.length_set]; exact Nat.le_refl _) ?_ rfl h
  rw [List.length_set]
  exact hm.set (show clF (goF name many most begin) μ.length = true by simp [goF, clF, D.cl])
theorem d_Yearly_init (kr : KRw K) : ∀ ds μ P PX, c_Yearly_init K ds μ P PX → MuCl μ μ.length → clL ds μ.length = true → ∀ B E, XAg K B (RetX μ.length PX) E → DS K B (t_Yearly_init K E) (startD ["self", "name", "many", "most"] ds) μ (fnE μ.length P) := by
  intro ds μ P PX h hm hc B E hE
  obtain ⟨k, name, many, most, rfl, hk, hn, hm0, hm1, ht0, ht1, h⟩ := h
  show DS K B _ [some (.own k), some (.str name), some (.int many), some (.int most)] μ _
  unfold t_Yearly_init
  wtm_at "A"
  refine ⟨k, _, name, many, most, rfl, .inr rfl, hk, hn, hm0, hm1, ht0, ht1, ?_⟩
  refine ret_same0 (by rw [List.length_set]; exact Nat.le_refl _) ?_ rfl h
  rw [List.length_set]
  exact hm.set (by simp [MO.cl, yeF, clF, D.cl])
end
section
variable {K : PySem.W.Frag} {B : Bs} {E : XK} {PX : PXT} {ts : TA} {ρ : En} {μ : Mu} {P : D → Mu → Prop}
theorem de_going (hE : XAg K B PX E) (h : DA K B ts ρ μ fun ds μ1 => ∃ (r : RwT), ds = [.str r.name, .int r.many, .int r.most, .int r.begin] ∧ r.going = true ∧ GRw r ∧ P (rowD K r) μ1) : DE K B (tMake (He.ga K "Going") (spD K (c_Going_init K)) [] E ts) ρ μ P := by
  refine de_make hE da_nd ?_
  refine da_imp h fun ds μ1 p1 => ?_
  obtain ⟨r, rfl, hg, hr, p⟩ := p1
  refine ⟨_, r.name, r.many, r.most, r.begin, rfl, mu_last, hr.name, hr.m0, hr.m1, hr.t0, hr.t1, hr.b0, hr.b1, rfl, goF r.name r.many r.most r.begin, set_last, by simp [goF, clF, D.cl], ?_⟩
  rw [rowD_go hg] at p
  exact p
theorem de_yearly (hE : XAg K B PX E) (h : DA K B ts ρ μ fun ds μ1 => ∃ (r : RwT), ds = [.str r.name, .int r.many, .int r.most] ∧ r.going = false ∧ GRw r ∧ P (rowD K r) μ1) : DE K B (tMake (He.ga K "Yearly") (spD K (c_Yearly_init K)) [] E ts) ρ μ P := by
  refine de_make hE da_nd ?_
  refine da_imp h fun ds μ1 p1 => ?_
  obtain ⟨r, rfl, hg, hr, p⟩ := p1
  refine ⟨_, r.name, r.many, r.most, rfl, mu_last, hr.name, hr.m0, hr.m1, hr.t0, hr.t1, rfl, yeF r.name r.many r.most, set_last, by simp [yeF, clF, D.cl], ?_⟩
  rw [rowD_ye hg] at p
  exact p
theorem rowD_cl (K : PySem.W.Frag) (r : RwT) (n : Nat) : (rowD K r).cl n = true := by
  cases hg : r.going with
  | true => rw [rowD_go hg]; simp [D.cl, goF, clF]
  | false => rw [rowD_ye hg]; simp [D.cl, yeF, clF]
end
/-! ### what the days of a year are for a row -/
def sOf (s : Str) : Option Srt := if s = "off" then some .off else if s = "rest" then some .rest else none
def putOf (f : FeT) (name : Str) : Option Srt := ((f.acts.find? fun p => decide (p.1 = name)).map (·.2)).bind sOf
structure SpT where
  a : Int
  b : Int
  w : Srt
  t : Str
def segD (s : SpT) : D := .tup [.int s.a, .int s.b, .str s.w.s, .str s.t]
def spanFor (ls : List Int) (name : Str) (y : Int) (f : FeT) : Option SpT := match spanOf ls f y, putOf f name with
  | some p, some w => some ⟨p.1 - firstY ls y, p.2 - firstY ls y, w, f.name⟩
  | _, _ => none
def spansOf (ls : List Int) (fs : List FeT) (name : Str) (y : Int) : List SpT := fs.filterMap (spanFor ls name y)
def SpT.on (s : SpT) (w : Srt) (x : Int) : Bool := decide (s.w = w) && (decide (s.a ≤ x) && decide (x < s.b))
def sortAt (sp : List SpT) (x : Int) : Srt × Str := match sp.find? (fun s => s.on .rest x) with
  | some s => (.rest, s.t)
  | none => match sp.find? (fun s => s.on .off x) with
    | some s => (.off, s.t)
    | none => (.free, "")
/-- what the x-th day of year y is for the row -/
def sortY (ls : List Int) (fs : List FeT) (name : Str) (y x : Int) : Srt × Str := sortAt (spansOf ls fs name y) x
def wordD (p : Srt × Str) : D := .tup [.str p.1.s, .str p.2]
abbrev SgT := SpT
/-- stretches side by side from a to b, on each of which all days are as it tells -/
def Chain (S : Int → Srt × Str) : Int → List SgT → Int → Prop
  | a, [], b => a = b
  | a, g :: r, b => g.a = a ∧ g.a < g.b ∧ (∀ x, g.a ≤ x → x < g.b → S x = (g.w, g.t)) ∧ Chain S g.b r b
def mkSegs (S : Int → Srt × Str) : List Int → List SgT
  | c :: d :: r => ⟨c, d, (S c).1, (S c).2⟩ :: mkSegs S (d :: r)
  | _ => []
theorem mkSegs_len (S : Int → Srt × Str) : ∀ l : List Int, (mkSegs S l).length ≤ l.length
  | [] => by simp [mkSegs]
  | [_] => by simp [mkSegs]
  | c :: d :: r => by
    have := mkSegs_len S (d :: r)
    simp [mkSegs] at this ⊢
    omega
theorem sortAt_const {sp : List SpT} {c x : Int} (h : ∀ s ∈ sp, (s.a ≤ x ↔ s.a ≤ c) ∧ (x < s.b ↔ c < s.b)) : sortAt sp x = sortAt sp c := by
  have e : ∀ w, ∀ l : List SpT, (∀ s ∈ l, (s.a ≤ x ↔ s.a ≤ c) ∧ (x < s.b ↔ c < s.b)) → l.find? (fun s => s.on w x) = l.find? (fun s => s.on w c) := by
    intro w l
    induction l with
    | nil => intro _; rfl
    | cons s r ih =>
      intro hl
      obtain ⟨h1, h2⟩ := hl s (by simp)
      have hs : s.on w x = s.on w c := by unfold SpT.on; rw [decide_eq_decide.mpr h1, decide_eq_decide.mpr h2]
      rw [List.find?_cons, List.find?_cons, hs, ih fun z hz => hl z (by simp [hz])]
  unfold sortAt
  rw [e .rest sp h, e .off sp h]
/-- the cuts of a year give its chart -/
theorem chain_cuts {sp : List SpT} {E : List Int} (hE : ∀ s ∈ sp, s.a ∈ E ∧ s.b ∈ E) : ∀ (r : List Int) (c : Int), (c :: r).Pairwise (· < ·) → (∀ e ∈ E, e ≤ c ∨ e ∈ r) → Chain (sortAt sp) c (mkSegs (sortAt sp) (c :: r)) ((c :: r).getLastD 0)
  | [], c, _, _ => by simp [mkSegs, Chain]
  | d :: r, c, hp, he => by
    have hcd : c < d := (List.pairwise_cons.mp hp).1 d (by simp)
    have hpr := (List.pairwise_cons.mp hp).2
    have ge : ∀ e ∈ E, c < e → d ≤ e := fun e h1 h2 => by
      rcases he e h1 with z | z
      · omega
      · rcases List.mem_cons.mp z with z | z
        · omega
        · have := (List.pairwise_cons.mp hpr).1 e z; omega
    refine ⟨rfl, hcd, fun x h1 h2 => ?_, ?_⟩
    · show sortAt sp x = ((sortAt sp c).1, (sortAt sp c).2)
      refine sortAt_const fun s hs => ?_
      obtain ⟨m1, m2⟩ := hE s hs
      have g1 := ge s.a m1
      have g2 := ge s.b m2
      simp only at h1 h2
      omega
    · have ih := chain_cuts hE r d hpr fun e h1 => by
        rcases he e h1 with z | z
        · exact .inl (by omega)
        · rcases List.mem_cons.mp z with z | z
          · exact .inl (by omega)
          · exact .inr z
      simpa [List.getLastD] using ih
theorem Chain.le {S : Int → Srt × Str} : ∀ {gs : List SgT} {a b : Int}, Chain S a gs b → a ≤ b
  | [], _, _, h => by have : _ = _ := h; omega
  | g :: r, a, b, ⟨h1, h2, h3, h4⟩ => by have := h4.le; omega
theorem spanFor_bd {ls : List Int} {name : Str} {y : Int} {f : FeT} {s : SpT} (hg : GCal ls) (hf : GFe f) (hy : 0 ≤ y) (h : spanFor ls name y f = some s) : 0 ≤ s.a ∧ s.a < s.b ∧ s.b ≤ longY ls y := by
  unfold spanFor at h
  cases q : spanOf ls f y with
  | none => rw [q] at h; cases h
  | some p =>
    cases q2 : putOf f name with
    | none => rw [q, q2] at h; cases h
    | some w =>
      rw [q, q2] at h
      cases h
      have : firstY ls y ≤ p.1 ∧ p.1 < p.2 ∧ p.2 ≤ firstY ls y + longY ls y := by
        have hl := hf.l0
        unfold spanOf at q
        split at q
        · cases q
        · simp only at q
          generalize (if 0 ≤ f.place then f.place else longY ls y + f.place) = z at q
          by_cases hq : 0 ≤ z ∧ z < longY ls y
          · rw [if_pos hq] at q
            cases q
            simp only
            omega
          · rw [if_neg hq] at q
            cases q
      simp only
      omega
/-- dict(puts)[name] -/
def actsK (ps : List (Str × Str)) : List (Key × D) := ps.map fun p => (.inr p.1, .str p.2)
theorem valD_merge {k : Key} : ∀ {gs kvs : List (Key × D)}, (gs.map (·.1)).Nodup → valD (mergeKD kvs gs) k = (valD gs k).or (valD kvs k)
  | [], kvs, _ => by simp [mergeKD, valD]
  | (f, x) :: gs, kvs, h => by
    have hn := List.nodup_cons.mp h
    show valD (mergeKD (putKD kvs f x) gs) k = _
    rw [valD_merge (gs := gs) hn.2, valD_put]
    by_cases e : f = k
    · subst e
      have hz : valD gs f = none := by
        unfold valD
        rw [List.find?_eq_none.mpr]
        · rfl
        · intro z hz hzk
          simp at hzk
          exact hn.1 (List.mem_map.mpr ⟨z, hz, hzk⟩)
      have e2 : valD ((f, x) :: gs) f = some x := by simp [valD]
      rw [hz, e2]
      simp
    · have e2 : valD ((f, x) :: gs) k = valD gs k := by simp [valD, List.find?_cons, e]
      rw [e2, if_neg (fun z => e z.symm)]
theorem valD_acts {ps : List (Str × Str)} (h : ActsOk ps) (name : Str) : (valD (mergeKD [] (actsK ps)) (.inr name)).getD (.str "") = .str (match ((ps.find? fun p => decide (p.1 = name)).map (·.2)).bind sOf with | some w => w.s | none => "") := by
  rw [valD_merge (by
    unfold actsK
    rw [List.map_map]
    have : ((fun x : Key × D => x.1) ∘ fun p : Str × Str => ((Sum.inr p.1 : Key), D.str p.2)) = (Sum.inr : Str → Key) ∘ (fun p : Str × Str => p.1) := rfl
    rw [this, ← List.map_map]
    exact List.Pairwise.map _ (fun a b e z => e (by injection z)) h.nd)]
  have e : valD (actsK ps) (.inr name) = (ps.find? fun p => decide (p.1 = name)).map fun p => D.str p.2 := by
    unfold valD actsK
    rw [List.find?_map]
    rw [Option.map_map]
    congr 1
    congr 1
    funext p
    simp
  rw [e]
  cases q : ps.find? fun p => decide (p.1 = name) with
  | none => simp [valD]
  | some p =>
    have hp := h.each p (List.mem_of_find?_eq_some q)
    rcases hp.2 with e2 | e2
    · simp [e2, sOf, Srt.s, valD]
    · have ne : ¬ (("rest" : Str) = "off") := by decide +kernel
      simp [e2, sOf, Srt.s, valD, if_neg ne]
/-! ### the one list of numbers in order -/
def insI (x : Int) : List Int → List Int
  | [] => [x]
  | y :: r => if x < y then x :: y :: r else if x = y then y :: r else y :: insI x r
def srtI (ns : List Int) : List Int := ns.foldr insI []
theorem insI_mem {x k : Int} : ∀ {l : List Int}, k ∈ insI x l ↔ k = x ∨ k ∈ l
  | [] => by simp [insI]
  | y :: r => by
    unfold insI
    split
    · simp
    · split
      · rename_i h
        subst h
        simp
      · rw [List.mem_cons, insI_mem, List.mem_cons]
        constructor
        · rintro (h | h | h) <;> simp [h]
        · rintro (h | h | h) <;> simp [h]
theorem insI_up {x : Int} : ∀ {l : List Int}, l.Pairwise (· < ·) → (insI x l).Pairwise (· < ·)
  | [], _ => by simp [insI]
  | y :: r, h => by
    obtain ⟨h1, h2⟩ := List.pairwise_cons.mp h
    unfold insI
    split
    · rename_i hx
      refine List.pairwise_cons.mpr ⟨fun z hz => ?_, h⟩
      rcases List.mem_cons.mp hz with e | e
      · omega
      · have := h1 z e; omega
    · split
      · exact h
      · refine List.pairwise_cons.mpr ⟨fun z hz => ?_, insI_up h2⟩
        rcases insI_mem.mp hz with e | e
        · omega
        · exact h1 z e
theorem srtI_ok (ns : List Int) : (srtI ns).Pairwise (· < ·) ∧ ∀ k, k ∈ srtI ns ↔ k ∈ ns := by
  induction ns with
  | nil => simp [srtI]
  | cons n r ih =>
    refine ⟨insI_up ih.1, fun k => ?_⟩
    show k ∈ insI n (srtI r) ↔ _
    rw [insI_mem, ih.2, List.mem_cons]
theorem up_uniq : ∀ {xs ys : List Int}, xs.Pairwise (· < ·) → ys.Pairwise (· < ·) → (∀ k, k ∈ xs ↔ k ∈ ys) → xs = ys
  | [], [], _, _, _ => rfl
  | [], y :: r, _, _, h => by have := (h y).mpr (by simp); cases this
  | x :: r, [], _, _, h => by have := (h x).mp (by simp); cases this
  | x :: r, y :: t, h1, h2, h => by
    obtain ⟨a1, a2⟩ := List.pairwise_cons.mp h1
    obtain ⟨b1, b2⟩ := List.pairwise_cons.mp h2
    have e : x = y := by
      have p := (h x).mp (by simp)
      have q := (h y).mpr (by simp)
      rcases List.mem_cons.mp p with e | e
      · exact e
      · rcases List.mem_cons.mp q with e' | e'
        · exact e'.symm
        · have := b1 x e; have := a1 y e'; omega
    subst e
    rw [up_uniq a2 b2 fun k => ?_]
    constructor
    · intro hk
      rcases List.mem_cons.mp ((h k).mp (by simp [hk])) with e | e
      · have := a1 k hk; omega
      · exact e
    · intro hk
      rcases List.mem_cons.mp ((h k).mpr (by simp [hk])) with e | e
      · have := b1 k hk; omega
      · exact e
/-! ### contracts -/
def toldFe (f : FeT) : D := .tup [.str f.name, .int f.place, .int f.lasts, keptD f.kept, actsD f.acts]
def c_Feast_told (K : PySem.W.Frag) : CT := fun ds μ P PX => ∃ f : FeT, ds = [feD K f] ∧ P (toldFe f) μ
def c_are_unlike (K : PySem.W.Frag) : CT := fun ds μ P PX => ∃ (x : D) (ns : List Str), ds = [x] ∧ Ls μ x (ns.map D.str) ∧ ns.length ≤ 63 ∧ ns.Nodup ∧ P (.bl true) μ
def c_sort_at (K : PySem.W.Frag) : CT := fun ds μ P PX => ∃ (x : D) (sp : List SpT) (z : Int), ds = [x, .int z] ∧ Ls μ x (sp.map segD) ∧ sp.length ≤ 100000 ∧ P (wordD (sortAt sp z)) μ
def endsOf (ls : List Int) (fs : List FeT) (name : Str) (y : Int) : List Int := 0 :: longY ls y :: ((spansOf ls fs name y).map (·.a) ++ (spansOf ls fs name y).map (·.b))
/-- the chart of a year -/
def chartOf (ls : List Int) (fs : List FeT) (name : Str) (y : Int) : List SgT := mkSegs (sortAt (spansOf ls fs name y)) (srtI (endsOf ls fs name y))
def c_year_chart (K : PySem.W.Frag) : CT := fun ds μ P PX => ∃ (ls : List Int) (fs : List FeT) (name : Str) (y : Int), ds = [calD K ls, .lst (fs.map (feD K)), .str name, .int y] ∧ GCal ls ∧ (∀ f ∈ fs, GFe f) ∧ fs.length ≤ 8 ∧ 0 ≤ y ∧ P (.lst ((chartOf ls fs name y).map segD)) μ
structure GHo (ls : List Int) (fs : List FeT) (rs : List RwT) : Prop where
  cal : GCal ls
  fe : ∀ f ∈ fs, GFe f
  few : fs.length ≤ 8
  rw : ∀ r ∈ rs, GRw r
  r0 : 0 < rs.length
  r4 : rs.length ≤ 4
  nr : (rs.map (·.name)).Nodup
  nf : (fs.map (·.name)).Nodup
  kept : ∀ f ∈ fs, ∀ ys, f.kept = some ys → ∀ y ∈ ys, y < ls.length
  puts : ∀ f ∈ fs, ∀ p ∈ f.acts, p.1 ∈ rs.map (·.name)
def c_is_house (K : PySem.W.Frag) : CT := fun ds μ P PX => ∃ (ls : List Int) (fs : List FeT) (rs : List RwT) (x y : D), ds = [calD K ls, x, y] ∧ GHo ls fs rs ∧ Ls μ x (fs.map (feD K)) ∧ Ls μ y (rs.map (rowD K)) ∧ tyD μ x = some "list" ∧ tyD μ y = some "list" ∧ P (.bl true) μ
structure KIsH (K : PySem.W.Frag) : Prop where
  og : ObT K (cGo K)
  oy : ObT K (cYe K)
  ig : PySem.W.kitOne K (.ref (cGo K)) (.ref (He.ga K "Row")) = some true
  iy : PySem.W.kitOne K (.ref (cYe K)) (.ref (He.ga K "Row")) = some true
  oc : ObT K (cCal K)
  ic : PySem.W.kitOne K (.ref (cCal K)) (.ref (He.ga K "Calendar")) = some true
  of : ObT K (cFe K)
  jf : PySem.W.kitOne K (.ref (cFe K)) (.ref (He.ga K "Feast")) = some true
def t_Feast_told (K : PySem.W.Frag) (E : XK) : TS :=
    (tSeq (tAsg (tIf (tB (tIsN (tFld K (tVar 0) "kept"))) (tC .non) (tCB (rListOf K) (tCons (tFld K (tVar 0) "kept") tNil))) (gName 1))
      (tRet (tTup (tCons (tFld K (tVar 0) "name") (tCons (tFld K (tVar 0) "place") (tCons (tFld K (tVar 0) "lasts") (tCons (tVar 1) (tCons (tCB (rListOf K) (tCons (tFld K (tVar 0) "acts") tNil)) tNil))))))))
def t_are_unlike (K : PySem.W.Frag) (E : XK) : TS :=
    (tRet (tOp (rEqD K) (tLenSetS K (tVar 0)) (tCB (rLen K) (tCons (tVar 0) tNil))))
def t_is_house (K : PySem.W.Frag) (E : XK) : TS :=
    (tSeq (tIfS (tOr (tNot (tTruth K (tCB (rIsi K) (tCons (tVar 0) (tCons (tC (.ref (He.ga K "Calendar"))) tNil))))) (tOr (tNot (tTruth K (tCB (rIsi K) (tCons (tVar 1) (tCons (tC (.ty "list")) tNil))))) (tNot (tTruth K (tCB (rIsi K) (tCons (tVar 2) (tCons (tC (.ty "list")) tNil))))))) (tRet (tC (.bl false))) tNext)
      (tSeq (tIfS (tOr (tTest (tOp (rI0 fun i j => .bl (decide (j < i))) (tCB (rLen K) (tCons (tVar 1) tNil)) (tC (.int 8)))) (tNot (tTest (tChain (rI0 fun i j => .bl (decide (i ≤ j))) (rI0 fun i j => .bl (decide (i ≤ j))) (tC (.int 1)) (tCB (rLen K) (tCons (tVar 2) tNil)) (tC (.int 4)))))) (tRet (tC (.bl false))) tNext)
      (tSeq (tIfS (tOr (tNot (tTruth K (tCB (rAll K) (tCons (tLc (iAny K (tVar 1)) (gName 3) tYes (tCB (rIsi K) (tCons (tVar 3) (tCons (tC (.ref (He.ga K "Feast"))) tNil))) [3]) tNil)))) (tNot (tTruth K (tCB (rAll K) (tCons (tLc (iAny K (tVar 2)) (gName 4) tYes (tCB (rIsi K) (tCons (tVar 4) (tCons (tC (.ref (He.ga K "Row"))) tNil))) [4]) tNil))))) (tRet (tC (.bl false))) tNext)
      (tSeq (tAsg (tLc (iAny K (tVar 2)) (gName 4) tYes (tFld K (tVar 4) "name") [4]) (gName 5))
      (tSeq (tIfS (tOr (tNot (tTruth K (tCall (spD K (c_are_unlike K)) [] E (tCons (tVar 5) tNil)))) (tNot (tTruth K (tCall (spD K (c_are_unlike K)) [] E (tCons (tLc (iAny K (tVar 1)) (gName 3) tYes (tOp (rIx K) (tMeth (He.ga K "Feast") "told" (spD K (c_Feast_told K)) [] E0 (tVar 3) tNil) (tC (.int 0))) [3]) tNil))))) (tRet (tC (.bl false))) tNext)
      (tSeq (tAsg (tCB (rLen K) (tCons (tMeth (He.ga K "Calendar") "years" (spD K (c_Calendar_years K)) [] E (tVar 0) tNil) tNil)) (gName 6))
      (tSeq (tFor (iAny K (tVar 1)) (gName 3) (tSeq (tAsg (tSl (rSlA K) (tMeth (He.ga K "Feast") "told" (spD K (c_Feast_told K)) [] E (tVar 3) tNil) (tPart (tC (.int 3))) tNoPart) (gTup K 2 (gCons (gName 7) (gCons (gName 8) gNil))))
      (tSeq (tIfS (tAnd (tB (tNotN (tVar 7))) (tTest (tOp (rI0 fun i j => .bl (decide (j ≤ i))) (tOp (rIx K) (tVar 7) (tUn (rU fun i => .int (-i)) (tC (.int 1)))) (tVar 6)))) (tRet (tC (.bl false))) tNext)
      (tIfS (tNot (tTruth K (tCB (rAll K) (tCons (tLc (iAny K (tVar 8)) (gTup K 2 (gCons (gName 9) (gCons (gName 10) gNil))) tYes (tOp (rInA K) (tVar 9) (tVar 5)) [9, 10]) tNil)))) (tRet (tC (.bl false))) tNext))))
      (tRet (tC (.bl true))))))))))
def t_sort_at (K : PySem.W.Frag) (E : XK) : TS :=
    (tSeq (tFor (iAny K (tTup (tCons (tC (.str "rest")) (tCons (tC (.str "off")) tNil)))) (gName 2) (tFor (iAny K (tVar 0)) (gTup K 4 (gCons (gName 3) (gCons (gName 4) (gCons (gName 5) (gCons (gName 6) gNil))))) (tIfS (tAnd (tTest (tOp (rEqD K) (tVar 5) (tVar 2))) (tTest (tChain (rI0 fun i j => .bl (decide (i ≤ j))) (rI0 fun i j => .bl (decide (i < j))) (tVar 3) (tVar 1) (tVar 4)))) (tRet (tTup (tCons (tVar 5) (tCons (tVar 6) tNil)))) tNext)))
      (tRet (tTup (tCons (tC (.str "free")) (tCons (tC (.str "")) tNil)))))
def t_year_chart (K : PySem.W.Frag) (E : XK) : TS :=
    (tSeq (tAsg (tMeth (He.ga K "Calendar") "first" (spD K (c_Calendar_first K)) [] E (tVar 0) (tCons (tVar 3) tNil)) (gName 4))
      (tSeq (tAsg (tLst tNil) (gName 5))
      (tSeq (tFor (iAny K (tVar 1)) (gName 6) (tSeq (tAsg (tMeth (He.ga K "Feast") "span" (spD K (c_Feast_span K)) [] E (tVar 6) (tCons (tVar 0) (tCons (tVar 3) tNil))) (gName 7))
      (tSeq (tAsg (tMeth (He.ga K "Feast") "told" (spD K (c_Feast_told K)) [] E (tVar 6) tNil) (gTup K 5 (gCons (gName 8) (gCons (gName 9) (gCons (gName 10) (gCons (gName 11) (gCons (gName 12) gNil)))))))
      (tSeq (tAsg (tDGet2 (tCB (rDictP K) (tCons (tVar 12) tNil)) (tVar 2) (tC (.str ""))) (gName 13))
      (tIfS (tAnd (tB (tNotN (tVar 7))) (tTest (tOp (rNeD K) (tVar 13) (tC (.str ""))))) (tDrop (tBM K "list" rAppend (tVar 5) (tCons (tTup (tCons (tOp (rI0 fun i j => .int (i - j)) (tOp (rIx K) (tVar 7) (tC (.int 0))) (tVar 4)) (tCons (tOp (rI0 fun i j => .int (i - j)) (tOp (rIx K) (tVar 7) (tC (.int 1))) (tVar 4)) (tCons (tVar 13) (tCons (tVar 8) tNil))))) tNil))) tNext)))))
      (tSeq (tAsg (tOp (rAddA K) (tOp (rAddA K) (tLst (tCons (tC (.int 0)) (tCons (tMeth (He.ga K "Calendar") "long" (spD K (c_Calendar_long K)) [] E (tVar 0) (tCons (tVar 3) tNil)) tNil))) (tLc (iAny K (tVar 5)) (gName 7) tYes (tOp (rIx K) (tVar 7) (tC (.int 0))) [7])) (tLc (iAny K (tVar 5)) (gName 7) tYes (tOp (rIx K) (tVar 7) (tC (.int 1))) [7])) (gName 14))
      (tSeq (tAsg (tSortSet K (tVar 14)) (gName 15))
      (tRet (tLc (iZip K (tCons (tVar 15) (tCons (tSl (rSlA K) (tVar 15) (tPart (tC (.int 1))) tNoPart) tNil))) (gTup K 2 (gCons (gName 16) (gCons (gName 17) gNil))) tYes (tOp (rAddA K) (tTup (tCons (tVar 16) (tCons (tVar 17) tNil))) (tCall (spD K (c_sort_at K)) [] E0 (tCons (tVar 5) (tCons (tVar 16) tNil)))) [16, 17])))))))
section
variable {K : PySem.W.Frag}
theorem d_Feast_told (kf : KFe K) : ∀ ds μ P PX, c_Feast_told K ds μ P PX → MuCl μ μ.length → clL ds μ.length = true → ∀ B E, XAg K B (RetX μ.length PX) E → DS K B (t_Feast_told K E) (startD ["self", "years"] ds) μ (fnE μ.length P) := by
  intro ds μ P PX h hm hc B E hE
  obtain ⟨f, rfl, h⟩ := h
  have k1 := kf.cl; have k2 := kf.name; have k3 := kf.place; have k4 := kf.lasts; have k5 := kf.kept; have k6 := kf.acts
  have hcl : ∀ n, (toldFe f).cl n = true := fun n => by simp [toldFe, D.cl, clL, cl_kept, cl_acts]
  show DS K B _ [some (feD K f), none] μ _
  unfold t_Feast_told
  refine q_set (de_is (d0 := keptD f.kept) ?_ ?_)
  · cases q : f.kept with
    | none =>
      wtm_at "A"
      rw [q]
      refine np_t ?_
      wtm_at "A"
      exact ⟨rfl, rfl⟩
    | some ys =>
      have hq : keptD f.kept = intsD ys := by rw [q]; rfl
      wtm_at "A"
      rw [hq]
      refine np_lst ?_
      wtm_at "A"
      rw [hq]
      wtm_at "A"
      exact ⟨rfl, rfl⟩
  wtm_at "A"
  exact ret_same0 (Nat.le_refl _) hm (hcl _) h
theorem d_are_unlike : ∀ ds μ P PX, c_are_unlike K ds μ P PX → MuCl μ μ.length → clL ds μ.length = true → ∀ B E, XAg K B (RetX μ.length PX) E → DS K B (t_are_unlike K E) (startD ["names"] ds) μ (fnE μ.length P) := by
  intro ds μ P PX h hm hc B E hE
  obtain ⟨x, ns, rfl, hl, hn, nd, h⟩ := h
  show DS K B _ [some x] μ _
  unfold t_are_unlike
  wtm_at "A"
  refine de_lenSetS ?_
  wtm_at "A"
  refine ⟨ns, hl, by omega, ?_⟩
  rw [ded_nodup _ nd _ (Nat.le_refl _), List.take_length]
  wtm_at "A"
  refine rc_lenL hl ?_
  rw [List.length_map]
  wtm_at "A"
  wtm_at "r"
  simpa using h
theorem segs_get {ss : List SpT} {i : Nat} {d : D} (h : (ss.map segD)[i]? = some d) : ∃ s, ss[i]? = some s ∧ d = .tup [.int s.a, .int s.b, .str s.w.s, .str s.t] := by
  rw [List.getElem?_map] at h
  cases q : ss[i]? with
  | none => rw [q] at h; cases h
  | some s => rw [q] at h; exact ⟨s, rfl, (Option.some.inj h).symm⟩
theorem Srt.s_inj {a b : Srt} (h : a.s = b.s) : a = b := by
  cases a <;> cases b <;> first | rfl | exact absurd h (by decide +kernel)
/-- the first span of the list that makes the place so -/
theorem find_none_step {sp : List SpT} {p : SpT → Bool} {i : Nat} {s : SpT} (e : sp[i]? = some s) (h : ∀ j t, j < i → sp[j]? = some t → p t = false) : p s = true → sp.find? p = some s := by
  intro hs
  rw [List.find?_eq_some_iff_getElem]
  have hi : i < sp.length := (List.getElem?_eq_some_iff.mp e).1
  refine ⟨hs, i, hi, (List.getElem?_eq_some_iff.mp e).2, fun j hj => ?_⟩
  have := h j sp[j] hj (List.getElem?_eq_getElem _)
  simp [this]
theorem find_none_all {sp : List SpT} {p : SpT → Bool} (h : ∀ j t, j < sp.length → sp[j]? = some t → p t = false) : sp.find? p = none := by
  rw [List.find?_eq_none]
  intro x hx
  obtain ⟨j, hj, rfl⟩ := List.getElem_of_mem hx
  simp [h j _ hj (List.getElem?_eq_getElem _)]
theorem d_sort_at : ∀ ds μ P PX, c_sort_at K ds μ P PX → MuCl μ μ.length → clL ds μ.length = true → ∀ B E, XAg K B (RetX μ.length PX) E → DS K B (t_sort_at K E) (startD ["spans", "place", "wanted", "start", "end", "sort", "feast"] ds) μ (fnE μ.length P) := by
  intro ds μ P PX h hm hc B E hE
  obtain ⟨x, sp, z, rfl, hl, hn, h⟩ := h
  obtain ⟨S, wk⟩ := hl.wk
  show DS K B _ [some x, some (.int z), none, none, none, none, none] μ _
  unfold t_sort_at
  refine q_for ?_
  wtm_at "A"
  refine ⟨_, _, .tup _, ?_⟩
  refine ⟨fun i ρ' μ' => μ' = μ ∧ (∃ a b c d e, ρ' = [some x, some (.int z), a, b, c, d, e]) ∧ (1 ≤ i → sp.find? (fun s => s.on .rest z) = none) ∧ (2 ≤ i → sp.find? (fun s => s.on .off z) = none), ⟨rfl, ⟨_, _, _, _, _, rfl⟩, by omega, by omega⟩, fun i ρ' μ' hi hv => trivial, ?_, ?_⟩
  · intro i d ρ' μ' hd hv
    obtain ⟨hμ, ⟨a, b, c, e, f, rfl⟩, v1, v2⟩ := hv
    subst μ'
    obtain ⟨w, rfl, hw1, hw2, hw3⟩ : ∃ w : Srt, d = .str w.s ∧ (w = .rest ∨ w = .off) ∧ (i = 0 → w = .rest) ∧ (1 ≤ i → w = .off ∧ i = 1) := by
      match i, hd with
      | 0, hd => exact ⟨.rest, by simp at hd; exact hd.symm, .inl rfl, fun _ => rfl, by omega⟩
      | 1, hd => exact ⟨.off, by simp at hd; exact hd.symm, .inr rfl, by omega, fun _ => ⟨rfl, rfl⟩⟩
      | n + 2, hd => simp at hd
    wtm_at "A"
    refine ds_for ?_
    wtm_at "A"
    refine ⟨_, S, wk, ?_⟩
    refine ⟨fun n ρ' μ' => μ' = μ ∧ (∃ b c d e, ρ' = [some x, some (.int z), some (.str w.s), b, c, d, e]) ∧ (∀ j t, j < n → sp[j]? = some t → t.on w z = false), ?_, ?_, ?_, ?_⟩
    · exact ⟨rfl, ⟨_, _, _, _, rfl⟩, fun j t hj => by omega⟩
    · exact fun n ρ' μ' hn' hv => by rw [hv.1]; exact wk.now
    · intro n d ρ' μ' hd2 hv
      obtain ⟨hμ, ⟨b, c, e, f, rfl⟩, vn⟩ := hv
      subst μ'
      obtain ⟨s, hs, rfl⟩ := segs_get hd2
      have step : s.on w z = false → ∀ j t, j < n + 1 → sp[j]? = some t → t.on w z = false := fun hf j t hj ht => by
        rcases Nat.lt_or_ge j n with q | q
        · exact vn j t q ht
        · obtain rfl : j = n := by omega
          rw [hs] at ht
          cases ht
          exact hf
      wtm_at "A"
      refine ro_eqS s.w.ok w.ok ?_
      wtm_at "A"
      · rename_i q1 q2 q3
        have ew := Srt.s_inj q1
        have on : s.on w z = true := by simp [SpT.on, ew, q2, q3]
        have ef := find_none_step (p := fun t => t.on w z) hs vn on
        show Ret μ.length P (.tup [.str s.w.s, .str s.t]) μ
        wtm_at "r"
        rw [ew]
        unfold sortAt at h
        rcases hw1 with rfl | rfl
        · rw [ef] at h; exact h
        · have hi : i = 1 := by
            rcases Nat.lt_or_ge 0 i with q | q
            · exact (hw3 q).2
            · exact absurd (hw2 (by omega)) (by decide)
          rw [v1 (by omega), ef] at h
          exact h
      all_goals
        refine ⟨rfl, ⟨_, _, _, _, rfl⟩, step ?_⟩
        unfold SpT.on
        simp only [Bool.and_eq_false_iff, decide_eq_false_iff_not]
      · omega
      · omega
      · exact .inl fun q => absurd (congrArg Srt.s q) (by assumption)
    · intro ρ' μ' hv
      obtain ⟨hμ, ⟨b, c, e, f, rfl⟩, vn⟩ := hv
      subst μ'
      have hf := find_none_all (p := fun t => t.on w z) fun j t hj => vn j t (by simpa using hj)
      refine ⟨rfl, ⟨_, _, _, _, _, rfl⟩, fun hi => ?_, fun hi => ?_⟩
      · rcases Nat.lt_or_ge 0 i with q | q
        · exact v1 q
        · rw [← hw2 (by omega)]; exact hf
      · rw [← (hw3 (by omega)).1]; exact hf
  · intro ρ' μ' hv
    obtain ⟨hμ, ⟨a, b, c, e, f, rfl⟩, v1, v2⟩ := hv
    subst μ'
    have e1 := v1 (by simp)
    have e2 := v2 (by simp)
    wtm_at "A"
    wtm_at "r"
    unfold sortAt at h
    rw [e1, e2] at h
    exact h
end
section
variable {K : PySem.W.Frag}
theorem fes_get {fs : List FeT} {i : Nat} {d : D} (h : (fs.map (feD K))[i]? = some d) : ∃ f, fs[i]? = some f ∧ d = feD K f := by
  rw [List.getElem?_map] at h
  cases q : fs[i]? with
  | none => rw [q] at h; cases h
  | some s => rw [q] at h; exact ⟨s, rfl, (Option.some.inj h).symm⟩
theorem putOf_word {f : FeT} (hf : GFe f) (name : Str) : (valD (mergeKD [] (actsK f.acts)) (.inr name)).getD (.str "") = .str (match putOf f name with | some w => w.s | none => "") := valD_acts hf.acts name
theorem zip_segs (S : Int → Srt × Str) (f : D → D) (hf : ∀ c d, f (.tup [.int c, .int d]) = segD ⟨c, d, (S c).1, (S c).2⟩) : ∀ ms : List Int, (zipD (ms.map D.int) ((ms.drop 1).map D.int)).map f = (mkSegs S ms).map segD
  | [] => rfl
  | [_] => rfl
  | c :: d :: r => by
    have := zip_segs S f hf (d :: r)
    simp [zipD, mkSegs, hf] at this ⊢
    exact this
theorem up_len {B : Int} : ∀ (r : List Int) (c : Int), (c :: r).Pairwise (· < ·) → (∀ x ∈ c :: r, x ≤ B) → ((c :: r).length : Int) ≤ B - c + 1
  | [], c, _, h => by have := h c (by simp); simp; omega
  | d :: r, c, hp, h => by
    have h1 := (List.pairwise_cons.mp hp).1 d (by simp)
    have := up_len r d (List.pairwise_cons.mp hp).2 fun x hx => h x (by simp at hx ⊢; exact .inr hx)
    simp at this ⊢
    omega
theorem last_up {B : Int} : ∀ (r : List Int) (c : Int), (c :: r).Pairwise (· < ·) → (∀ x ∈ c :: r, x ≤ B) → B ∈ c :: r → (c :: r).getLastD 0 = B
  | [], c, _, _, h => by simp at h ⊢; exact h.symm
  | d :: r, c, hp, h, hB => by
    have h1 := (List.pairwise_cons.mp hp).1 d (by simp)
    have h2 := h d (by simp)
    have hB' : B ∈ d :: r := by
      rcases List.mem_cons.mp hB with q | q
      · omega
      · exact q
    have := last_up r d (List.pairwise_cons.mp hp).2 (fun x hx => h x (by simp at hx ⊢; exact .inr hx)) hB'
    simpa [List.getLastD] using this
theorem cut_one (xs : List D) (h : 0 < xs.length) : cutD xs (some 1) none = xs.drop 1 := by
  unfold cutD
  have e1 : HT.sIx xs.length 0 (some 1) = 1 := by
    unfold HT.sIx
    simp
    omega
  have e2 : HT.sIx xs.length xs.length none = xs.length := by
    unfold HT.sIx
    simp
  rw [e1, e2]
  exact List.take_of_length_le (by simp)
theorem chartOf_ok {ls : List Int} {fs : List FeT} {name : Str} {y : Int} (hg : GCal ls) (hf : ∀ f ∈ fs, GFe f) (hy : 0 ≤ y) : Chain (sortY ls fs name y) 0 (chartOf ls fs name y) (longY ls y) ∧ (chartOf ls fs name y).length ≤ 401 := by
  have hbd : ∀ s ∈ spansOf ls fs name y, 0 ≤ s.a ∧ s.a < s.b ∧ s.b ≤ longY ls y := fun s hs => by
    obtain ⟨f, hfm, e⟩ := List.mem_filterMap.mp hs
    exact spanFor_bd hg (hf f hfm) hy e
  have hl0 : 1 ≤ longY ls y := (longY_bd hg hy).1
  obtain ⟨hs, hmem⟩ := srtI_ok (endsOf ls fs name y)
  show Chain (sortAt (spansOf ls fs name y)) 0 (mkSegs (sortAt (spansOf ls fs name y)) (srtI (endsOf ls fs name y))) (longY ls y) ∧ (mkSegs (sortAt (spansOf ls fs name y)) (srtI (endsOf ls fs name y))).length ≤ 401
  unfold endsOf at hs hmem ⊢
  generalize spansOf ls fs name y = sp at hbd hs hmem ⊢
  generalize srtI (0 :: longY ls y :: (sp.map (·.a) ++ sp.map (·.b))) = ms at hs hmem ⊢
  have hlo : ∀ x ∈ ms, 0 ≤ x ∧ x ≤ longY ls y := fun x hx => by
    have := (hmem x).mp hx
    simp only [List.mem_cons, List.mem_append, List.mem_map] at this
    rcases this with rfl | rfl | ⟨s, hs', rfl⟩ | ⟨s, hs', rfl⟩
    · omega
    · omega
    · have := hbd s hs'; omega
    · have := hbd s hs'; omega
  obtain ⟨r, rfl⟩ : ∃ r, ms = 0 :: r := by
    have h0 : (0 : Int) ∈ ms := (hmem 0).mpr (by simp)
    cases ms with
    | nil => cases h0
    | cons c r =>
      have hc0 := (hlo c (by simp)).1
      rcases List.mem_cons.mp h0 with q | q
      · exact ⟨r, by rw [q]⟩
      · have := (List.pairwise_cons.mp hs).1 0 q
        omega
  have hl4 := (longY_bd hg hy).2
  have hlen := up_len (B := longY ls y) r 0 hs fun x hx => (hlo x hx).2
  have hlast := last_up (B := longY ls y) r 0 hs (fun x hx => (hlo x hx).2) ((hmem _).mpr (by simp))
  have hchain := chain_cuts (sp := sp) (E := 0 :: longY ls y :: (sp.map (·.a) ++ sp.map (·.b))) (fun s hs' => by simp; exact ⟨.inr (.inr (.inl ⟨s, hs', rfl⟩)), .inr (.inr (.inr ⟨s, hs', rfl⟩))⟩) r 0 hs fun e he => by
    rcases List.mem_cons.mp ((hmem e).mpr he) with q | q
    · exact .inl (by omega)
    · exact .inr q
  rw [hlast] at hchain
  exact ⟨hchain, by have := mkSegs_len (sortAt sp) (0 :: r); omega⟩
theorem d_year_chart : ∀ ds μ P PX, c_year_chart K ds μ P PX → MuCl μ μ.length → clL ds μ.length = true → ∀ B E, XAg K B (RetX μ.length PX) E → DS K B (t_year_chart K E) (startD ["calendar", "feasts", "name", "year", "first", "spans", "feast", "span", "title", "place", "days", "years", "puts", "sort", "ends", "cuts", "start", "end"] ds) μ (fnE μ.length P) := by
  intro ds μ P PX h hm hc B E hE
  obtain ⟨ls, fs, name, y, rfl, hg, hf, hn, hy, h⟩ := h
  show DS K B _ [some (calD K ls), some (.lst (fs.map (feD K))), some (.str name), some (.int y), none, none, none, none, none, none, none, none, none, none, none, none, none, none] μ _
  unfold t_year_chart
  wtm_at "A"
  refine ⟨ls, y, rfl, hg, fun _ => ?_, fun q => by omega⟩
  refine q_set (de_lstOZ ?_)
  wtm_at "A"
  refine q_for ?_
  wtm_at "A"
  refine ⟨_, _, .lst _, ?_⟩
  refine ⟨fun i ρ' μ' => μ' = μ ++ [.lst (((fs.take i).filterMap (spanFor ls name y)).map segD)] ∧ ∃ a b c d e f g h i j k l, ρ' = [some (calD K ls), some (.lst (fs.map (feD K))), some (.str name), some (.int y), some (.int (firstY ls y)), some (.own μ.length), a, b, c, d, e, f, g, h, i, j, k, l], ⟨rfl, _, _, _, _, _, _, _, _, _, _, _, _, rfl⟩, fun _ _ _ _ _ => trivial, ?_, ?_⟩
  · intro i d ρ' μ' hd hv
    obtain ⟨hμ, a1, a2, a3, a4, a5, a6, a7, a8, a9, a10, a11, a12, rfl⟩ := hv
    subst μ'
    obtain ⟨f, hfi, rfl⟩ := fes_get hd
    have gf := hf f (List.mem_of_getElem? hfi)
    have enx : (fs.take (i + 1)).filterMap (spanFor ls name y) = (fs.take i).filterMap (spanFor ls name y) ++ (spanFor ls name y f).toList := by
      rw [List.take_add_one, hfi, List.filterMap_append]
      cases e : spanFor ls name y f <;> simp [e]
    wtm_at "A"
    refine ⟨f, ls, y, rfl, hg, fun _ => ?_, fun q => by omega⟩
    wtm_at "A"
    refine ⟨f, rfl, ?_⟩
    unfold toldFe
    wtm_at "A"
    have ea : (actsK f.acts).map (fun kv => D.tup [keyD kv.1, kv.2]) = f.acts.map actD := by
      unfold actsK
      rw [List.map_map]
      rfl
    refine de_dget2 ?_
    wtm_at "A"
    refine rc_dictP (gs := actsK f.acts) (by rw [ea]; exact .lst _) (.inl ?_)
    refine ⟨⟨_, .dct _⟩, ?_⟩
    wtm_at "A"
    refine ⟨_, .inr name, .dct _, rfl, ?_⟩
    rw [putOf_word gf]
    cases q1 : spanOf ls f y with
    | none =>
      have e0 : spanFor ls name y f = none := by unfold spanFor; rw [q1]
      rw [e0] at enx
      simp only [spanD]
      wtm_at "A"
      refine ⟨by rw [enx]; simp, _, _, _, _, _, _, _, _, _, _, _, _, rfl⟩
    | some p =>
      simp only [spanD, pairD]
      cases q2 : putOf f name with
      | none =>
        have e0 : spanFor ls name y f = none := by unfold spanFor; rw [q1, q2]
        rw [e0] at enx
        wtm_at "A"
        refine ro_neS (by decide +kernel) (by decide +kernel) ?_
        wtm_at "A"
        refine ⟨by rw [enx]; simp, _, _, _, _, _, _, _, _, _, _, _, _, rfl⟩
      | some w =>
        have e0 : spanFor ls name y f = some ⟨p.1 - firstY ls y, p.2 - firstY ls y, w, f.name⟩ := by unfold spanFor; rw [q1, q2]
        rw [e0] at enx
        have hw : ¬ w.s = "" := by cases w <;> decide +kernel
        wtm_at "A"
        refine ro_neS w.ok (by decide +kernel) ?_
        wtm_at "A"
        · wtm_at "m"
          wtm_at "A"
          refine rm_app mu_last ?_ ?_
          · have e1 : ((fs.take i).filterMap (spanFor ls name y)).length ≤ (fs.take i).length := List.length_filterMap_le _ _
            have e2 : (fs.take i).length ≤ fs.length := by simp; omega
            rw [List.length_map]
            omega
          rw [set_last]
          refine ⟨?_, _, _, _, _, _, _, _, _, _, _, _, _, rfl⟩
          rw [enx]
          simp [segD]
        · exact absurd (by assumption) hw
  · intro ρ' μ' hv
    obtain ⟨hμ, a1, a2, a3, a4, a5, a6, a7, a8, a9, a10, a11, a12, rfl⟩ := hv
    subst μ'
    rw [List.length_map, List.take_length]
    have hsp : (fs.filterMap (spanFor ls name y)).length ≤ 8 := by
      have e1 : (fs.filterMap (spanFor ls name y)).length ≤ fs.length := List.length_filterMap_le _ _
      omega
    have hbd : ∀ s ∈ spansOf ls fs name y, 0 ≤ s.a ∧ s.a < s.b ∧ s.b ≤ longY ls y := fun s hs => by
      obtain ⟨f, hfm, e⟩ := List.mem_filterMap.mp hs
      exact spanFor_bd hg (hf f hfm) hy e
    show DS K B _ _ (μ ++ [.lst ((spansOf ls fs name y).map segD)]) _
    change (spansOf ls fs name y).length ≤ 8 at hsp
    have hch : P (.lst ((mkSegs (sortAt (spansOf ls fs name y)) (srtI (0 :: longY ls y :: ((spansOf ls fs name y).map (·.a) ++ (spansOf ls fs name y).map (·.b))))).map segD)) μ := h
    generalize spansOf ls fs name y = sp at hsp hbd hch ⊢
    have hl0 : 1 ≤ longY ls y := (longY_bd hg hy).1
    wtm_at "A"
    refine de_lstZ ?_
    wtm_at "A"
    refine ⟨ls, y, rfl, hg, fun _ => ?_, fun q => by omega⟩
    wtm_at "A"
    refine lc_map (fun d => match d with | .tup (a :: _) => a | _ => .non) (gw_name (by simp)) ?_
    wtm_at "A"
    refine ⟨_, _, .own mu_last, mu_last, by simp; omega, fun i d hd => ?_, fun out ho => ?_⟩
    · obtain ⟨s, hs, rfl⟩ := segs_get hd
      wtm_at "A"
      refine ⟨rfl, ?_⟩
      wtm_at "A"
      exact ⟨rfl, rfl⟩
    have ho' : out = (sp.map (·.a)).map D.int := by rw [← ho, List.map_map, List.map_map]; rfl
    subst ho'
    clear ho
    wtm_at "A"
    refine ro_addL (.lst _) (.lst _) (by simp; omega) ?_
    wtm_at "A"
    refine lc_map (fun d => match d with | .tup (_ :: b :: _) => b | _ => .non) (gw_name (by simp)) ?_
    wtm_at "A"
    refine ⟨_, _, .own mu_last, mu_last, by simp; omega, fun i d hd => ?_, fun out ho => ?_⟩
    · obtain ⟨s, hs, rfl⟩ := segs_get hd
      wtm_at "A"
      refine ⟨rfl, ?_⟩
      wtm_at "A"
      exact ⟨rfl, rfl⟩
    have ho' : out = (sp.map (·.b)).map D.int := by rw [← ho, List.map_map, List.map_map]; rfl
    subst ho'
    clear ho
    wtm_at "A"
    refine ro_addL (.lst _) (.lst _) (by simp; omega) ?_
    wtm_at "A"
    have en : [D.int 0, D.int (longY ls y)] ++ (sp.map (·.a)).map D.int ++ (sp.map (·.b)).map D.int = (0 :: longY ls y :: (sp.map (·.a) ++ sp.map (·.b))).map D.int := by simp
    rw [en]
    refine de_sortSet ?_
    wtm_at "A"
    refine ⟨by simp; omega, fun ms hs hmem => ?_⟩
    have hms := up_uniq hs (srtI_ok _).1 fun k => (hmem k).trans ((srtI_ok _).2 k).symm
    have hk := hch
    rw [← hms] at hk
    obtain ⟨r, rfl⟩ : ∃ r, ms = 0 :: r := by
      have h0 : (0 : Int) ∈ ms := (hmem 0).mpr (by simp)
      cases ms with
      | nil => cases h0
      | cons c r =>
        have hc0 : 0 ≤ c := by
          have := (hmem c).mp (by simp)
          simp only [List.mem_cons, List.mem_append, List.mem_map] at this
          rcases this with rfl | rfl | ⟨s, hs', rfl⟩ | ⟨s, hs', rfl⟩
          · omega
          · omega
          · have := hbd s hs'; omega
          · have := hbd s hs'; omega
        rcases List.mem_cons.mp h0 with q | q
        · exact ⟨r, by rw [q]⟩
        · have := (List.pairwise_cons.mp hs).1 0 q
          omega
    have hl4 := (longY_bd hg hy).2
    have hlen := up_len (B := longY ls y) r 0 hs fun x hx => by
      have := (hmem x).mp hx
      simp only [List.mem_cons, List.mem_append, List.mem_map] at this
      rcases this with rfl | rfl | ⟨s, hs', rfl⟩ | ⟨s, hs', rfl⟩
      · omega
      · omega
      · have := hbd s hs'; omega
      · have := hbd s hs'; omega
    wtm_at "A"
    refine lc_map (fun d => match d with | .tup [.int c, .int e] => segD ⟨c, e, (sortAt sp c).1, (sortAt sp c).2⟩ | _ => .non) (gw_tup (gws_cons (i := 16) (vs := [16, 17]) (by simp) (gws_cons (i := 17) (by simp) gws_nil))) ?_
    refine di_zip ?_
    wtm_at "A"
    rw [cut_one _ (by simp), ← List.map_drop]
    refine ⟨_, _, rfl, trivial, ?_, fun i d hd => ?_, fun out ho => ?_⟩
    · rw [zipD_length, List.length_map, List.length_map]
      omega
    · obtain ⟨u, v, hu, hv, rfl⟩ := zipD_some hd
      obtain ⟨c, hc', rfl⟩ := intsG hu
      obtain ⟨e, he, rfl⟩ := intsG hv
      wtm_at "A"
      refine ⟨rfl, ?_⟩
      wtm_at "A"
      refine de_call XAg.none ?_
      wtm_at "A"
      refine ⟨_, sp, c, rfl, .own mu_last, by omega, ?_⟩
      refine ro_addT (.tup _) (.tup _) (by simp) (by simp) (by simp) ?_
      exact ⟨rfl, rfl⟩
    · rw [zip_segs (sortAt sp) _ (fun _ _ => rfl)] at ho
      subst ho
      exact ret_same (Nat.le_refl _) hm (by rw [D.cl]; exact clL_map fun x _ => by simp [segD, D.cl, clL]) hk
end
section
variable {K : PySem.W.Frag}
theorem rws_get {rs : List RwT} {i : Nat} {d : D} (h : (rs.map (rowD K))[i]? = some d) : ∃ r, rs[i]? = some r ∧ d = rowD K r := by
  rw [List.getElem?_map] at h
  cases q : rs[i]? with
  | none => rw [q] at h; cases h
  | some s => rw [q] at h; exact ⟨s, rfl, (Option.some.inj h).symm⟩
theorem d_is_house (kr : KRw K) (ki : KIsH K) : ∀ ds μ P PX, c_is_house K ds μ P PX → MuCl μ μ.length → clL ds μ.length = true → ∀ B E, XAg K B (RetX μ.length PX) E → DS K B (t_is_house K E) (startD ["calendar", "feasts", "rows", "feast", "row", "names", "many", "years", "puts", "name", "sort"] ds) μ (fnE μ.length P) := by
  intro ds μ P PX h hm hc B E hE
  obtain ⟨ls, fs, rs, x, y, rfl, g, hx, hy, tx, ty, h⟩ := h
  show DS K B _ [some (calD K ls), some x, some y, none, none, none, none, none, none, none, none] μ _
  have hp := g.cal.pos
  have g1 := g.few; have g2 := g.r0; have g3 := g.r4
  obtain ⟨Sx, wx⟩ := hx.wk
  obtain ⟨Sy, wy⟩ := hy.wk
  unfold t_is_house
  wtm_at "A"
  refine rc_isi (.obj ki.oc) (.loc _) ki.ic ?_
  wtm_at "A"
  refine rc_isiB tx (by rfl) ?_
  wtm_at "A"
  refine rc_isiB ty (by rfl) ?_
  wtm_at "A"
  refine rc_lenL hx ?_
  rw [List.length_map]
  wtm_at "A"
  refine rc_lenL hy ?_
  rw [List.length_map]
  wtm_at "A"
  refine lc_map (fun _ => .bl true) (gw_name (by simp)) ?_
  wtm_at "A"
  refine ⟨_, Sx, wx, wx.now, by simp; omega, fun i d hd => ?_, fun out ho => ?_⟩
  · obtain ⟨f, hfi, rfl⟩ := fes_get hd
    wtm_at "A"
    refine ⟨rfl, ?_⟩
    wtm_at "A"
    exact rc_isi (.obj ki.of) (.loc _) ki.jf ⟨rfl, rfl⟩
  wtm_at "A"
  refine rc_all (bs := fs.map fun _ => true) ?_ ?_
  · rw [← ho, List.map_map, List.map_map]
    exact .lst _
  rw [show (fs.map fun _ => true).all id = true by simp]
  wtm_at "A"
  refine lc_map (fun _ => .bl true) (gw_name (by simp)) ?_
  wtm_at "A"
  refine ⟨_, Sy, wy, wy.now, by simp; omega, fun i d hd => ?_, fun out ho => ?_⟩
  · obtain ⟨r, hri, rfl⟩ := rws_get hd
    wtm_at "A"
    refine ⟨rfl, ?_⟩
    wtm_at "A"
    cases hg : r.going with
    | true => rw [rowD_go hg]; exact rc_isi (.obj ki.og) (.loc _) ki.ig ⟨rfl, rfl⟩
    | false => rw [rowD_ye hg]; exact rc_isi (.obj ki.oy) (.loc _) ki.iy ⟨rfl, rfl⟩
  wtm_at "A"
  refine rc_all (bs := rs.map fun _ => true) ?_ ?_
  · rw [← ho, List.map_map, List.map_map]
    exact .lst _
  rw [show (rs.map fun _ => true).all id = true by simp]
  wtm_at "A"
  refine lc_map (fun d => match d with | .obj _ ((_, n) :: _) => n | _ => .non) (gw_name (by simp)) ?_
  wtm_at "A"
  refine ⟨_, Sy, wy, wy.now, by simp; omega, fun i d hd => ?_, fun out ho => ?_⟩
  · obtain ⟨r, hri, rfl⟩ := rws_get hd
    wtm_at "A"
    refine ⟨rfl, ?_⟩
    wtm_at "A"
    refine fpr_name kr ?_
    refine ⟨?_, rfl⟩
    cases hg : r.going with
    | true => rw [rowD_go hg]; rfl
    | false => rw [rowD_ye hg]; rfl
  have ho' : out = (rs.map (·.name)).map D.str := by
    rw [← ho, List.map_map, List.map_map]
    refine List.map_congr_left fun r _ => ?_
    cases hg : r.going with
    | true => simp only [Function.comp, rowD_go hg]; rfl
    | false => simp only [Function.comp, rowD_ye hg]; rfl
  subst ho'
  clear ho
  wtm_at "A"
  refine ⟨_, rs.map (·.name), rfl, .lst _, by simp; omega, g.nr, ?_⟩
  wtm_at "A"
  refine lc_map (fun d => match d with | .obj _ ((_, n) :: _) => n | _ => .non) (gw_name (by simp)) ?_
  wtm_at "A"
  refine ⟨_, Sx, wx, wx.now, by simp; omega, fun i d hd => ?_, fun out ho => ?_⟩
  · obtain ⟨f, hfi, rfl⟩ := fes_get hd
    wtm_at "A"
    refine ⟨rfl, ?_⟩
    wtm_at "A"
    refine de_methZ XAg.none ?_
    wtm_at "A"
    refine ⟨f, rfl, ?_⟩
    unfold toldFe
    wtm_at "A"
    exact ⟨rfl, rfl⟩
  have ho' : out = (fs.map (·.name)).map D.str := by
    rw [← ho, List.map_map, List.map_map]
    rfl
  subst ho'
  clear ho
  wtm_at "A"
  refine ⟨_, fs.map (·.name), rfl, .lst _, by simp; omega, g.nf, ?_⟩
  wtm_at "A"
  refine ⟨ls, rfl, .inl ?_⟩
  wtm_at "A"
  rw [List.length_map]
  refine q_for ?_
  wtm_at "A"
  refine ⟨_, Sx, wx, ?_⟩
  refine ⟨fun i ρ' μ' => μ' = μ ∧ ∃ a b c d e f, ρ' = [some (calD K ls), some x, some y, a, b, some (.lst ((rs.map (·.name)).map D.str)), some (.int ls.length), c, d, e, f], ⟨rfl, _, _, _, _, _, _, rfl⟩, fun i ρ' μ' _ hv => by rw [hv.1]; exact wx.now, ?_, ?_⟩
  · intro i d ρ' μ' hd hv
    obtain ⟨hμ, a1, a2, a3, a4, a5, a6, rfl⟩ := hv
    subst μ'
    obtain ⟨f, hfi, rfl⟩ := fes_get hd
    have hmf := List.mem_of_getElem? hfi
    have gf := g.fe f hmf
    wtm_at "A"
    refine ⟨f, rfl, ?_⟩
    unfold toldFe
    wtm_at "A"
    refine rs_anyT (.tup _) (show ¬ (HT.sIx 5 0 (some 3) = 0 ∧ HT.sIx 5 5 none = 5) by decide) ?_
    show DG K B _ (.tup [keptD f.kept, actsD f.acts]) _ _ _
    refine dg_tup rfl ?_
    refine dgs_cons (dg_name (dgs_cons (dg_name (dgs_nil ?_))))
    have hkept : DT K B (tAnd (tB (tNotN (tVar 7))) (tTest (tOp (rI0 fun i j => .bl (decide (j ≤ i))) (tOp (rIx K) (tVar 7) (tUn (rU fun i => .int (-i)) (tC (.int 1)))) (tVar 6)))) [some (calD K ls), some x, some y, some (feD K f), a2, some (.lst ((rs.map (·.name)).map D.str)), some (.int ls.length), some (keptD f.kept), some (actsD f.acts), a5, a6] μ (fun b μ1 => b = false ∧ μ1 = μ) := by
      cases q : f.kept with
      | none =>
        simp only [keptD]
        wtm_at "A"
        exact ⟨rfl, rfl⟩
      | some ys =>
        have hky := gf.kept ys q
        simp only [keptD, intsD]
        wtm_at "A"
        obtain ⟨z, hz⟩ : ∃ z, ys.getLast? = some z := by
          cases e : ys.getLast? with
          | none => rw [List.getLast?_eq_none_iff] at e; have := hky.pos; rw [e] at this; cases this
          | some z => exact ⟨z, rfl⟩
        have hzl := g.kept f hmf ys q z (List.mem_of_getLast? hz)
        refine ro_ixL (.lst _) (atI_neg1 (z := .int z) (by rw [List.getLast?_map, hz]; rfl)) ?_
        wtm_at "A"
        exact ⟨decide_eq_false (by omega), rfl⟩
    refine q_when (dt_imp hkept ?_)
    rintro b μ' ⟨rfl, hμ⟩
    subst μ'
    wtm_at "A"
    refine lc_map (fun _ => .bl true) (gw_tup (gws_cons (i := 9) (vs := [9, 10]) (by simp) (gws_cons (i := 10) (by simp) gws_nil))) ?_
    have h4 := gf.acts.most
    have ha : Ls μ (actsD f.acts) (f.acts.map actD) := .lst _
    obtain ⟨S, wk⟩ := ha.wk
    wtm_at "A"
    refine ⟨_, S, wk, wk.now, by simp; omega, fun i d hd => ?_, fun out ho => ?_⟩
    · obtain ⟨p, hpi, rfl⟩ := acts_get hd
      have hpm := g.puts f hmf p (List.mem_of_getElem? hpi)
      unfold actD
      wtm_at "A"
      refine ⟨rfl, ?_⟩
      wtm_at "A"
      refine ro_inS (.lst _) ?_
      exact ⟨by rw [decide_eq_true hpm], rfl⟩
    wtm_at "A"
    refine rc_all (bs := f.acts.map fun _ => true) ?_ ?_
    · rw [← ho, List.map_map, List.map_map]
      exact .lst _
    rw [show (f.acts.map fun _ => true).all id = true by simp]
    wtm_at "A"
    exact ⟨rfl, _, _, _, _, _, _, rfl⟩
  · intro ρ' μ' hv
    obtain ⟨hμ, a1, a2, a3, a4, a5, a6, rfl⟩ := hv
    subst μ'
    wtm_at "A"
    wtm_at "r"
    exact h
end
/-! ### tables: what is due and owed -/
def driftOf (r : RwT) (w : Srt) (n : Int) : Int := match w with
  | .rest => 0
  | .off => n
  | .free => n * (1 - r.most)
def c_drift_of (K : PySem.W.Frag) : CT := fun ds μ P PX => ∃ (r : RwT) (w : Srt) (n : Int), ds = [rowD K r, .str w.s, .int n] ∧ GRw r ∧ P (.int (driftOf r w n)) μ
/-- due and owed, and the drift -/
abbrev StT := (Int × Int) × Int
def stepSeg (r : RwT) (s : StT) (g : SgT) : StT := (over r s.1 g.w (g.b - g.a), s.2 + driftOf r g.w (g.b - g.a))
def markD (s : StT) : D := .tup [.int s.1.1, .int s.2, .int s.1.2]
def marksIn (r : RwT) : StT → List SgT → List StT
  | _, [] => []
  | s, g :: t => s :: marksIn r (stepSeg r s g) t
def anew (r : RwT) (s : StT) : StT := if r.going = true then s else ((0, 0), s.2)
def yearsFrom (r : RwT) : StT → List (List SgT) → List (List StT)
  | _, [] => []
  | s, c :: cs => marksIn r (anew r s) c :: yearsFrom r (c.foldl (stepSeg r) (anew r s)) cs
def endFrom (r : RwT) : StT → List (List SgT) → StT
  | s, [] => s
  | s, c :: cs => endFrom r (c.foldl (stepSeg r) (anew r s)) cs
def chartsD (cs : List (List SgT)) : D := .lst (cs.map fun c => .lst (c.map segD))
def marksD (ms : List (List StT)) : D := .lst (ms.map fun m => .lst (m.map markD))
abbrev cTa (K : PySem.W.Frag) : Addr := He.ga K "Table"
structure KTa (K : PySem.W.Frag) : Prop where
  cl : Cls K (cTa K)
  wheel : NoAttr K (cTa K) "wheel"
  line : NoAttr K (cTa K) "line"
  charts : NoAttr K (cTa K) "charts"
  early : NoAttr K (cTa K) "early"
  later : NoAttr K (cTa K) "later"
  td : NoAttr K (cTa K) "turn_due"
  tr : NoAttr K (cTa K) "turn_drift"
def c_Table_marks_from (K : PySem.W.Frag) : CT := fun ds μ P PX => ∃ (k : Nat) (gs : List (Str × D)) (r : RwT) (cs : List (List SgT)) (o : Int), ds = [.own k, .int o] ∧ μ[k]? = some (.ins (cTa K) gs) ∧ gs.lookup ("line" : Str) = some (rowD K r) ∧ gs.lookup ("charts" : Str) = some (chartsD cs) ∧ GRw r ∧ cs.length ≤ 20 ∧ (∀ c ∈ cs, c.length ≤ 401) ∧ P (.tup [.own μ.length, markD (endFrom r ((0, o), 0) cs)]) (μ ++ [.lst ((yearsFrom r ((0, o), 0) cs).map fun m => .lst (m.map markD))])
def taF (K : PySem.W.Frag) (ls : List Int) (r : RwT) (cs : List (List SgT)) : List (Str × D) :=
  let z := endFrom r ((0, 0), 0) cs
  [("wheel", calD K ls), ("line", rowD K r), ("charts", chartsD cs), ("early", marksD (yearsFrom r ((0, 0), 0) cs)), ("later", marksD (yearsFrom r ((0, z.1.2), 0) cs)), ("turn_due", .int (if r.going = true then z.1.1 else 0)), ("turn_drift", .int z.2)]
def c_Table_init (K : PySem.W.Frag) : CT := fun ds μ P PX => ∃ (k : Nat) (ls : List Int) (r : RwT) (cs : List (List SgT)), ds = [.own k, calD K ls, rowD K r, chartsD cs] ∧ μ[k]? = some (.ins (cTa K) []) ∧ GRw r ∧ cs.length ≤ 20 ∧ (∀ c ∈ cs, c.length ≤ 401) ∧ P .non (μ.set k (.ins (cTa K) (taF K ls r cs)))
def t_drift_of (K : PySem.W.Frag) (E : XK) : TS :=
    (tSeq (tIfS (tTest (tOp (rEqD K) (tVar 1) (tC (.str "rest")))) (tRet (tC (.int 0))) tNext)
      (tRet (tIf (tTest (tOp (rEqD K) (tVar 1) (tC (.str "off")))) (tVar 2) (tOp rMulA (tVar 2) (tOp (rI0 fun i j => .int (i - j)) (tC (.int 1)) (tFld K (tVar 0) "most"))))))
def t_Table_init (K : PySem.W.Frag) (E : XK) : TS :=
    (tSeq (sFld K (tVar 0) (tVar 1) "wheel")
      (tSeq (sFld K (tVar 0) (tVar 2) "line")
      (tSeq (sFld K (tVar 0) (tVar 3) "charts")
      (tSeq (tAsg (tMeth (He.ga K "Table") "marks_from" (spD K (c_Table_marks_from K)) [] E (tVar 0) (tCons (tC (.int 0)) tNil)) (gTup K 2 (gCons (gName 4) (gCons (gName 5) gNil))))
      (tSeq (sFld K (tVar 0) (tVar 4) "early")
      (tSeq (sFld K (tVar 0) (tOp (rIx K) (tMeth (He.ga K "Table") "marks_from" (spD K (c_Table_marks_from K)) [] E (tVar 0) (tCons (tOp (rIx K) (tVar 5) (tC (.int 2))) tNil)) (tC (.int 0))) "later")
      (tSeq (sFld K (tVar 0) (tIf (tTruth K (tOrE (tMeth (He.ga K "Going") "begins_anew" (spD K (c_Row_begins_anew K)) [] E (tVar 2) tNil) (tMeth (He.ga K "Yearly") "begins_anew" (spD K (c_Yearly_begins_anew K)) [] E (tVar 2) tNil))) (tC (.int 0)) (tOp (rIx K) (tVar 5) (tC (.int 0)))) "turn_due")
      (sFld K (tVar 0) (tOp (rIx K) (tVar 5) (tC (.int 1))) "turn_drift"))))))))
def t_Table_marks_from (K : PySem.W.Frag) (E : XK) : TS :=
    (tSeq (tAsg (tLst tNil) (gName 2))
      (tSeq (tAsg (tTup (tCons (tC (.int 0)) (tCons (tVar 1) tNil))) (gName 3))
      (tSeq (tAsg (tC (.int 0)) (gName 4))
      (tSeq (tFor (iAny K (tFld K (tVar 0) "charts")) (gName 5) (tSeq (tIfS (tTruth K (tOrE (tMeth (He.ga K "Going") "begins_anew" (spD K (c_Row_begins_anew K)) [] E (tFld K (tVar 0) "line") tNil) (tMeth (He.ga K "Yearly") "begins_anew" (spD K (c_Yearly_begins_anew K)) [] E (tFld K (tVar 0) "line") tNil))) (tAsg (tTup (tCons (tC (.int 0)) (tCons (tC (.int 0)) tNil))) (gName 3)) tNext)
      (tSeq (tAsg (tLst tNil) (gName 6))
      (tSeq (tFor (iAny K (tVar 5)) (gTup K 4 (gCons (gName 7) (gCons (gName 8) (gCons (gName 9) (gCons (gName 10) gNil))))) (tSeq (tDrop (tBM K "list" rAppend (tVar 6) (tCons (tTup (tCons (tOp (rIx K) (tVar 3) (tC (.int 0))) (tCons (tVar 4) (tCons (tOp (rIx K) (tVar 3) (tC (.int 1))) tNil)))) tNil)))
      (tSeq (tAsg (tOrE (tMeth (He.ga K "Going") "over" (spD K (c_Row_over K)) [] E (tFld K (tVar 0) "line") (tCons (tVar 3) (tCons (tVar 9) (tCons (tOp (rI0 fun i j => .int (i - j)) (tVar 8) (tVar 7)) tNil)))) (tMeth (He.ga K "Yearly") "over" (spD K (c_Row_over K)) [] E (tFld K (tVar 0) "line") (tCons (tVar 3) (tCons (tVar 9) (tCons (tOp (rI0 fun i j => .int (i - j)) (tVar 8) (tVar 7)) tNil))))) (gName 3))
      (tAug 4 (tCall (spD K (c_drift_of K)) [] E (tCons (tFld K (tVar 0) "line") (tCons (tVar 9) (tCons (tOp (rI0 fun i j => .int (i - j)) (tVar 8) (tVar 7)) tNil)))) (ipI fun i j => i + j)))))
      (tDrop (tBM K "list" rAppend (tVar 2) (tCons (tVar 6) tNil)))))))
      (tRet (tTup (tCons (tVar 2) (tCons (tTup (tCons (tOp (rIx K) (tVar 3) (tC (.int 0))) (tCons (tVar 4) (tCons (tOp (rIx K) (tVar 3) (tC (.int 1))) tNil)))) tNil))))))))
section
variable {K : PySem.W.Frag}
theorem d_drift_of (kr : KRw K) : ∀ ds μ P PX, c_drift_of K ds μ P PX → MuCl μ μ.length → clL ds μ.length = true → ∀ B E, XAg K B (RetX μ.length PX) E → DS K B (t_drift_of K E) (startD ["line", "sort", "days"] ds) μ (fnE μ.length P) := by
  intro ds μ P PX h hm hc B E hE
  obtain ⟨r, w, n, rfl, hr, h⟩ := h
  have h0 := hr.t0; have h1 := hr.t1
  have hw := w.ok
  show DS K B _ [some (rowD K r), some (.str w.s), some (.int n)] μ _
  unfold t_drift_of
  wtm_at "A"
  refine ro_eqS hw (by decide +kernel) ?_
  wtm_at "E"
  · rename_i hb
    obtain rfl : w = .rest := by cases w <;> first | rfl | exact absurd hb (by decide)
    wtm_at "A"
    wtm_at "r"
    exact h
  · rename_i hb
    wtm_at "A"
    refine ro_eqS hw (by decide +kernel) ?_
    wtm_at "E"
    · rename_i hb2
      obtain rfl : w = .off := by cases w <;> first | rfl | exact absurd hb2 (by decide)
      wtm_at "r"
      exact h
    · rename_i hb2
      obtain rfl : w = .free := by cases w <;> first | rfl | exact absurd rfl hb | exact absurd rfl hb2
      wtm_at "A"
      refine fpr_most kr ?_
      wtm_at "A"
      wtm_at "r"
      exact h
end
section
variable {K : PySem.W.Frag}
theorem charts_get {cs : List (List SgT)} {i : Nat} {d : D} (h : (cs.map fun c => D.lst (c.map segD))[i]? = some d) : ∃ c, cs[i]? = some c ∧ d = .lst (c.map segD) := by
  rw [List.getElem?_map] at h
  cases q : cs[i]? with
  | none => rw [q] at h; cases h
  | some s => rw [q] at h; exact ⟨s, rfl, (Option.some.inj h).symm⟩
theorem marksIn_snoc (r : RwT) : ∀ (t : List SgT) (s : StT) (g : SgT), marksIn r s (t ++ [g]) = marksIn r s t ++ [t.foldl (stepSeg r) s]
  | [], s, g => rfl
  | h :: t, s, g => by simp [marksIn, marksIn_snoc r t]
theorem yearsFrom_snoc (r : RwT) : ∀ (t : List (List SgT)) (s : StT) (g : List SgT), yearsFrom r s (t ++ [g]) = yearsFrom r s t ++ [marksIn r (anew r (endFrom r s t)) g] ∧ endFrom r s (t ++ [g]) = g.foldl (stepSeg r) (anew r (endFrom r s t))
  | [], s, g => ⟨rfl, rfl⟩
  | h :: t, s, g => by
    have := yearsFrom_snoc r t (h.foldl (stepSeg r) (anew r s)) g
    simp [yearsFrom, endFrom, this.1, this.2]
theorem yearsFrom_len (r : RwT) : ∀ (t : List (List SgT)) (s : StT), (yearsFrom r s t).length = t.length
  | [], s => rfl
  | h :: t, s => by simp [yearsFrom, yearsFrom_len r t]
theorem marksIn_len (r : RwT) : ∀ (t : List SgT) (s : StT), (marksIn r s t).length = t.length
  | [], s => rfl
  | h :: t, s => by simp [marksIn, marksIn_len r t]
theorem take_snoc {α : Type} {xs : List α} {i : Nat} {x : α} (h : xs[i]? = some x) : xs.take (i + 1) = xs.take i ++ [x] := by
  rw [List.take_add_one, h]; rfl
theorem d_Table_marks_from (kr : KRw K) (kt : KTa K) : ∀ ds μ P PX, c_Table_marks_from K ds μ P PX → MuCl μ μ.length → clL ds μ.length = true → ∀ B E, XAg K B (RetX μ.length PX) E → DS K B (t_Table_marks_from K E) (startD ["self", "owed", "found", "pair", "drift", "chart", "marks", "start", "end", "sort", "feast"] ds) μ (fnE μ.length P) := by
  intro ds μ P PX h hm hc B E hE
  obtain ⟨k, gs, r, cs, o, rfl, hk, hl, hch, hr, hn, hcs, h⟩ := h
  have k1 := kt.cl; have k2 := kt.line; have k3 := kt.charts
  have hkl : k < μ.length := (List.getElem?_eq_some_iff.mp hk).1
  show DS K B _ [some (.own k), some (.int o), none, none, none, none, none, none, none, none, none] μ _
  unfold t_Table_marks_from
  refine q_set (de_lstOZ ?_)
  wtm_at "A"
  have hs0 : ∀ ext : Mu, (μ ++ ext)[k]? = some (.ins (cTa K) gs) := fun ext => by rw [List.getElem?_append_left hkl]; exact hk
  refine q_for ?_
  refine di_any ?_
  refine de_fldZ ?_
  wtm_at "A"
  refine fp_own (hs0 _) k1 k3 hch ?_
  refine ⟨_, _, .lst _, ?_⟩
  refine ⟨fun i ρ' μ' => ∃ ext : Mu, μ' = μ ++ .lst ((yearsFrom r ((0, o), 0) (cs.take i)).map fun m => .lst (m.map markD)) :: ext ∧ ∃ a b c d e f, ρ' = [some (.own k), some (.int o), some (.own μ.length), some (.tup [.int (endFrom r ((0, o), 0) (cs.take i)).1.1, .int (endFrom r ((0, o), 0) (cs.take i)).1.2]), some (.int (endFrom r ((0, o), 0) (cs.take i)).2), a, b, c, d, e, f], ⟨[], rfl, _, _, _, _, _, _, rfl⟩, fun _ _ _ _ _ => trivial, ?_, ?_⟩
  · intro i d ρ' μ' hd hv
    obtain ⟨ext, rfl, a1, a2, a3, a4, a5, a6, rfl⟩ := hv
    obtain ⟨c, hci, rfl⟩ := charts_get hd
    have hcl := hcs c (List.mem_of_getElem? hci)
    have hil : i < cs.length := (List.getElem?_eq_some_iff.mp hci).1
    obtain ⟨en1, en2⟩ := yearsFrom_snoc r (cs.take i) ((0, o), 0) c
    rw [← take_snoc hci] at en1 en2
    have hyl := yearsFrom_len r (cs.take i) ((0, o), 0)
    generalize yearsFrom r ((0, o), 0) (cs.take i) = Y at en1 hyl ⊢
    generalize endFrom r ((0, o), 0) (cs.take i) = st at en1 en2 ⊢
    have fl : ∀ (ρ : En) (e : Mu) (P' : D → Mu → Prop), ρ[0]? = some (some (.own k)) → P' (rowD K r) (μ ++ e) → DE K B (tFld K (tVar 0) "line") ρ (μ ++ e) P' := fun ρ e P' h1 h2 => by
      refine de_fldZ (de_var h1 ?_)
      exact fp_own (hs0 _) k1 k2 hl h2
    wtm_at "A"
    refine de_is (d0 := .bl (!r.going)) ?_ ?_
    · refine de_rowM (r := r) ⟨fun _ _ _ _ => rfl, fun _ _ _ => rfl⟩ hE (fun P' hP => fl _ _ P' rfl hP) ?_
      wtm_at "E"
      · rename_i hg
        exact ⟨_, rfl, by simp [hg]⟩
      · rename_i hg
        exact ⟨_, rfl, by simp [hg]⟩
    obtain ⟨M, hM⟩ : ∃ M : Mu, M = μ ++ .lst (Y.map fun m => .lst (m.map markD)) :: ext := ⟨_, rfl⟩
    have hMk : ∀ e : Mu, (M ++ e) = μ ++ (.lst (Y.map fun m => .lst (m.map markD)) :: ext ++ e) := fun e => by rw [hM]; simp
    have hMf : M[μ.length]? = some (.lst (Y.map fun m => .lst (m.map markD))) := by rw [hM]; simp
    have hMl : μ.length < M.length := by rw [hM]; simp
    obtain ⟨s1, hs1⟩ : ∃ s1 : StT, s1 = anew r st := ⟨_, rfl⟩
    rw [← hs1] at en1 en2
    cases hg : r.going with
    | true =>
      have ea : s1 = st := by rw [hs1]; simp [anew, hg]
      subst ea
      wtm_at "A"
      rw [← hM]
      refine de_lstOZ ?_
      wtm_at "A"
      refine q_for ?_
      wtm_at "A"
      refine ⟨_, _, .lst _, ?_⟩
      refine ⟨fun n ρ' μ' => μ' = M ++ [.lst ((marksIn r s1 (c.take n)).map markD)] ∧ ∃ a b d e, ρ' = [some (.own k), some (.int o), some (.own μ.length), some (.tup [.int ((c.take n).foldl (stepSeg r) s1).1.1, .int ((c.take n).foldl (stepSeg r) s1).1.2]), some (.int ((c.take n).foldl (stepSeg r) s1).2), some (.lst (c.map segD)), some (.own M.length), a, b, d, e], ⟨rfl, _, _, _, _, rfl⟩, fun _ _ _ _ _ => trivial, ?_, ?_⟩
      · intro n d ρ' μ' hd hv
        obtain ⟨hμ, b1, b2, b3, b4, rfl⟩ := hv
        subst μ'
        obtain ⟨g, hgi, rfl⟩ := segs_get hd
        have et := take_snoc hgi
        have em := marksIn_snoc r (c.take n) s1 g
        have hml := marksIn_len r (c.take n) s1
        have ef : (c.take (n + 1)).foldl (stepSeg r) s1 = stepSeg r ((c.take n).foldl (stepSeg r) s1) g := by rw [et, List.foldl_append]; rfl
        rw [← et] at em
        generalize (c.take n).foldl (stepSeg r) s1 = q at em ef ⊢
        wtm_at "A"
        wtm_at "m"
        wtm_at "A"
        refine rm_app mu_last (by rw [List.length_map, hml]; simp; omega) ?_
        rw [set_last]
        refine q_set (de_is (d0 := pairD (over r q.1 g.w (g.b - g.a))) ?_ ?_)
        · refine de_rowM (r := r) ⟨fun _ _ _ _ => rfl, fun _ _ _ => rfl⟩ hE (fun P' hP => by rw [hMk] at hP ⊢; exact fl _ _ P' rfl hP) ?_
          wtm_at "E"
          all_goals exact ⟨r, q.1, g.w, _, rfl, hr, rfl, rfl⟩
        refine ds_aug (x := .int q.2) rfl ?_
        refine de_call hE ?_
        refine da_cons ?_
        rw [hMk]
        refine fl _ _ _ rfl ?_
        rw [← hMk]
        wtm_at "E"
        refine ⟨r, g.w, _, rfl, hr, ?_⟩
        wtm_at "E"
        refine ⟨by rw [em]; simp [markD], _, _, _, _, by rw [ef]; rfl⟩
      · intro ρ' μ' hv
        obtain ⟨hμ, b1, b2, b3, b4, rfl⟩ := hv
        subst μ'
        rw [List.length_map, List.take_length]
        refine ds_ghostN ?_
        wtm_at "A"
        refine ⟨ty_list (.own (mu_old hMf)), ?_⟩
        wtm_at "A"
        refine rm_app (mu_old hMf) (by rw [List.length_map, hyl, List.length_take]; omega) ?_
        refine ⟨_, gh_app (k := μ.length) (j := M.length) (List.getElem?_set_self (by simp; omega)) (by omega) (by rw [List.getElem?_set_ne (by omega)]; exact mu_last), ?_⟩
        refine ⟨ext ++ [.dead], ?_, _, _, _, _, _, _, by rw [en2]⟩
        rw [en1, hM]
        simp [List.set_append]
    | false =>
      have ea : s1 = ((0, 0), st.2) := by rw [hs1]; simp [anew, hg]
      subst ea
      generalize hs1' : (((0, 0), st.2) : StT) = s1 at hs1 en1 en2
      have z1 : (0 : Int) = s1.1.1 := by rw [← hs1']
      have z2 : (0 : Int) = s1.1.2 := by rw [← hs1']
      have z3 : st.2 = s1.2 := by rw [← hs1']
      wtm_at "A"
      rw [← hM]
      refine de_lstOZ ?_
      wtm_at "A"
      refine q_for ?_
      wtm_at "A"
      refine ⟨_, _, .lst _, ?_⟩
      refine ⟨fun n ρ' μ' => μ' = M ++ [.lst ((marksIn r s1 (c.take n)).map markD)] ∧ ∃ a b d e, ρ' = [some (.own k), some (.int o), some (.own μ.length), some (.tup [.int ((c.take n).foldl (stepSeg r) s1).1.1, .int ((c.take n).foldl (stepSeg r) s1).1.2]), some (.int ((c.take n).foldl (stepSeg r) s1).2), some (.lst (c.map segD)), some (.own M.length), a, b, d, e], ⟨rfl, _, _, _, _, by subst hs1'; rfl⟩, fun _ _ _ _ _ => trivial, ?_, ?_⟩
      · intro n d ρ' μ' hd hv
        obtain ⟨hμ, b1, b2, b3, b4, rfl⟩ := hv
        subst μ'
        obtain ⟨g, hgi, rfl⟩ := segs_get hd
        have et := take_snoc hgi
        have em := marksIn_snoc r (c.take n) s1 g
        have hml := marksIn_len r (c.take n) s1
        have ef : (c.take (n + 1)).foldl (stepSeg r) s1 = stepSeg r ((c.take n).foldl (stepSeg r) s1) g := by rw [et, List.foldl_append]; rfl
        rw [← et] at em
        generalize (c.take n).foldl (stepSeg r) s1 = q at em ef ⊢
        wtm_at "A"
        wtm_at "m"
        wtm_at "A"
        refine rm_app mu_last (by rw [List.length_map, hml]; simp; omega) ?_
        rw [set_last]
        refine q_set (de_is (d0 := pairD (over r q.1 g.w (g.b - g.a))) ?_ ?_)
        · refine de_rowM (r := r) ⟨fun _ _ _ _ => rfl, fun _ _ _ => rfl⟩ hE (fun P' hP => by rw [hMk] at hP ⊢; exact fl _ _ P' rfl hP) ?_
          wtm_at "E"
          all_goals exact ⟨r, q.1, g.w, _, rfl, hr, rfl, rfl⟩
        refine ds_aug (x := .int q.2) rfl ?_
        refine de_call hE ?_
        refine da_cons ?_
        rw [hMk]
        refine fl _ _ _ rfl ?_
        rw [← hMk]
        wtm_at "E"
        refine ⟨r, g.w, _, rfl, hr, ?_⟩
        wtm_at "E"
        refine ⟨by rw [em]; simp [markD], _, _, _, _, by rw [ef]; rfl⟩
      · intro ρ' μ' hv
        obtain ⟨hμ, b1, b2, b3, b4, rfl⟩ := hv
        subst μ'
        rw [List.length_map, List.take_length]
        refine ds_ghostN ?_
        wtm_at "A"
        refine ⟨ty_list (.own (mu_old hMf)), ?_⟩
        wtm_at "A"
        refine rm_app (mu_old hMf) (by rw [List.length_map, hyl, List.length_take]; omega) ?_
        refine ⟨_, gh_app (k := μ.length) (j := M.length) (List.getElem?_set_self (by simp; omega)) (by omega) (by rw [List.getElem?_set_ne (by omega)]; exact mu_last), ?_⟩
        refine ⟨ext ++ [.dead], ?_, _, _, _, _, _, _, by rw [en2]⟩
        rw [en1, hM]
        simp [List.set_append]
  · intro ρ' μ' hv
    obtain ⟨ext, rfl, a1, a2, a3, a4, a5, a6, rfl⟩ := hv
    rw [List.length_map, List.take_length]
    wtm_at "A"
    rw [show μ ++ .lst ((yearsFrom r ((0, o), 0) cs).map fun m => .lst (m.map markD)) :: ext = (μ ++ [.lst ((yearsFrom r ((0, o), 0) cs).map fun m => .lst (m.map markD))]) ++ ext by simp]
    refine ret_same (by simp) ?_ (by simp [D.cl, clL]) h
    refine hm.app ?_
    simp only [MO.cl]
    exact clL_map fun x _ => by rw [D.cl]; exact clL_map fun y _ => by simp [markD, D.cl, clL]
end
section
variable {K : PySem.W.Frag}
theorem d_Table_init (kr : KRw K) (kt : KTa K) : ∀ ds μ P PX, c_Table_init K ds μ P PX → MuCl μ μ.length → clL ds μ.length = true → ∀ B E, XAg K B (RetX μ.length PX) E → DS K B (t_Table_init K E) (startD ["self", "calendar", "line", "charts", "early", "last"] ds) μ (fnE μ.length P) := by
  intro ds μ P PX h hm hc B E hE
  obtain ⟨k, ls, r, cs, rfl, hk, hr, hn, hcs, h⟩ := h
  have k1 := kt.cl; have k2 := kt.wheel; have k3 := kt.line; have k4 := kt.charts; have k5 := kt.early; have k6 := kt.later; have k7 := kt.td; have k8 := kt.tr
  have hkl : k < μ.length := (List.getElem?_eq_some_iff.mp hk).1
  have hset : ∀ z, (μ.set k z)[k]? = some z := fun z => set_get hk
  show DS K B _ [some (.own k), some (calD K ls), some (rowD K r), some (chartsD cs), none, none] μ _
  unfold t_Table_init
  wtm_at "A"
  refine pp_own hk k1 k2 (of_decide_eq_true (by rfl)) ?_
  wtm_at "A"
  refine pp_own (hset _) k1 k3 (of_decide_eq_true (by rfl)) ?_
  rw [set_set']
  wtm_at "A"
  refine pp_own (hset _) k1 k4 (of_decide_eq_true (by rfl)) ?_
  rw [set_set']
  have gE := fun (μ : Mu) (z : MO) (e : Mu) (hkl : k < μ.length) => (by rw [List.getElem?_append_left (by simpa using hkl)]; exact List.getElem?_set_self hkl : ((μ.set k z) ++ e)[k]? = some z)
  refine q_asg ?_
  refine de_methZ hE ?_
  wtm_at "v"
  refine mp_own (hset _) (by rfl) ?_
  wtm_at "E"
  refine ⟨k, _, r, cs, 0, rfl, hset _, rfl, rfl, hr, hn, hcs, ?_⟩
  rw [List.length_set]
  refine dg_tup rfl ?_
  refine dgs_cons (dg_name (dgs_cons (dg_name (dgs_nil ?_))))
  wtm_at "A"
  refine pp_own (gE _ _ _ hkl) k1 k5 (of_decide_eq_true (by rfl)) ?_
  have nf : ∀ (z z' : MO) (e : Mu), (μ.set k z ++ e).set k z' = μ.set k z' ++ e := fun z z' e => by
    rw [List.set_append_left _ _ (by simpa using hkl), set_set']
  have nd : ∀ (z z' : MO) (e : Mu) (x : MO), (((μ.set k z ++ e) ++ [x]).set (μ.length + e.length) .dead).set k z' = (μ.set k z' ++ e) ++ [.dead] := fun z z' e x => by
    rw [List.append_assoc, List.set_append_right _ _ (by simp), nf, List.set_append_right _ _ (by simp)]
    simp
  rw [nf]
  refine ds_ghost (gh_fld (f := "early") (j := μ.length) (ds := (yearsFrom r ((0, 0), 0) cs).map fun m => .lst (m.map markD)) (gE _ _ _ hkl) (by rfl) (by rw [List.getElem?_append_right (by simp)]; simp)) ?_
  have nd0 : ∀ z z' x : MO, ((μ.set k z ++ [x]).set μ.length MO.dead).set k z' = μ.set k z' ++ [MO.dead] := fun z z' x => by simpa using nd z z' [] x
  rw [nd0]
  refine q_fldZ ?_
  refine de_op ?_
  refine de_methZ hE ?_
  wtm_at "v"
  refine mp_own (gE _ _ _ hkl) (by rfl) ?_
  unfold markD
  wtm_at "E"
  refine ⟨k, _, r, cs, _, rfl, gE _ _ _ hkl, rfl, rfl, hr, hn, hcs, ?_⟩
  wtm_at "E"
  refine pp_own (by rw [List.append_assoc]; exact gE _ _ _ hkl) k1 k6 (of_decide_eq_true (by rfl)) ?_
  rw [List.append_assoc, nf]
  simp only [List.length_append, List.length_set, List.length_singleton]
  refine ds_ghost (gh_fld (f := "later") (j := μ.length + 1) (ds := (yearsFrom r ((0, (endFrom r ((0, 0), 0) cs).1.2), 0) cs).map fun m => .lst (m.map markD)) (gE _ _ _ hkl) (by rfl) (by rw [List.getElem?_append_right (by simp)]; simp [markD])) ?_
  have nd1 : ∀ z z' x : MO, ((μ.set k z ++ ([MO.dead] ++ [x])).set (μ.length + 1) MO.dead).set k z' = μ.set k z' ++ ([MO.dead] ++ [MO.dead]) := fun z z' x => by simpa using nd z z' [.dead] x
  rw [nd1]
  refine q_fldZ (de_is (d0 := .int (if r.going = true then (endFrom r ((0, 0), 0) cs).1.1 else 0)) ?_ ?_)
  · refine de_if (dt_truth (de_is (d0 := .bl (!r.going)) ?_ ?_))
    · refine de_rowM (r := r) ⟨fun _ _ _ _ => rfl, fun _ _ _ => rfl⟩ hE (fun P' hP => by wtm_at "v"; exact hP) ?_
      wtm_at "E"
      · rename_i hg
        exact ⟨_, rfl, by simp [hg]⟩
      · rename_i hg
        exact ⟨_, rfl, by simp [hg]⟩
    cases hg : r.going with
    | true =>
      wtm_at "E"
      exact ⟨rfl, rfl⟩
    | false =>
      wtm_at "E"
      exact ⟨rfl, rfl⟩
  wtm_at "E"
  refine pp_own (gE _ _ _ hkl) k1 k7 (of_decide_eq_true (by rfl)) ?_
  rw [nf]
  refine ds_fldZ ?_
  wtm_at "E"
  refine pp_own (gE _ _ _ hkl) k1 k8 (of_decide_eq_true (by rfl)) ?_
  rw [nf]
  refine ret_same (by simp) ?_ rfl h
  show MuCl (μ.set k (.ins (cTa K) (taF K ls r cs))) (μ.set k (.ins (cTa K) (taF K ls r cs))).length
  rw [List.length_set]
  refine hm.set ?_
  simp only [clL, Bool.and_eq_true, Bool.and_true] at hc
  have hmk : ∀ ms : List (List StT), (marksD ms).cl μ.length = true := fun ms => by
    unfold marksD
    rw [D.cl]
    exact clL_map fun x _ => by rw [D.cl]; exact clL_map fun y _ => by simp [markD, D.cl, clL]
  simp only [MO.cl, taF, clF, hmk, hc.2.1, hc.2.2.1, hc.2.2.2, D.cl, Bool.and_self]
end
section
variable {K : PySem.W.Frag} {B : Bs} {E : XK} {PX : PXT} {ts : TA} {ρ : En} {μ : Mu} {P : D → Mu → Prop}
theorem marksD_cl (ms : List (List StT)) (n : Nat) : (marksD ms).cl n = true := by
  unfold marksD
  rw [D.cl]
  exact clL_map fun x _ => by rw [D.cl]; exact clL_map fun y _ => by simp [markD, D.cl, clL]
theorem chartsD_cl (cs : List (List SgT)) (n : Nat) : (chartsD cs).cl n = true := by
  unfold chartsD
  rw [D.cl]
  exact clL_map fun x _ => by rw [D.cl]; exact clL_map fun y _ => by simp [segD, D.cl, clL]
def taD (K : PySem.W.Frag) (ls : List Int) (r : RwT) (cs : List (List SgT)) : D := .obj (cTa K) (taF K ls r cs)
theorem de_table (hE : XAg K B PX E) (h : DA K B ts ρ μ fun ds μ1 => ∃ (ls : List Int) (r : RwT) (cs : List (List SgT)), ds = [calD K ls, rowD K r, chartsD cs] ∧ GRw r ∧ cs.length ≤ 20 ∧ (∀ c ∈ cs, c.length ≤ 401) ∧ (∀ n, (calD K ls).cl n = true) ∧ P (taD K ls r cs) μ1) : DE K B (tMake (He.ga K "Table") (spD K (c_Table_init K)) [] E ts) ρ μ P := by
  refine de_make hE da_nd ?_
  refine da_imp h fun ds μ1 p1 => ?_
  obtain ⟨ls, r, cs, rfl, hr, hn, hcs, hcl, p⟩ := p1
  refine ⟨_, ls, r, cs, rfl, mu_last, hr, hn, hcs, rfl, taF K ls r cs, set_last, by simp [taF, clF, D.cl, hcl, rowD_cl, marksD_cl, chartsD_cl], p⟩
end
/-! ### walking day by day, in plain numbers -/
theorem holdsR_iff {r : RwT} {p : Int × Int} : holdsR r p = true ↔ 0 ≤ p.2 ∧ p.2 ≤ p.1 ∧ (r.going = false → p.1 ≤ r.many) := by
  unfold holdsR
  cases r.going <;> simp [and_assoc]
/-- what may stand as a state: as much as is needed to go on from it -/
def Hol (r : RwT) (p : Int × Int) : Prop := 0 ≤ p.2 ∧ (r.going = false → p.1 ≤ r.many)
theorem Hol.of {r : RwT} {p : Int × Int} (h : holdsR r p = true) : Hol r p := by
  obtain ⟨h0, h1, h2⟩ := holdsR_iff.mp h
  exact ⟨h0, h2⟩
/-- the state behind n days from day d on, no year begun anew between -/
def wk (S : Int → Srt) (r : RwT) (p : Int × Int) (d : Int) : Nat → Int × Int
  | 0 => p
  | n + 1 => over r (wk S r p d n) (S (d + n)) 1
/-! ### a year's stretches, a turn's marks -/
/-! ### a turn -/
def chartsFor (ls : List Int) (fs : List FeT) (name : Str) : List (List SgT) := (List.range ls.length).map fun (y : Nat) => chartOf ls fs name (y : Int)
theorem chartsFor_len (ls : List Int) (fs : List FeT) (name : Str) : (chartsFor ls fs name).length = ls.length := by simp [chartsFor]
theorem chartsFor_get {ls : List Int} {fs : List FeT} {name : Str} {j : Nat} (h : j < ls.length) : (chartsFor ls fs name)[j]? = some (chartOf ls fs name (j : Int)) := by simp [chartsFor, h]
def dueIn (gs : List SgT) : Int := ((gs.filter fun g => !decide (g.w = .rest)).map fun g => g.b - g.a).sum
def freeIn (gs : List SgT) : Int := ((gs.filter fun g => decide (g.w = .free)).map fun g => g.b - g.a).sum
def dueT (ls : List Int) (fs : List FeT) (name : Str) : Int := ((chartsFor ls fs name).map dueIn).sum
def freeT (ls : List Int) (fs : List FeT) (name : Str) : Int := ((chartsFor ls fs name).map freeIn).sum
theorem endsOf_len {ls : List Int} {fs : List FeT} {name : Str} {y : Int} (h : fs.length ≤ 8) : (endsOf ls fs name y).length ≤ 18 := by
  have : (spansOf ls fs name y).length ≤ fs.length := List.length_filterMap_le _ _
  simp [endsOf]
  omega
theorem insI_len (x : Int) : ∀ l : List Int, (insI x l).length ≤ l.length + 1
  | [] => by simp [insI]
  | y :: r => by
    have := insI_len x r
    unfold insI
    split
    · simp
    · split <;> simp <;> omega
theorem srtI_len : ∀ ns : List Int, (srtI ns).length ≤ ns.length
  | [] => by simp [srtI]
  | n :: r => by
    have := srtI_len r
    have := insI_len n (srtI r)
    show (insI n (srtI r)).length ≤ _
    simp
    omega
theorem chartOf_len {ls : List Int} {fs : List FeT} {name : Str} {y : Int} (h : fs.length ≤ 8) : (chartOf ls fs name y).length ≤ 18 := by
  have h1 := endsOf_len (ls := ls) (name := name) (y := y) h
  have h2 := srtI_len (endsOf ls fs name y)
  have h3 := mkSegs_len (sortAt (spansOf ls fs name y)) (srtI (endsOf ls fs name y))
  unfold chartOf
  omega
/-! ### houses -/
def chK (ls : List Int) (fs : List FeT) (rs : List RwT) : List (Key × D) := rs.map fun r => (.inr r.name, chartsD (chartsFor ls fs r.name))
def taK (K : PySem.W.Frag) (ls : List Int) (fs : List FeT) (rs : List RwT) : List (Key × D) := rs.map fun r => (.inr r.name, taD K ls r (chartsFor ls fs r.name))
abbrev cHo (K : PySem.W.Frag) : Addr := He.ga K "House"
def hoF (K : PySem.W.Frag) (ls : List Int) (fs : List FeT) (rs : List RwT) : List (Str × D) :=
  [("wheel", calD K ls), ("kept", .lst (fs.map (feD K))), ("lines", .lst (rs.map (rowD K))), ("charts", .dct (chK ls fs rs)), ("tables", .dct (taK K ls fs rs))]
def hoD (K : PySem.W.Frag) (ls : List Int) (fs : List FeT) (rs : List RwT) : D := .obj (cHo K) (hoF K ls fs rs)
structure KHo (K : PySem.W.Frag) : Prop where
  cl : Cls K (cHo K)
  wheel : NoAttr K (cHo K) "wheel"
  kept : NoAttr K (cHo K) "kept"
  lines : NoAttr K (cHo K) "lines"
  charts : NoAttr K (cHo K) "charts"
  tables : NoAttr K (cHo K) "tables"
/-- a house that is made, or that is being made and has all its fields -/
def HoV (K : PySem.W.Frag) (μ : Mu) (x : D) (ls : List Int) (fs : List FeT) (rs : List RwT) : Prop := x = hoD K ls fs rs ∨ ∃ k, x = .own k ∧ μ[k]? = some (.ins (cHo K) (hoF K ls fs rs))
/-- a house whose going rows keep up -/
structure GHs (ls : List Int) (fs : List FeT) (rs : List RwT) : Prop extends GHo ls fs rs where
  up : ∀ r ∈ rs, r.going = true → dueT ls fs r.name ≤ freeT ls fs r.name * r.most
def rowOf (rs : List RwT) (n : Str) : Option RwT := rs.find? fun r => decide (r.name = n)
def lateR (ls : List Int) (fs : List FeT) (r : RwT) : Bool := r.going && decide (freeT ls fs r.name * r.most < dueT ls fs r.name)
def neverOf (ls : List Int) (fs : List FeT) (rs : List RwT) : Option RwT := rs.find? (lateR ls fs)
theorem find_nd {rs : List RwT} (nd : (rs.map (·.name)).Nodup) {r : RwT} (h : r ∈ rs) : rowOf rs r.name = some r := by
  induction rs with
  | nil => cases h
  | cons q t ih =>
    have hn := List.nodup_cons.mp nd
    unfold rowOf
    rw [List.find?_cons]
    by_cases e : q.name = r.name
    · rcases List.mem_cons.mp h with rfl | h'
      · simp
      · exact absurd (List.mem_map.mpr ⟨r, h', e.symm⟩) hn.1
    · rcases List.mem_cons.mp h with rfl | h'
      · exact absurd rfl e
      · rw [decide_eq_false e]
        exact ih hn.2 h'
def c_House_row (K : PySem.W.Frag) : CT := fun ds μ P PX => ∃ (x : D) (ls : List Int) (fs : List FeT) (rs : List RwT) (n : Str), ds = [x, .str n] ∧ HoV K μ x ls fs rs ∧ (∀ r ∈ rs, GRw r) ∧ PyData.strOk n = true ∧ (∀ r, rowOf rs n = some r → P (rowD K r) μ) ∧ (rowOf rs n = none → PX (He.ga K "NoRow") [] μ)
def c_House_sums (K : PySem.W.Frag) : CT := fun ds μ P PX => ∃ (x : D) (ls : List Int) (fs : List FeT) (rs : List RwT) (r : RwT), ds = [x, .str r.name] ∧ HoV K μ x ls fs rs ∧ GHo ls fs rs ∧ r ∈ rs ∧ P (.tup [.int (dueT ls fs r.name), .int (freeT ls fs r.name * r.most)]) μ
def c_House_init (K : PySem.W.Frag) : CT := fun ds μ P PX => ∃ (k : Nat) (ls : List Int) (fs : List FeT) (rs : List RwT) (x y : D), ds = [.own k, calD K ls, x, y] ∧ μ[k]? = some (.ins (cHo K) []) ∧ GHo ls fs rs ∧ Ls μ x (fs.map (feD K)) ∧ Ls μ y (rs.map (rowD K)) ∧ tyD μ x = some "list" ∧ tyD μ y = some "list" ∧ (GHs ls fs rs → P .non (μ.set k (.ins (cHo K) (hoF K ls fs rs)))) ∧
  (∀ r, neverOf ls fs rs = some r → PX (He.ga K "NeverDone") (fsOf ["name", "due", "room"] [.str r.name, .int (dueT ls fs r.name), .int (freeT ls fs r.name * r.most)]) (μ.set k (.ins (cHo K) (hoF K ls fs rs))))
def c_House_calendar (K : PySem.W.Frag) : CT := fun ds μ P PX => ∃ (ls : List Int) (fs : List FeT) (rs : List RwT), ds = [hoD K ls fs rs] ∧ P (calD K ls) μ
def c_House_feasts (K : PySem.W.Frag) : CT := fun ds μ P PX => ∃ (ls : List Int) (fs : List FeT) (rs : List RwT), ds = [hoD K ls fs rs] ∧ Fresh (fs.map (feD K)) μ P
def c_House_rows (K : PySem.W.Frag) : CT := fun ds μ P PX => ∃ (ls : List Int) (fs : List FeT) (rs : List RwT), ds = [hoD K ls fs rs] ∧ Fresh (rs.map (rowD K)) μ P
def t_House_init (K : PySem.W.Frag) (E : XK) : TS :=
    (tSeq (tIfS (tNot (tTruth K (tCall (spD K (c_is_house K)) [] E (tCons (tVar 1) (tCons (tVar 2) (tCons (tVar 3) tNil)))))) (tRaise0 (He.ga K "BadHouse") E) tNext)
      (tSeq (sFld K (tVar 0) (tVar 1) "wheel")
      (tSeq (sFld K (tVar 0) (tCB (rListOf K) (tCons (tVar 2) tNil)) "kept")
      (tSeq (sFld K (tVar 0) (tCB (rListOf K) (tCons (tVar 3) tNil)) "lines")
      (tSeq (sFld K (tVar 0) tDNewK "charts")
      (tSeq (sFld K (tVar 0) tDNewK "tables")
      (tSeq (tAsg (tCB (rLen K) (tCons (tMeth (He.ga K "Calendar") "years" (spD K (c_Calendar_years K)) [] E (tVar 1) tNil) tNil)) (gName 4))
      (tSeq (tFor (iAny K (tFld K (tVar 0) "lines")) (gName 5) (tSeq (tAsg (tFld K (tVar 5) "name") (gName 6))
      (tSeq (sDPut (tFld K (tVar 0) "charts") (tVar 6) (tLc (iRng1 (tCons (tVar 4) tNil)) (gName 7) tYes (tCall (spD K (c_year_chart K)) [] E0 (tCons (tVar 1) (tCons (tFld K (tVar 0) "kept") (tCons (tVar 6) (tCons (tVar 7) tNil))))) [7]))
      (sDPut (tFld K (tVar 0) "tables") (tVar 6) (tMake (He.ga K "Table") (spD K (c_Table_init K)) [] E (tCons (tVar 1) (tCons (tVar 5) (tCons (tDGet (tFld K (tVar 0) "charts") (tVar 6)) tNil))))))))
      (tFor (iAny K (tFld K (tVar 0) "lines")) (gName 5) (tSeq (tAsg (tMeth (He.ga K "House") "sums" (spD K (c_House_sums K)) [] E (tVar 0) (tCons (tFld K (tVar 5) "name") tNil)) (gTup K 2 (gCons (gName 8) (gCons (gName 9) gNil))))
      (tIfS (tAnd (tNot (tTruth K (tOrE (tMeth (He.ga K "Going") "begins_anew" (spD K (c_Row_begins_anew K)) [] E (tVar 5) tNil) (tMeth (He.ga K "Yearly") "begins_anew" (spD K (c_Yearly_begins_anew K)) [] E (tVar 5) tNil)))) (tTest (tOp (rI0 fun i j => .bl (decide (j < i))) (tVar 8) (tVar 9)))) (tRaiseO (He.ga K "NeverDone") (spX (He.ga K "NeverDone") ["name", "due", "room"]) (tCons (tFld K (tVar 5) "name") (tCons (tVar 8) (tCons (tVar 9) tNil))) E) tNext)))))))))))
def t_House_row (K : PySem.W.Frag) (E : XK) : TS :=
    (tSeq (tFor (iAny K (tFld K (tVar 0) "lines")) (gName 2) (tIfS (tTest (tOp (rEqD K) (tFld K (tVar 2) "name") (tVar 1))) (tRet (tVar 2)) tNext))
      (tRaise0 (He.ga K "NoRow") E))
def t_House_sums (K : PySem.W.Frag) (E : XK) : TS :=
    (tSeq (tAsg (tC (.int 0)) (gName 2))
      (tSeq (tAsg (tC (.int 0)) (gName 3))
      (tSeq (tFor (iAny K (tDGet (tFld K (tVar 0) "charts") (tVar 1))) (gName 4) (tSeq (tAsg (tOp (rAddA K) (tVar 2) (tCB (rSum K) (tCons (tLc (iAny K (tVar 4)) (gTup K 4 (gCons (gName 5) (gCons (gName 6) (gCons (gName 7) (gCons (gName 8) gNil))))) (tTest (tOp (rNeD K) (tVar 7) (tC (.str "rest")))) (tOp (rI0 fun i j => .int (i - j)) (tVar 6) (tVar 5)) [5, 6, 7, 8]) tNil))) (gName 2))
      (tAsg (tOp (rAddA K) (tVar 3) (tCB (rSum K) (tCons (tLc (iAny K (tVar 4)) (gTup K 4 (gCons (gName 5) (gCons (gName 6) (gCons (gName 7) (gCons (gName 8) gNil))))) (tTest (tOp (rEqD K) (tVar 7) (tC (.str "free")))) (tOp (rI0 fun i j => .int (i - j)) (tVar 6) (tVar 5)) [5, 6, 7, 8]) tNil))) (gName 3))))
      (tRet (tTup (tCons (tVar 2) (tCons (tOp rMulA (tVar 3) (tFld K (tMeth (He.ga K "House") "row" (spD K (c_House_row K)) [] E (tVar 0) (tCons (tVar 1) tNil)) "most")) tNil)))))))
def t_House_calendar (K : PySem.W.Frag) (E : XK) : TS :=
    (tRet (tFld K (tVar 0) "wheel"))
def t_House_feasts (K : PySem.W.Frag) (E : XK) : TS :=
    (tRet (tCB (rListOf K) (tCons (tFld K (tVar 0) "kept") tNil)))
def t_House_rows (K : PySem.W.Frag) (E : XK) : TS :=
    (tRet (tCB (rListOf K) (tCons (tFld K (tVar 0) "lines") tNil)))
local macro_rules | `(tactic| wtm_at "d7") => `(tactic| with_reducible (first | refine de_xfZ ?_ | refine np_exc ?_))
local macro_rules | `(tactic| wtm_at "g7") => `(tactic| first | refine xf_i (by assumption) (by simp) (by rfl) ?_ | refine ro_eqSS (by decide +kernel) ?_ | refine ro_neSS (by decide +kernel) ?_ | refine ro_eqSd (by decide +kernel) (by decide +kernel) (by decide +kernel) ?_ | refine ro_neSd (by decide +kernel) (by decide +kernel) (by decide +kernel) ?_)
local macro_rules | `(tactic| wtm_at "Q7") => `(tactic| wtm_at "g7")
local macro_rules | `(tactic| wtm_at "Q7") => `(tactic| wtm_at "d7")
local macro_rules | `(tactic| wtm_at "Q7") => `(tactic| wtm_at "Q")
local macro_rules | `(tactic| wtm_at "E") => `(tactic| repeat' first | wtm_at "Q7" | fail)
local macro_rules | `(tactic| wtm_at "QA7") => `(tactic| wtm_at "Q7")
local macro_rules | `(tactic| wtm_at "QA7") => `(tactic| wtm_at "Qs")
local macro_rules | `(tactic| wtm_at "A") => `(tactic| repeat' first | wtm_at "QA7" | fail)
section
variable {K : PySem.W.Frag}
theorem fph {μ : Mu} {x d : D} {ls : List Int} {fs : List FeT} {rs : List RwT} {f : Str} {F : D → Prop} (kh : KHo K) (hx : HoV K μ x ls fs rs) (n : NoAttr K (cHo K) f) (l : (hoF K ls fs rs).lookup f = some d) (h : F d) : FldP K μ x f F := by
  rcases hx with rfl | ⟨k, rfl, hk⟩
  · exact fp_obj kh.cl n l h
  · exact fp_own hk kh.cl n l h
theorem mph {μ : Mu} {x : D} {ls : List Int} {fs : List FeT} {rs : List RwT} {m : Str} {Q : Prop} (hx : HoV K μ x ls fs rs) (l : (hoF K ls fs rs).lookup m = none) (h : Q) : MethP μ (cHo K) m x Q := by
  rcases hx with rfl | ⟨k, rfl, hk⟩
  · exact mp_obj l h
  · exact mp_own hk l h
theorem d_House_row (kr : KRw K) (kh : KHo K) : ∀ ds μ P PX, c_House_row K ds μ P PX → MuCl μ μ.length → clL ds μ.length = true → ∀ B E, XAg K B (RetX μ.length PX) E → DS K B (t_House_row K E) (startD ["self", "name", "line"] ds) μ (fnE μ.length P) := by
  intro ds μ P PX h hm hc B E hE
  obtain ⟨x, ls, fs, rs, n, rfl, hx, g, hn, h1, h2⟩ := h
  show DS K B _ [some x, some (.str n), none] μ _
  unfold t_House_row
  refine q_for ?_
  refine di_any (de_fldZ ?_)
  wtm_at "v"
  refine fph kh hx kh.lines (by rfl) ?_
  refine ⟨_, _, .lst _, ?_⟩
  refine ⟨fun i ρ' μ' => μ' = μ ∧ (∃ a, ρ' = [some x, some (.str n), a]) ∧ ∀ j q, j < i → rs[j]? = some q → q.name ≠ n, ⟨rfl, ⟨_, rfl⟩, by omega⟩, fun _ _ _ _ _ => trivial, ?_, ?_⟩
  · intro i d ρ' μ' hd hv
    obtain ⟨hμ, ⟨a, rfl⟩, hv⟩ := hv
    subst μ'
    obtain ⟨q, hq, rfl⟩ := rws_get hd
    have hqm := List.mem_of_getElem? hq
    wtm_at "A"
    refine fpr_name kr ?_
    wtm_at "A"
    refine ro_eqS (g q hqm).name.strOk hn ?_
    wtm_at "A"
    · rename_i e
      refine ret_same0 (Nat.le_refl _) hm (rowD_cl K q _) (h1 q ?_)
      unfold rowOf
      rw [List.find?_eq_some_iff_getElem]
      have hi : i < rs.length := (List.getElem?_eq_some_iff.mp hq).1
      refine ⟨by simpa using e, i, hi, (List.getElem?_eq_some_iff.mp hq).2, fun j hj => ?_⟩
      simpa using hv j rs[j] hj (List.getElem?_eq_getElem _)
    · rename_i e
      refine ⟨rfl, ⟨_, rfl⟩, fun j u hj hu => ?_⟩
      rcases Nat.lt_or_ge j i with z | z
      · exact hv j u z hu
      · obtain rfl : j = i := by omega
        rw [hq] at hu
        cases hu
        exact e
  · intro ρ' μ' hv
    obtain ⟨hμ, ⟨a, rfl⟩, hv⟩ := hv
    subst μ'
    refine ds_raise0 hE (retx_same0 hm rfl (h2 ?_))
    unfold rowOf
    rw [List.find?_eq_none]
    intro u hu
    obtain ⟨j, hj, rfl⟩ := List.getElem_of_mem hu
    simpa using hv j _ (by simpa using hj) (List.getElem?_eq_getElem _)
theorem chK_val {ls : List Int} {fs : List FeT} : ∀ {rs : List RwT} {n : Str}, (rowOf rs n).isSome = true → valD (chK ls fs rs) (.inr n) = some (chartsD (chartsFor ls fs n))
  | [], n, h => by simp [rowOf] at h
  | r :: t, n, h => by
    unfold rowOf at h
    rw [List.find?_cons] at h
    unfold valD chK
    rw [List.map_cons, List.find?_cons]
    by_cases e : r.name = n
    · subst e
      simp
    · rw [decide_eq_false e] at h
      have e2 : ¬ ((Sum.inr r.name : Key) = Sum.inr n) := fun z => e (by injection z)
      rw [decide_eq_false e2]
      exact chK_val (rs := t) h
end
theorem Ls.set' {μ : Mu} {x : D} {ds : List D} {k : Nat} {o : MO} {C : Addr} {gs : List (Str × D)} (h : Ls μ x ds) (hk : μ[k]? = some (.ins C gs)) : Ls (μ.set k o) x ds := by
  cases h with
  | lst => exact .lst _
  | rdl => exact .rdl _
  | own h =>
    refine .own ?_
    rw [List.getElem?_set_ne]
    · exact h
    · rintro rfl
      rw [hk] at h
      cases h
theorem putKD_new {kvs : List (Key × D)} {k : Key} {v : D} (h : ∀ kv ∈ kvs, kv.1 ≠ k) : putKD kvs k v = kvs ++ [(k, v)] := by
  unfold putKD
  rw [if_neg]
  intro hz
  obtain ⟨kv, hm, e⟩ := List.any_eq_true.mp hz
  exact h kv hm (by simpa using e)
theorem nd_take {rs : List RwT} (nd : (rs.map (·.name)).Nodup) {i : Nat} {r : RwT} (h : rs[i]? = some r) : ∀ q ∈ rs.take i, q.name ≠ r.name := by
  intro q hq e
  obtain ⟨j, hj, rfl⟩ := List.getElem_of_mem hq
  rw [List.length_take] at hj
  rw [List.getElem_take] at e
  have hi := (List.getElem?_eq_some_iff.mp h).1
  have := (List.getElem?_eq_some_iff.mp h).2
  have nd' := List.pairwise_iff_getElem.mp nd j i (by simp; omega) (by simpa using hi) (by omega)
  simp only [List.getElem_map] at nd'
  exact nd' (by rw [this]; exact e)
theorem chK_put {ls : List Int} {fs : List FeT} {rs : List RwT} (nd : (rs.map (·.name)).Nodup) {i : Nat} {r : RwT} (h : rs[i]? = some r) : putKD (chK ls fs (rs.take i)) (.inr r.name) (chartsD (chartsFor ls fs r.name)) = chK ls fs (rs.take (i + 1)) := by
  rw [putKD_new]
  · rw [take_snoc h]
    simp [chK]
  · intro kv hkv
    obtain ⟨q, hq, rfl⟩ := List.mem_map.mp hkv
    intro e
    exact nd_take nd h q hq (by injection e)
theorem taK_put {K : PySem.W.Frag} {ls : List Int} {fs : List FeT} {rs : List RwT} (nd : (rs.map (·.name)).Nodup) {i : Nat} {r : RwT} (h : rs[i]? = some r) : putKD (taK K ls fs (rs.take i)) (.inr r.name) (taD K ls r (chartsFor ls fs r.name)) = taK K ls fs (rs.take (i + 1)) := by
  rw [putKD_new]
  · rw [take_snoc h]
    simp [taK]
  · intro kv hkv
    obtain ⟨q, hq, rfl⟩ := List.mem_map.mp hkv
    intro e
    exact nd_take nd h q hq (by injection e)
theorem calD_cl (K : PySem.W.Frag) (ls : List Int) (n : Nat) : (calD K ls).cl n = true := by simp [calD, calF, intsD, D.cl, clF, cl_ints]
theorem feD_cl (K : PySem.W.Frag) (f : FeT) (n : Nat) : (feD K f).cl n = true := by simp [feD, feF, D.cl, clF, cl_kept, cl_acts]
theorem taD_cl (K : PySem.W.Frag) (ls : List Int) (r : RwT) (cs : List (List SgT)) (n : Nat) : (taD K ls r cs).cl n = true := by simp [taD, taF, D.cl, clF, calD_cl, rowD_cl, marksD_cl, chartsD_cl]
theorem clK_map {α : Type} {f : α → Key × D} {n : Nat} : ∀ {xs : List α}, (∀ x ∈ xs, (f x).2.cl n = true) → clK (xs.map f) n = true
  | [], _ => rfl
  | x :: r, h => by
    have h1 := h x (by simp)
    have h2 := clK_map (xs := r) fun y hy => h y (by simp [hy])
    rw [List.map_cons]
    revert h1
    generalize f x = kv
    obtain ⟨a, b⟩ := kv
    intro h1
    simp only at h1
    simp [clK, h1, h2]
theorem hoF_cl (K : PySem.W.Frag) (ls : List Int) (fs : List FeT) (rs : List RwT) (n : Nat) : clF (hoF K ls fs rs) n = true := by
  have h1 : clL (fs.map (feD K)) n = true := clL_map fun f _ => feD_cl K f n
  have h2 : clL (rs.map (rowD K)) n = true := clL_map fun f _ => rowD_cl K f n
  have h3 : clK (chK ls fs rs) n = true := clK_map fun f _ => chartsD_cl _ n
  have h4 : clK (taK K ls fs rs) n = true := clK_map fun f _ => taD_cl _ _ _ _ n
  simp only [hoF, clF, D.cl, calD_cl, h1, h2, h3, h4, Bool.and_self]
def yearC (ls : List Int) (fs : List FeT) (name : Str) : D → D
  | .int y => .lst ((chartOf ls fs name y).map segD)
  | _ => .non
theorem range_charts (ls : List Int) (fs : List FeT) (name : Str) : (rangeD 0 ((ls.length : Nat) : Int).toNat).map (yearC ls fs name) = (chartsFor ls fs name).map fun c => D.lst (c.map segD) := by
  unfold rangeD chartsFor
  rw [List.map_map, List.map_map, Int.toNat_natCast]
  refine List.map_congr_left fun y _ => ?_
  simp [yearC]
section
variable {K : PySem.W.Frag}
theorem d_House_feasts (kh : KHo K) : ∀ ds μ P PX, c_House_feasts K ds μ P PX → MuCl μ μ.length → clL ds μ.length = true → ∀ B E, XAg K B (RetX μ.length PX) E → DS K B (t_House_feasts K E) (startD ["self"] ds) μ (fnE μ.length P) := by
  intro ds μ P PX h hm hc B E hE
  obtain ⟨ls, fs, rs, rfl, h⟩ := h
  have k1 := kh.cl; have k2 := kh.kept
  have hcl : ∀ n, clL (fs.map (feD K)) n = true := fun n => clL_map fun f _ => feD_cl K f n
  show DS K B _ [some (hoD K ls fs rs)] μ _
  unfold t_House_feasts hoD
  refine ds_ret (de_cb ?_)
  refine da_cons (de_fldZ ?_)
  wtm_at "v"
  refine fp_obj k1 k2 (by rfl) ?_
  refine da_nil ?_
  rcases h with h | h
  · refine rc_list (.lst _) ?_
    exact ret_same0 (Nat.le_refl _) hm (hcl _) h
  · refine rc_listO (.lst _) ?_
    refine ret_same0 (by simp) (hm.app (by simpa [MO.cl] using hcl _)) (by simp [D.cl]) h
theorem d_House_rows (kh : KHo K) : ∀ ds μ P PX, c_House_rows K ds μ P PX → MuCl μ μ.length → clL ds μ.length = true → ∀ B E, XAg K B (RetX μ.length PX) E → DS K B (t_House_rows K E) (startD ["self"] ds) μ (fnE μ.length P) := by
  intro ds μ P PX h hm hc B E hE
  obtain ⟨ls, fs, rs, rfl, h⟩ := h
  have k1 := kh.cl; have k2 := kh.lines
  have hcl : ∀ n, clL (rs.map (rowD K)) n = true := fun n => clL_map fun f _ => rowD_cl K f n
  show DS K B _ [some (hoD K ls fs rs)] μ _
  unfold t_House_rows hoD
  refine ds_ret (de_cb ?_)
  refine da_cons (de_fldZ ?_)
  wtm_at "v"
  refine fp_obj k1 k2 (by rfl) ?_
  refine da_nil ?_
  rcases h with h | h
  · refine rc_list (.lst _) ?_
    exact ret_same0 (Nat.le_refl _) hm (hcl _) h
  · refine rc_listO (.lst _) ?_
    refine ret_same0 (by simp) (hm.app (by simpa [MO.cl] using hcl _)) (by simp [D.cl]) h
/-- a house in the making -/
abbrev hoM (K : PySem.W.Frag) (μ : Mu) (k : Nat) (ls : List Int) (fs : List FeT) (rs : List RwT) (i : Nat) : Mu :=
  μ.set k (.ins (cHo K) [("wheel", calD K ls), ("kept", .lst (fs.map (feD K))), ("lines", .lst (rs.map (rowD K))), ("charts", .own μ.length), ("tables", .own (μ.length + 1))]) ++ [.dK (chK ls fs (rs.take i)), .dK (taK K ls fs (rs.take i))]
theorem d_House_init (kr : KRw K) (kh : KHo K) : ∀ ds μ P PX, c_House_init K ds μ P PX → MuCl μ μ.length → clL ds μ.length = true → ∀ B E, XAg K B (RetX μ.length PX) E → DS K B (t_House_init K E) (startD ["self", "calendar", "feasts", "rows", "many", "line", "name", "year", "due", "room"] ds) μ (fnE μ.length P) := by
  intro ds μ P PX h hm hc B E hE
  obtain ⟨k, ls, fs, rs, x, y, rfl, hk, g, hx, hy, tx, ty, h, hX⟩ := h
  have k1 := kh.cl; have k2 := kh.wheel; have k3 := kh.kept; have k4 := kh.lines; have k5 := kh.charts; have k6 := kh.tables
  have hkl : k < μ.length := (List.getElem?_eq_some_iff.mp hk).1
  have hset : ∀ z, (μ.set k z)[k]? = some z := fun z => set_get hk
  have hp := g.cal.pos; have hq := g.cal.most; have g0 := g.r0; have g4 := g.r4; have hfew := g.few
  have hl18 : ∀ n, ∀ c ∈ chartsFor ls fs n, c.length ≤ 401 := fun n c hcm => by
    obtain ⟨j, _, rfl⟩ := List.mem_map.mp hcm
    have := chartOf_len (ls := ls) (fs := fs) (name := n) (y := (j : Int)) hfew
    omega
  show DS K B _ [some (.own k), some (calD K ls), some x, some y, none, none, none, none, none, none] μ _
  unfold t_House_init
  wtm_at "A"
  refine ⟨ls, fs, rs, x, y, rfl, g, hx, hy, tx, ty, ?_⟩
  wtm_at "A"
  refine pp_own hk k1 k2 (of_decide_eq_true (by rfl)) ?_
  refine q_fldZ (de_cb ?_)
  wtm_at "A"
  refine rc_list (hx.set' hk) ?_
  wtm_at "A"
  refine pp_own (hset _) k1 k3 (of_decide_eq_true (by rfl)) ?_
  rw [set_set']
  refine q_fldZ (de_cb ?_)
  wtm_at "A"
  refine rc_list (hy.set' hk) ?_
  wtm_at "A"
  refine pp_own (hset _) k1 k4 (of_decide_eq_true (by rfl)) ?_
  rw [set_set']
  have gE := fun (z : MO) (e : Mu) => (by rw [List.getElem?_append_left (by simpa using hkl)]; exact List.getElem?_set_self hkl : ((μ.set k z) ++ e)[k]? = some z)
  have nf : ∀ (z z' : MO) (e : Mu), (μ.set k z ++ e).set k z' = μ.set k z' ++ e := fun z z' e => by
    rw [List.set_append_left _ _ (by simpa using hkl), set_set']
  refine q_fldZ (de_dnew ?_)
  wtm_at "v"
  refine pp_own (gE _ _) k1 k5 (of_decide_eq_true (by rfl)) ?_
  rw [nf]
  refine q_fldZ (de_dnew ?_)
  wtm_at "v"
  rw [List.append_assoc]
  refine pp_own (gE _ _) k1 k6 (of_decide_eq_true (by rfl)) ?_
  rw [nf]
  simp only [List.length_append, List.length_set, List.length_singleton]
  show DS K B _ _ (hoM K μ k ls fs rs 0) _
  have g1 : ∀ i, (hoM K μ k ls fs rs i)[μ.length]? = some (.dK (chK ls fs (rs.take i))) := fun i => by
    unfold hoM
    rw [List.getElem?_append_right (by simp)]
    simp
  have g2 : ∀ i, (hoM K μ k ls fs rs i)[μ.length + 1]? = some (.dK (taK K ls fs (rs.take i))) := fun i => by
    unfold hoM
    rw [List.getElem?_append_right (by simp)]
    simp
  refine q_set (de_cb ?_)
  refine da_cons (de_methZ hE ?_)
  wtm_at "E"
  refine ⟨ls, rfl, .inl ?_⟩
  wtm_at "E"
  rw [List.length_map]
  refine q_for ?_
  refine di_any (de_fldZ ?_)
  wtm_at "v"
  refine fp_own (gE _ _) k1 k4 (by rfl) ?_
  refine ⟨_, _, .lst _, ?_⟩
  refine ⟨fun i ρ' μ' => μ' = hoM K μ k ls fs rs i ∧ ∃ a b c d e, ρ' = [some (.own k), some (calD K ls), some x, some y, some (.int ls.length), a, b, c, d, e], ⟨rfl, _, _, _, _, _, rfl⟩, fun _ _ _ _ _ => trivial, ?_, ?_⟩
  · intro i d ρ' μ' hd hv
    obtain ⟨hμ, a1, a2, a3, a4, a5, rfl⟩ := hv
    subst μ'
    obtain ⟨r, hri, rfl⟩ := rws_get hd
    have hrm := List.mem_of_getElem? hri
    have hil := (List.getElem?_eq_some_iff.mp hri).1
    refine dg_name ?_
    refine q_set (de_fldZ ?_)
    wtm_at "v"
    refine fpr_name kr ?_
    refine q_dput ?_
    refine lc_map (yearC ls fs r.name) (gw_name (by simp)) ?_
    wtm_at "E"
    refine ⟨by omega, by omega, trivial, by rw [rangeD_length]; omega, fun j d hd => ?_, fun out ho => ?_⟩
    · obtain ⟨hj, rfl⟩ := rangeD_some hd
      wtm_at "E"
      refine ⟨rfl, ?_⟩
      refine de_call XAg.none ?_
      wtm_at "E"
      refine fp_own (gE _ _) k1 k3 (by rfl) ?_
      wtm_at "E"
      refine ⟨ls, fs, r.name, _, rfl, g.cal, g.fe, g.few, by omega, rfl, rfl⟩
    rw [range_charts] at ho
    subst ho
    refine de_fldZ ?_
    wtm_at "v"
    refine fp_own (gE _ _) k1 k5 (by rfl) ?_
    wtm_at "v"
    refine dpp_s (g1 i) (by simp [chK]; omega) ?_
    have e1 : (hoM K μ k ls fs rs i).set μ.length (.dK (putKD (chK ls fs (rs.take i)) (.inr r.name) (chartsD (chartsFor ls fs r.name)))) = μ.set k (.ins (cHo K) [("wheel", calD K ls), ("kept", .lst (fs.map (feD K))), ("lines", .lst (rs.map (rowD K))), ("charts", .own μ.length), ("tables", .own (μ.length + 1))]) ++ [.dK (chK ls fs (rs.take (i + 1))), .dK (taK K ls fs (rs.take i))] := by
      unfold hoM
      rw [chK_put g.nr hri, List.set_append_right _ _ (by simp)]
      simp
    unfold chartsD at e1
    rw [e1]
    refine ds_dput ?_
    refine de_table hE ?_
    wtm_at "E"
    refine fp_own (gE _ _) k1 k5 (by rfl) ?_
    wtm_at "E"
    refine dgp_s (.own (gs := chK ls fs (rs.take (i + 1))) (by rw [List.getElem?_append_right (by simp)]; simp)) (chK_val (n := r.name) ?_) ?_
    · rw [take_snoc hri, rowOf, List.find?_append, Option.isSome_or]
      simp
    wtm_at "E"
    refine ⟨ls, r, chartsFor ls fs r.name, rfl, g.rw r hrm, by rw [chartsFor_len]; exact hq, hl18 _, calD_cl K ls, ?_⟩
    refine de_fldZ ?_
    wtm_at "v"
    refine fp_own (gE _ _) k1 k6 (by rfl) ?_
    wtm_at "v"
    refine dpp_s (gs := taK K ls fs (rs.take i)) (by rw [List.getElem?_append_right (by simp)]; simp) (by simp [taK]; omega) ?_
    rw [taK_put g.nr hri, List.set_append_right _ _ (by simp)]
    refine ⟨?_, _, _, _, _, _, rfl⟩
    simp [hoM]
  · intro ρ' μ' hv
    obtain ⟨hμ, a1, a2, a3, a4, a5, rfl⟩ := hv
    subst μ'
    rw [List.length_map]
    refine ds_ghost (gh_fldK (f := "charts") (j := μ.length) (ps := chK ls fs rs) (gE _ _) (by rfl) (by have := g1 rs.length; rwa [List.take_length] at this)) ?_
    have e2 : ((hoM K μ k ls fs rs rs.length).set μ.length .dead).set k (.ins (cHo K) (putD "charts" (.dct (chK ls fs rs)) [("wheel", calD K ls), ("kept", .lst (fs.map (feD K))), ("lines", .lst (rs.map (rowD K))), ("charts", .own μ.length), ("tables", .own (μ.length + 1))])) = μ.set k (.ins (cHo K) [("wheel", calD K ls), ("kept", .lst (fs.map (feD K))), ("lines", .lst (rs.map (rowD K))), ("charts", .dct (chK ls fs rs)), ("tables", .own (μ.length + 1))]) ++ [.dead, .dK (taK K ls fs rs)] := by
      unfold hoM
      rw [List.set_append_right _ _ (by simp), nf, List.take_length]
      simp
      rfl
    rw [e2]
    refine ds_ghost (gh_fldK (f := "tables") (j := μ.length + 1) (ps := taK K ls fs rs) (gE _ _) (by rfl) (by rw [List.getElem?_append_right (by simp)]; simp)) ?_
    have e3 : ((μ.set k (.ins (cHo K) [("wheel", calD K ls), ("kept", .lst (fs.map (feD K))), ("lines", .lst (rs.map (rowD K))), ("charts", .dct (chK ls fs rs)), ("tables", .own (μ.length + 1))]) ++ [MO.dead, .dK (taK K ls fs rs)]).set (μ.length + 1) .dead).set k (.ins (cHo K) (putD "tables" (.dct (taK K ls fs rs)) [("wheel", calD K ls), ("kept", .lst (fs.map (feD K))), ("lines", .lst (rs.map (rowD K))), ("charts", .dct (chK ls fs rs)), ("tables", .own (μ.length + 1))])) = μ.set k (.ins (cHo K) (hoF K ls fs rs)) ++ [.dead, .dead] := by
      rw [List.set_append_right _ _ (by simp), nf]
      simp
      rfl
    rw [e3]
    have hV : HoV K (μ.set k (.ins (cHo K) (hoF K ls fs rs)) ++ [.dead, .dead]) (.own k) ls fs rs := .inr ⟨k, rfl, gE _ _⟩
    have hmF : MuCl (μ.set k (.ins (cHo K) (hoF K ls fs rs))) (μ.set k (.ins (cHo K) (hoF K ls fs rs))).length := by
      rw [List.length_set]
      exact hm.set (hoF_cl K ls fs rs _)
    refine ds_for ?_
    refine di_any (de_fldZ ?_)
    wtm_at "v"
    refine fp_own (gE _ _) k1 k4 (by rfl) ?_
    refine ⟨_, _, .lst _, ?_⟩
    refine ⟨fun i ρ' μ' => μ' = μ.set k (.ins (cHo K) (hoF K ls fs rs)) ++ [.dead, .dead] ∧ (∃ a b c d e, ρ' = [some (.own k), some (calD K ls), some x, some y, some (.int ls.length), a, b, c, d, e]) ∧ ∀ j q, j < i → rs[j]? = some q → lateR ls fs q = false, ⟨rfl, ⟨_, _, _, _, _, rfl⟩, by omega⟩, fun _ _ _ _ _ => trivial, ?_, ?_⟩
    · intro i d ρ' μ' hd hv
      obtain ⟨hμ, ⟨a1, a2, a3, a4, a5, rfl⟩, hv⟩ := hv
      subst μ'
      obtain ⟨r, hri, rfl⟩ := rws_get hd
      have hrm := List.mem_of_getElem? hri
      have hil := (List.getElem?_eq_some_iff.mp hri).1
      have step : lateR ls fs r = false → ∀ j q, j < i + 1 → rs[j]? = some q → lateR ls fs q = false := fun hf j q hj hq => by
        rcases Nat.lt_or_ge j i with z | z
        · exact hv j q z hq
        · obtain rfl : j = i := by omega
          rw [hri] at hq
          cases hq
          exact hf
      refine dg_name ?_
      refine q_asg ?_
      refine de_methZ hE ?_
      wtm_at "v"
      refine mph hV (by rfl) ?_
      wtm_at "E"
      refine fpr_name kr ?_
      wtm_at "E"
      refine ⟨_, ls, fs, rs, r, rfl, hV, g, hrm, ?_⟩
      refine dg_tup rfl ?_
      refine dgs_cons (dg_name (dgs_cons (dg_name (dgs_nil ?_))))
      refine s_when (dt_and (dt_not (dt_truth (de_is (d0 := .bl (!r.going)) ?_ ?_))))
      · refine de_rowM (r := r) ⟨fun _ _ _ _ => rfl, fun _ _ _ => rfl⟩ hE (fun P' hP => by wtm_at "v"; exact hP) ?_
        wtm_at "E"
        · rename_i hg
          exact ⟨_, rfl, by simp [hg]⟩
        · rename_i hg
          exact ⟨_, rfl, by simp [hg]⟩
      refine ⟨_, rfl, ?_⟩
      cases hg : r.going with
      | false =>
        refine ⟨fun e => by simp at e, fun _ => ⟨fun e => (by simp at e), fun _ => ?_⟩⟩
        exact ⟨rfl, ⟨_, _, _, _, _, rfl⟩, step (by simp [lateR, hg])⟩
      | true =>
        refine ⟨fun _ => ?_, fun e => by simp at e⟩
        wtm_at "E"
        · rename_i hlt
          refine ds_raiseO hE ?_
          wtm_at "E"
          refine fpr_name kr ?_
          wtm_at "E"
          refine ⟨rfl, by decide, ?_⟩
          refine ⟨_, _, rfl, by simp, ?_, ?_, hX r ?_⟩
          · rw [List.length_set] at hmF; exact hmF
          · simp [fsOf, clF, D.cl]
          · unfold neverOf
            rw [List.find?_eq_some_iff_getElem]
            refine ⟨by simp [lateR, hg]; omega, i, hil, (List.getElem?_eq_some_iff.mp hri).2, fun j hj => ?_⟩
            simp [hv j rs[j] hj (List.getElem?_eq_getElem _)]
        · rename_i hlt
          exact ⟨rfl, ⟨_, _, _, _, _, rfl⟩, step (by simp [lateR, hg]; omega)⟩
    · intro ρ' μ' hv
      obtain ⟨hμ, ⟨a1, a2, a3, a4, a5, rfl⟩, hv⟩ := hv
      subst μ'
      refine ret_same (by simp) hmF rfl (h { g with up := fun r hr hg => ?_ })
      obtain ⟨j, hj, rfl⟩ := List.getElem_of_mem hr
      have := hv j rs[j] (by simpa using hj) (List.getElem?_eq_getElem hj)
      simp [lateR, hg] at this
      exact this
theorem de_house {B : Bs} {E : XK} {PX : PXT} {ts : TA} {ρ : En} {μ : Mu} {P : D → Mu → Prop} (hE : XAg K B PX E) (h : DA K B ts ρ μ fun ds μ1 => ∃ (ls : List Int) (fs : List FeT) (rs : List RwT) (x y : D), ds = [calD K ls, x, y] ∧ GHs ls fs rs ∧ Ls μ1 x (fs.map (feD K)) ∧ Ls μ1 y (rs.map (rowD K)) ∧ tyD μ1 x = some "list" ∧ tyD μ1 y = some "list" ∧ P (hoD K ls fs rs) μ1) : DE K B (tMake (He.ga K "House") (spD K (c_House_init K)) [] E ts) ρ μ P := by
  refine de_make hE da_nd ?_
  refine da_imp h fun ds μ1 p1 => ?_
  obtain ⟨ls, fs, rs, x, y, rfl, g, hx, hy, tx, ty, p⟩ := p1
  have lsA : ∀ {x : D} {ds : List D}, Ls μ1 x ds → Ls (μ1 ++ [.ins (cHo K) []]) x ds := fun h => by
    cases h with
    | lst => exact .lst _
    | rdl => exact .rdl _
    | own h => exact .own (mu_old h)
  have tyA : ∀ {x : D} {ds : List D}, Ls μ1 x ds → tyD μ1 x = some "list" → tyD (μ1 ++ [.ins (cHo K) []]) x = some "list" := fun h t => by
    cases h with
    | lst => rfl
    | rdl => rfl
    | own h => simp only [tyD, mu_old h]
  refine ⟨_, ls, fs, rs, x, y, rfl, mu_last, g.toGHo, lsA hx, lsA hy, tyA hx tx, tyA hy ty, fun _ => ⟨rfl, hoF K ls fs rs, set_last, hoF_cl K ls fs rs _, p⟩, fun r hr => ?_⟩
  have h1 := List.mem_of_find?_eq_some hr
  have h2 := List.find?_some hr
  unfold lateR at h2
  simp at h2
  have := g.up r h1 h2.1
  omega
end
/-! ### houses as texts -/
abbrev numS (i : Int) : Str := toString i
def figs : List Nat := (List.range 10).map (· + 48)
/-! the one form -/
def keptS : Option (List Int) → Str
  | none => "all"
  | some ys => Txt.join "," (ys.map numS)
def actsS (ps : List (Str × Str)) : List Str := ps.flatMap fun p => [p.2, p.1]
def feastW (f : FeT) : List Str := (["feast", f.name, numS f.place, numS f.lasts, keptS f.kept] : List Str) ++ actsS f.acts
def feastS (f : FeT) : Str := Txt.join " " (feastW f)
def calW (ls : List Int) : List Str := "calendar" :: ls.map numS
def calS (ls : List Int) : Str := Txt.join " " (calW ls)
def rowW (r : RwT) : List Str := if r.going = true then ["going", r.name, numS r.many, numS r.most, numS r.begin] else ["yearly", r.name, numS r.many, numS r.most]
def rowS (r : RwT) : Str := Txt.join " " (rowW r)
def textsH (ls : List Int) (fs : List FeT) (rs : List RwT) : List Str := calS ls :: (fs.map feastS ++ rs.map rowS)
/-! numbers -/
theorem num_cps (m : Nat) : (numS (m : Int)).cps.toList = (Nat.toDigits 10 m).map Char.toNat := PySem.W.KIN.signs_num m
theorem digit_fig {ch : Char} (h : ch.isDigit = true) : ch.toNat ∈ figs := by
  have : 48 ≤ ch.toNat ∧ ch.toNat ≤ 57 := by
    simp only [Char.isDigit, Bool.and_eq_true, decide_eq_true_eq] at h
    exact ⟨h.1, h.2⟩
  unfold figs
  refine List.mem_map.mpr ⟨ch.toNat - 48, List.mem_range.mpr (by omega), by omega⟩
theorem num_figs (m : Nat) : ∀ c ∈ (numS (m : Int)).cps.toList, c ∈ figs := fun c hc => by
  rw [num_cps] at hc
  obtain ⟨ch, hch, rfl⟩ := List.mem_map.mp hc
  exact digit_fig (Nat.isDigit_of_mem_toDigits (by decide) (by decide) hch)
theorem num_len (m : Nat) : (numS (m : Int)).length = (Nat.toDigits 10 m).length := by
  have h := congrArg List.length (num_cps m)
  rw [List.length_map, Array.length_toList] at h
  exact h
theorem num_bd {m k : Nat} (hk : 0 < k) (h : m < 10 ^ k) : 1 ≤ (numS (m : Int)).length ∧ (numS (m : Int)).length ≤ k := by
  rw [num_len]
  exact ⟨Nat.length_toDigits_pos, (Nat.length_toDigits_le_iff (by decide) hk).mpr h⟩
theorem neg_cps (m : Nat) (hm : 0 < m) : (numS (-(m : Int))).cps.toList = 45 :: (numS (m : Int)).cps.toList := by
  obtain ⟨n, rfl⟩ : ∃ n, m = n + 1 := ⟨m - 1, by omega⟩
  rw [num_cps]
  have e : (toString (-((n + 1 : Nat) : Int)) : String) = "-" ++ Nat.repr (n + 1) := rfl
  have e2 : (numS (-((n + 1 : Nat) : Int))) = Str.ofString ("-" ++ Nat.repr (n + 1)) := rfl
  rw [e2, signs_ofString, String.toList_append, List.map_append, Nat.toList_repr]
  rfl
/-! words that hold no blank, no comma -/
theorem num_nn {i : Int} (h : 0 ≤ i) : ∃ m : Nat, i = m := ⟨i.toNat, by omega⟩
theorem num_free {i : Int} {c : Nat} (hc : c ∉ figs) (h45 : c ≠ 45) : c ∉ (numS i).cps.toList := fun h => by
  rcases Int.lt_or_le i 0 with z | z
  · obtain ⟨m, hm⟩ : ∃ m : Nat, i = -(m : Int) := ⟨(-i).toNat, by omega⟩
    rw [hm, neg_cps m (by omega)] at h
    rcases List.mem_cons.mp h with q | q
    · exact h45 q
    · exact hc (num_figs m c q)
  · obtain ⟨m, rfl⟩ := num_nn z
    exact hc (num_figs m c h)
theorem join_cps (y : Str) (ps : List Str) : (Txt.join y ps).cps.toList = TL.joinL y.cps.toList (ps.map fun p => p.cps.toList) := by
  rw [TL.join_eq]
  exact TL.tl_join y ps
theorem joinL_mem {S : List Nat} {c : Nat} : ∀ {ps : List (List Nat)}, c ∈ TL.joinL S ps → c ∈ S ∨ ∃ p ∈ ps, c ∈ p
  | [], h => by simp [TL.joinL] at h
  | [p], h => .inr ⟨p, by simp, by simpa [TL.joinL] using h⟩
  | p :: q :: r, h => by
    have h : c ∈ p ++ (S ++ TL.joinL S (q :: r)) := h
    rcases List.mem_append.mp h with h | h
    · exact .inr ⟨p, by simp, h⟩
    · rcases List.mem_append.mp h with h | h
      · exact .inl h
      · rcases joinL_mem h with z | ⟨z, hz, hc⟩
        · exact .inl z
        · exact .inr ⟨z, by simp [List.mem_cons.mp hz], hc⟩
/-! the forms are right -/
theorem acts_len (ps : List (Str × Str)) : (actsS ps).length = 2 * ps.length := by
  induction ps with
  | nil => rfl
  | cons p ps ih =>
    show (actsS ps).length + 1 + 1 = _
    rw [ih, List.length_cons]
    omega
/-! ### texts: contracts -/
def WOk (w : Str) : Prop := PyData.strOk w = true ∧ w.length ≤ 90000
section
def c_feast_text (K : PySem.W.Frag) : CT := fun ds μ P PX => ∃ f : FeT, ds = [feD K f] ∧ GFe f ∧ P (.str (feastS f)) μ
def c_house_text (K : PySem.W.Frag) : CT := fun ds μ P PX => ∃ (ls : List Int) (fs : List FeT) (rs : List RwT), ds = [hoD K ls fs rs] ∧ GHs ls fs rs ∧ Fresh ((textsH ls fs rs).map D.str) μ P
end
section
variable {K : PySem.W.Frag}
theorem at_natT {α : Type} {xs : List α} {j : Nat} {x : α} (h : xs[j]? = some x) : atI xs (j : Int) = some x := by
  have hl := (List.getElem?_eq_some_iff.mp h).1
  have e : ixN xs.length (j : Int) = some j := by
    unfold ixN
    simp
    omega
  unfold atI
  rw [e]
  exact h
theorem ws_shp {ws : List Str} (h : ∀ w ∈ ws, WOk w) (n : Nat) : shpL (ws.map D.str) n = true := shpL_map fun w hw => by
  simp [D.shp, (h w hw).1]
end
def t_feast_text (K : PySem.W.Frag) (E : XK) : TS :=
    (tSeq (tAsg (tMeth (He.ga K "Feast") "told" (spD K (c_Feast_told K)) [] E (tVar 0) tNil) (gTup K 5 (gCons (gName 1) (gCons (gName 2) (gCons (gName 3) (gCons (gName 4) (gCons (gName 5) gNil)))))))
      (tSeq (tAsg (tIf (tB (tIsN (tVar 4))) (tC (.str "all")) (tBM K "str" (rJoin K) (tC (.str ",")) (tCons (tLc (iAny K (tVar 4)) (gName 7) tYes (tCB rStrI (tCons (tVar 7) tNil)) [7]) tNil))) (gName 6))
      (tSeq (tAsg (tLst (tCons (tC (.str "feast")) (tCons (tVar 1) (tCons (tCB rStrI (tCons (tVar 2) tNil)) (tCons (tCB rStrI (tCons (tVar 3) tNil)) (tCons (tVar 6) tNil)))))) (gName 8))
      (tSeq (tFor (iAny K (tVar 5)) (gTup K 2 (gCons (gName 9) (gCons (gName 10) gNil))) (tAsg (tOp (rAddA K) (tVar 8) (tLst (tCons (tVar 10) (tCons (tVar 9) tNil)))) (gName 8)))
      (tRet (tBM K "str" (rJoin K) (tC (.str " ")) (tCons (tVar 8) tNil)))))))
def t_house_text (K : PySem.W.Frag) (E : XK) : TS :=
    (tSeq (tAsg (tBM K "str" (rJoin K) (tC (.str " ")) (tCons (tOp (rAddA K) (tLst (tCons (tC (.str "calendar")) tNil)) (tLc (iAny K (tMeth (He.ga K "Calendar") "years" (spD K (c_Calendar_years K)) [] E (tMeth (He.ga K "House") "calendar" (spD K (c_House_calendar K)) [] E (tVar 0) tNil) tNil)) (gName 2) tYes (tCB rStrI (tCons (tVar 2) tNil)) [2])) tNil)) (gName 1))
      (tSeq (tAsg (tLc (iAny K (tMeth (He.ga K "House") "feasts" (spD K (c_House_feasts K)) [] E (tVar 0) tNil)) (gName 4) tYes (tCall (spD K (c_feast_text K)) [] E0 (tCons (tVar 4) tNil)) [4]) (gName 3))
      (tRet (tOp (rAddA K) (tOp (rAddA K) (tLst (tCons (tVar 1) tNil)) (tVar 3)) (tLc (iAny K (tMeth (He.ga K "House") "rows" (spD K (c_House_rows K)) [] E (tVar 0) tNil)) (gName 6) tYes (tBM K "str" (rJoin K) (tC (.str " ")) (tCons (tLc (iAny K (tOrE (tMeth (He.ga K "Going") "told" (spD K (c_Going_told K)) [] E0 (tVar 6) tNil) (tMeth (He.ga K "Yearly") "told" (spD K (c_Yearly_told K)) [] E0 (tVar 6) tNil))) (gName 5) tYes (tCB rStrA (tCons (tVar 5) tNil)) [5]) tNil)) [6])))))
theorem num_ok (i : Int) : PyData.strOk (numS i) = true := strOk_iff.mpr fun c hc => by
  by_cases h : c ∈ figs
  · unfold figs at h
    obtain ⟨x, hx, rfl⟩ := List.mem_map.mp h
    have := List.mem_range.mp hx
    omega
  · by_cases h45 : c = 45
    · omega
    · exact absurd hc (num_free h h45)
theorem Fz.appT {μ : Mu} {x d : D} (h : Fz μ x d) (ext : Mu) : Fz (μ ++ ext) x d := by
  cases h with
  | id => exact .id _
  | own h => exact .own (mu_old h)
theorem calDatT (ls : List Int) : (intsD ls).dat = true := by
  unfold intsD
  rw [D.dat, datL_iff]
  intro x hx
  obtain ⟨i, _, rfl⟩ := List.mem_map.mp hx
  rfl
theorem place_len {i : Int} (h0 : -400 ≤ i) (h1 : i ≤ 399) : (numS i).length ≤ 640 := by
  rcases Int.lt_or_le i 0 with z | z
  · obtain ⟨m, hm⟩ : ∃ m : Nat, i = -(m : Int) := ⟨(-i).toNat, by omega⟩
    have h2 := congrArg List.length (neg_cps m (by omega))
    rw [Array.length_toList, List.length_cons, Array.length_toList] at h2
    have h3 := (num_bd (m := m) (k := 7) (by decide) (by omega)).2
    rw [hm]
    unfold Str.length at h3 ⊢
    omega
  · obtain ⟨m, rfl⟩ := num_nn z
    have h3 := (num_bd (m := m) (k := 7) (by decide) (by omega)).2
    omega
section
variable {K : PySem.W.Frag}
theorem de_calT {B : Bs} {E : XK} {PX : PXT} {ts : TA} {ρ : En} {μ : Mu} {P : D → Mu → Prop} (hE : XAg K B PX E) (h : DA K B ts ρ μ fun ds μ1 => ∃ x ls, ds = [x] ∧ Fz μ1 x (intsD ls) ∧ GCal ls ∧ P (calD K ls) μ1) : DE K B (tMake (He.ga K "Calendar") (spD K (c_Calendar_init K)) [] E ts) ρ μ P := by
  refine de_make hE da_nd ?_
  refine da_imp h fun ds μ1 p1 => ?_
  obtain ⟨x, ls, rfl, fz, hg, p⟩ := p1
  refine ⟨_, x, intsD ls, rfl, mu_last, fz.appT _, calDatT ls, fun ls' e hg' => ⟨rfl, calF ls, ?_, calD_cl K ls _, p⟩, fun e => ?_⟩
  · have : ls' = ls := by
      unfold intsD at e
      injection e with e
      exact (List.map_inj_right (fun a b h => by injection h)).mp e.symm
    subst this
    exact set_last
  · exact absurd (areNums_of hg) (by rw [e]; simp)
theorem de_feastT {B : Bs} {E : XK} {PX : PXT} {ts : TA} {ρ : En} {μ : Mu} {P : D → Mu → Prop} (hE : XAg K B PX E) (h : DA K B ts ρ μ fun ds μ1 => ∃ (f : FeT) (xk xp : D), ds = [.str f.name, .int f.place, .int f.lasts, xk, xp] ∧ GFe f ∧ Fz μ1 xk (keptD f.kept) ∧ Fz μ1 xp (actsD f.acts) ∧ P (feD K f) μ1) : DE K B (tMake (He.ga K "Feast") (spD K (c_Feast_init K)) [] E ts) ρ μ P := by
  refine de_make hE da_nd ?_
  refine da_imp h fun ds μ1 p1 => ?_
  obtain ⟨f, xk, xp, rfl, gf, fk, fp, p⟩ := p1
  exact ⟨_, f, xk, xp, rfl, mu_last, gf, fk.appT _, fp.appT _, rfl, feF f, set_last, feD_cl K f _, p⟩
end
/-! ### sizes of the texts -/
theorem joinL_bd {S : List Nat} : ∀ {ps : List (List Nat)}, (TL.joinL S ps).length ≤ (ps.map List.length).sum + ps.length * S.length
  | [] => by simp [TL.joinL]
  | [q] => by simp [TL.joinL]
  | q :: r :: t => by
    have e : TL.joinL S (q :: r :: t) = q ++ (S ++ TL.joinL S (r :: t)) := rfl
    have ih := joinL_bd (S := S) (ps := r :: t)
    rw [e, List.length_append, List.length_append]
    simp only [List.map_cons, List.sum_cons, List.length_cons, Nat.add_mul, Nat.one_mul] at ih ⊢
    omega
theorem join_len (y : Str) (ps : List Str) : (Txt.join y ps).length ≤ (ps.map (·.length)).sum + ps.length * y.length := by
  have h := joinL_bd (S := y.cps.toList) (ps := ps.map fun p => p.cps.toList)
  rw [← join_cps, Array.length_toList, List.map_map, List.length_map, Array.length_toList] at h
  have e : (ps.map (List.length ∘ fun p => p.cps.toList)) = ps.map (·.length) := List.map_congr_left fun p _ => by simp [Str.length]
  rw [e] at h
  exact h
theorem sum_bd {ps : List Str} {k : Nat} (h : ∀ p ∈ ps, p.length ≤ k) : (ps.map (·.length)).sum ≤ ps.length * k := by
  induction ps with
  | nil => simp
  | cons p ps ih =>
    have h1 := h p (by simp)
    have h2 := ih fun q hq => h q (by simp [hq])
    simp only [List.map_cons, List.sum_cons, List.length_cons, Nat.add_mul, Nat.one_mul]
    omega
theorem join_bd {y : Str} {ps : List Str} {k n : Nat} (hy : y.length ≤ 1) (h : ∀ p ∈ ps, p.length ≤ k) (hn : ps.length ≤ n) : (ps.map (·.length)).sum + ps.length * y.length ≤ n * k + n ∧ (Txt.join y ps).length ≤ n * k + n := by
  have h1 := sum_bd h
  have h2 : ps.length * k ≤ n * k := Nat.mul_le_mul_right _ hn
  have h3 : ps.length * y.length ≤ n * 1 := Nat.mul_le_mul hn hy
  have h4 := join_len y ps
  omega
theorem join_ok {y : Str} {ps : List Str} (hy : PyData.strOk y = true) (h : ∀ p ∈ ps, PyData.strOk p = true) : PyData.strOk (Txt.join y ps) = true := strOk_iff.mpr fun c hc => by
  rw [join_cps] at hc
  rcases joinL_mem hc with z | ⟨p, hp, z⟩
  · exact strOk_iff.mp hy c z
  · obtain ⟨p', hp', rfl⟩ := List.mem_map.mp hp
    exact strOk_iff.mp (h p' hp') c z
theorem num7 {i : Int} (h0 : 0 ≤ i) (h1 : i < 10 ^ 7) : (numS i).length ≤ 7 := by
  obtain ⟨m, rfl⟩ := num_nn h0
  exact (num_bd (m := m) (k := 7) (by decide) (by omega)).2
theorem num_log {i : Int} (h0 : -(10 ^ 7) < i) (h1 : i < 10 ^ 7) : i.natAbs.log2 < 1920 := by
  by_cases z : i = 0
  · subst z
    decide
  · rw [Nat.log2_lt (by omega)]
    have : (2 : Nat) ^ 24 ≤ 2 ^ 1920 := Nat.pow_le_pow_right (by decide) (by decide)
    omega
theorem one_cm : (("," : Str)).length ≤ 1 := by decide +kernel
theorem one_sp : ((" " : Str)).length ≤ 1 := by decide +kernel
theorem kept_bd {k : Option (List Int)} (h : KeptO k) : PyData.strOk (keptS k) = true ∧ (keptS k).length ≤ 200 ∧ ∀ ys, k = some ys → ((ys.map numS).map (·.length)).sum + (ys.map numS).length * (("," : Str)).length ≤ 200 := by
  cases k with
  | none => exact ⟨by decide +kernel, by decide +kernel, fun ys e => by simp at e⟩
  | some ys =>
    have hk := h ys rfl
    have hb := join_bd (y := ",") (ps := ys.map numS) (k := 7) (n := 20) one_cm (fun p hp => by
      obtain ⟨i, hi, rfl⟩ := List.mem_map.mp hp
      have := hk.each i hi
      exact num7 this.1 (by omega)) (by rw [List.length_map]; exact hk.most)
    refine ⟨join_ok (by decide +kernel) fun p hp => ?_, Nat.le_trans hb.2 (by decide), fun ys' e => ?_⟩
    · obtain ⟨i, _, rfl⟩ := List.mem_map.mp hp
      exact num_ok i
    · cases e
      exact Nat.le_trans hb.1 (by decide)
theorem sort_ok {s : Str} (h : s = "off" ∨ s = "rest") : PyData.strOk s = true ∧ s.length ≤ 8 := by
  rcases h with rfl | rfl <;> decide +kernel
theorem acts_wd {ps : List (Str × Str)} (h : ActsOk ps) : ∀ w ∈ actsS ps, PyData.strOk w = true ∧ w.length ≤ 640 := fun w hw => by
  obtain ⟨p, hp, hw⟩ := List.mem_flatMap.mp hw
  obtain ⟨h1, h2⟩ := h.each p hp
  simp at hw
  rcases hw with rfl | rfl
  · exact ⟨(sort_ok h2).1, Nat.le_trans (sort_ok h2).2 (by decide)⟩
  · exact ⟨h1.strOk, Nat.le_trans h1.2.1 (by decide)⟩
theorem feast_wd {f : FeT} (h : GFe f) : ∀ w ∈ feastW f, PyData.strOk w = true ∧ w.length ≤ 640 := fun w hw => by
  have l0 := h.l0; have l1 := h.l1
  unfold feastW at hw
  rcases List.mem_append.mp hw with hw | hw
  · simp at hw
    rcases hw with rfl | rfl | rfl | rfl | rfl
    · decide +kernel
    · exact ⟨h.name.strOk, Nat.le_trans h.name.2.1 (by decide)⟩
    · exact ⟨num_ok _, place_len h.p0 h.p1⟩
    · exact ⟨num_ok _, Nat.le_trans (num7 (by omega) (by omega)) (by decide)⟩
    · exact ⟨(kept_bd h.kept).1, Nat.le_trans (kept_bd h.kept).2.1 (by decide)⟩
  · exact acts_wd h.acts w hw
theorem feast_cnt {f : FeT} (h : GFe f) : (feastW f).length ≤ 13 := by
  have := h.acts.most
  unfold feastW
  rw [List.length_append, acts_len]
  simp only [List.length_cons, List.length_nil]
  omega
theorem feast_bd {f : FeT} (h : GFe f) : ((feastW f).map (·.length)).sum + (feastW f).length * ((" " : Str)).length ≤ 100000 ∧ WOk (feastS f) := by
  have hb := join_bd (y := " ") one_sp (fun p hp => (feast_wd h p hp).2) (feast_cnt h)
  exact ⟨Nat.le_trans hb.1 (by decide), join_ok (by decide +kernel) fun p hp => (feast_wd h p hp).1, Nat.le_trans hb.2 (by decide)⟩
theorem row_wd {r : RwT} (h : GRw r) : ∀ w ∈ rowW r, PyData.strOk w = true ∧ w.length ≤ 8 := fun w hw => by
  have m0 := h.m0; have m1 := h.m1; have t0 := h.t0; have t1 := h.t1; have b0 := h.b0; have b1 := h.b1
  have hn : ∀ i : Int, 0 ≤ i → i < 10 ^ 7 → PyData.strOk (numS i) = true ∧ (numS i).length ≤ 8 := fun i h0 h1 => ⟨num_ok _, Nat.le_trans (num7 h0 h1) (by decide)⟩
  unfold rowW at hw
  split at hw
  · simp at hw
    rcases hw with rfl | rfl | rfl | rfl | rfl
    · decide +kernel
    · exact ⟨h.name.strOk, h.name.2.1⟩
    all_goals exact hn _ (by omega) (by omega)
  · simp at hw
    rcases hw with rfl | rfl | rfl | rfl
    · decide +kernel
    · exact ⟨h.name.strOk, h.name.2.1⟩
    all_goals exact hn _ (by omega) (by omega)
theorem row_bd {r : RwT} (h : GRw r) : ((rowW r).map (·.length)).sum + (rowW r).length * ((" " : Str)).length ≤ 100000 ∧ WOk (rowS r) := by
  have hb := join_bd (y := " ") (n := 5) one_sp (fun p hp => (row_wd h p hp).2) (by unfold rowW; split <;> simp)
  exact ⟨Nat.le_trans hb.1 (by decide), join_ok (by decide +kernel) fun p hp => (row_wd h p hp).1, Nat.le_trans hb.2 (by decide)⟩
theorem cal_wd {ls : List Int} (h : GCal ls) : ∀ w ∈ calW ls, PyData.strOk w = true ∧ w.length ≤ 8 := fun w hw => by
  unfold calW at hw
  rcases List.mem_cons.mp hw with rfl | hw
  · decide +kernel
  · obtain ⟨i, hi, rfl⟩ := List.mem_map.mp hw
    have := h.each i hi
    exact ⟨num_ok _, Nat.le_trans (num7 (by omega) (by omega)) (by decide)⟩
theorem cal_bd {ls : List Int} (h : GCal ls) : ((calW ls).map (·.length)).sum + (calW ls).length * ((" " : Str)).length ≤ 100000 ∧ WOk (calS ls) := by
  have hb := join_bd (y := " ") (n := 21) one_sp (fun p hp => (cal_wd h p hp).2) (by unfold calW; have := h.most; simp; omega)
  exact ⟨Nat.le_trans hb.1 (by decide), join_ok (by decide +kernel) fun p hp => (cal_wd h p hp).1, Nat.le_trans hb.2 (by decide)⟩
theorem texts_wok {ls : List Int} {fs : List FeT} {rs : List RwT} (h : GHo ls fs rs) : ∀ w ∈ textsH ls fs rs, WOk w := fun w hw => by
  unfold textsH at hw
  rcases List.mem_cons.mp hw with rfl | hw
  · exact (cal_bd h.cal).2
  · rcases List.mem_append.mp hw with hw | hw
    · obtain ⟨f, hf, rfl⟩ := List.mem_map.mp hw
      exact (feast_bd (h.fe f hf)).2
    · obtain ⟨r, hr, rfl⟩ := List.mem_map.mp hw
      exact (row_bd (h.rw r hr)).2
theorem texts_len (ls : List Int) (fs : List FeT) (rs : List RwT) : (textsH ls fs rs).length = 1 + fs.length + rs.length := by
  unfold textsH
  simp
  omega
def strF : D → D
  | .int i => .str (numS i)
  | .str s => .str s
  | _ => .non
section
variable {K : PySem.W.Frag}
theorem d_feast_text (kf : KFe K) : ∀ ds μ P PX, c_feast_text K ds μ P PX → MuCl μ μ.length → clL ds μ.length = true → ∀ B E, XAg K B (RetX μ.length PX) E → DS K B (t_feast_text K E) (startD ["feast", "name", "place", "days", "years", "puts", "kept", "year", "words", "word", "sort"] ds) μ (fnE μ.length P) := by
  intro ds μ P PX h hm hc B E hE
  obtain ⟨f, rfl, hf, h⟩ := h
  have ret : Ret μ.length P (.str (feastS f)) μ := ret_same0 (Nat.le_refl _) hm rfl h
  have l0 := hf.l0; have l1 := hf.l1; have p0 := hf.p0; have p1 := hf.p1
  have ham := hf.acts.most
  show DS K B _ [some (feD K f), none, none, none, none, none, none, none, none, none, none] μ _
  unfold t_feast_text
  refine q_asg (de_methZ hE ?_)
  wtm_at "v"
  unfold feD
  refine mp_obj (by rfl) ?_
  refine da_nil ⟨f, rfl, ?_⟩
  unfold toldFe
  refine dg_tup rfl ?_
  wtm_at "E"
  refine ds_cut (M := fun ρ' μ' => μ' = μ ∧ ∃ z : Option D, ρ' = [some (.obj (cFe K) (feF f)), some (.str f.name), some (.int f.place), some (.int f.lasts), some (keptD f.kept), some (actsD f.acts), some (.str (keptS f.kept)), z, none, none, none]) ?_ ?_
  · refine ds_set (de_if (dt_B (de_isNZ ?_)))
    wtm_at "v"
    cases hk : f.kept with
    | none =>
      refine np_t ⟨true, rfl, fun _ => ?_, fun z => absurd z (by simp)⟩
      wtm_at "E"
      exact ⟨rfl, _, rfl⟩
    | some ys =>
      have hkb := (kept_bd hf.kept).2.2 ys hk
      have hko := hf.kept ys hk
      refine np_lst ⟨false, rfl, fun z => absurd z (by simp), fun _ => ?_⟩
      wtm_at "E"
      refine ⟨ty_str, ?_⟩
      refine da_cons ?_
      refine lc_map strF (gw_name (by simp)) ?_
      refine di_any ?_
      wtm_at "E"
      have hmo := hko.most
      refine ⟨_, _, .lst _, trivial, by rw [List.length_map]; omega, fun i d hd => ?_, fun out ho => ?_⟩
      · obtain ⟨y, hy, rfl⟩ := intsG hd
        have hy1 := hko.each y (List.mem_of_getElem? hy)
        refine dg_name ⟨rfl, ?_⟩
        wtm_at "E"
        refine rc_strI (num_log (by omega) (by omega)) ⟨rfl, rfl⟩
      · refine da_nil (rm_join (ys := ys.map numS) (by rw [← ho, List.map_map, List.map_map]; exact .lst _) (Nat.le_trans hkb (by decide)) ?_)
        exact ⟨rfl, _, rfl⟩
  rintro ρ' μ' ⟨hμ, z, rfl⟩
  subst hμ
  refine q_set ?_
  refine de_lstZ ?_
  wtm_at "E"
  refine rc_strI (num_log (by omega) (by omega)) ?_
  wtm_at "E"
  refine rc_strI (num_log (by omega) (by omega)) ?_
  wtm_at "E"
  refine q_for (di_any ?_)
  wtm_at "E"
  refine ⟨_, _, .lst _, ?_⟩
  refine ⟨fun i ρ' μ2 => μ2 = μ' ∧ ∃ a b : Option D, ρ' = [some (.obj (cFe K) (feF f)), some (.str f.name), some (.int f.place), some (.int f.lasts), some (keptD f.kept), some (actsD f.acts), some (.str (keptS f.kept)), z, some (.lst (((["feast", f.name, numS f.place, numS f.lasts, keptS f.kept] : List Str) ++ actsS (f.acts.take i)).map D.str)), a, b], ⟨rfl, none, none, by simp [actsS]; exact ⟨rfl, rfl⟩⟩, fun _ _ _ _ _ => trivial, ?_, ?_⟩
  · rintro i d ρ' μ2 hd ⟨hμ, a, b, rfl⟩
    subst hμ
    rw [List.getElem?_map] at hd
    obtain ⟨p, hp, rfl⟩ := Option.map_eq_some_iff.mp hd
    unfold actD
    wtm_at "E"
    refine ds_set (de_op ?_)
    wtm_at "v"
    refine de_lstZ ?_
    wtm_at "E"
    refine ro_addL (.lst _) (.lst _) (by rw [List.length_map, List.length_append, acts_len, List.length_take]; simp; omega) ?_
    refine ⟨rfl, some (.str p.1), some (.str p.2), ?_⟩
    have e : f.acts.take (i + 1) = f.acts.take i ++ [p] := by
      rw [List.take_succ, hp]
      rfl
    rw [e]
    simp [actsS]
  · rintro ρ' μ2 ⟨hμ, a, b, rfl⟩
    subst hμ
    rw [List.length_map, List.take_length]
    refine ds_ret ?_
    wtm_at "E"
    refine ⟨ty_str, ?_⟩
    wtm_at "E"
    exact rm_join (ys := feastW f) (.lst _) (feast_bd hf).1 ret
def partsR (r : RwT) : List D := if r.going = true then [.str "going", .str r.name, .int r.many, .int r.most, .int r.begin] else [.str "yearly", .str r.name, .int r.many, .int r.most]
theorem strF_row (r : RwT) : (partsR r).map strF = (rowW r).map D.str := by
  unfold partsR rowW
  split <;> rfl
theorem partsR_get {r : RwT} (h : GRw r) {i : Nat} {d : D} (hd : (partsR r)[i]? = some d) : (∃ s, d = .str s) ∨ ∃ n : Int, d = .int n ∧ 0 ≤ n ∧ n < 10 ^ 7 := by
  have m0 := h.m0; have m1 := h.m1; have t0 := h.t0; have t1 := h.t1; have b0 := h.b0; have b1 := h.b1
  have hm := List.mem_of_getElem? hd
  unfold partsR at hm
  split at hm
  · simp at hm
    rcases hm with rfl | rfl | rfl | rfl | rfl
    · exact .inl ⟨_, rfl⟩
    · exact .inl ⟨_, rfl⟩
    all_goals exact .inr ⟨_, rfl, by omega, by omega⟩
  · simp at hm
    rcases hm with rfl | rfl | rfl | rfl
    · exact .inl ⟨_, rfl⟩
    · exact .inl ⟨_, rfl⟩
    all_goals exact .inr ⟨_, rfl, by omega, by omega⟩
theorem de_toldR {B : Bs} {E : XK} {PX : PXT} {te : TE} {ρ : En} {μ : Mu} {P : D → Mu → Prop} (r : RwT) (hE : XAg K B PX E) (hv : ∀ P' : D → Mu → Prop, P' (rowD K r) μ → DE K B te ρ μ P') (h : P (.tup (partsR r)) μ) : DE K B (tOrE (tMeth (He.ga K "Going") "told" (spD K (c_Going_told K)) [] E te tNil) (tMeth (He.ga K "Yearly") "told" (spD K (c_Yearly_told K)) [] E te tNil)) ρ μ P := by
  cases hg : r.going with
  | true =>
    have e : rowD K r = .obj (cGo K) (goF r.name r.many r.most r.begin) := by unfold rowD; rw [if_pos hg]
    refine de_orL (de_methZ hE (hv _ ?_))
    rw [e]
    refine mp_obj (by rfl) ?_
    refine da_nil ⟨r, by rw [e], hg, ?_⟩
    unfold partsR at h
    rw [if_pos hg] at h
    exact h
  | false =>
    have hg' : ¬ r.going = true := by rw [hg]; simp
    have e : rowD K r = .obj (cYe K) (yeF r.name r.many r.most) := by unfold rowD; rw [if_neg hg']
    refine de_orR (de_methZ hE (hv _ ?_))
    rw [e]
    refine mp_obj (by rfl) ?_
    refine da_nil ⟨r, by rw [e], hg, ?_⟩
    unfold partsR at h
    rw [if_neg hg'] at h
    exact h
theorem d_house_text (kh : KHo K) : ∀ ds μ P PX, c_house_text K ds μ P PX → MuCl μ μ.length → clL ds μ.length = true → ∀ B E, XAg K B (RetX μ.length PX) E → DS K B (t_house_text K E) (startD ["house", "calendar", "days", "feasts", "feast", "part", "row"] ds) μ (fnE μ.length P) := by
  intro ds μ P PX h hm hc B E hE
  obtain ⟨ls, fs, rs, rfl, hg, h⟩ := h
  have hcm := hg.cal.most
  have h8 := hg.few; have h4 := hg.r4
  show DS K B _ [some (hoD K ls fs rs), none, none, none, none, none, none] μ _
  unfold t_house_text hoD
  refine q_set ?_
  wtm_at "E"
  refine ⟨ty_str, ?_⟩
  refine da_cons (de_op (de_lstZ ?_))
  wtm_at "E"
  refine lc_map strF (gw_name (by simp)) ?_
  refine di_any (de_methZ hE (de_methZ hE ?_))
  wtm_at "v"
  refine mp_obj (by rfl) ?_
  refine da_nil ⟨ls, fs, rs, rfl, ?_⟩
  unfold calD
  refine mp_obj (by rfl) ?_
  refine da_nil ⟨ls, rfl, .inl ?_⟩
  refine ⟨_, _, .lst _, trivial, by rw [List.length_map]; omega, fun i d hd => ?_, fun out ho => ?_⟩
  · obtain ⟨y, hy, rfl⟩ := intsG hd
    have hy1 := hg.cal.each y (List.mem_of_getElem? hy)
    refine dg_name ⟨rfl, ?_⟩
    wtm_at "E"
    exact rc_strI (num_log (by omega) (by omega)) ⟨rfl, rfl⟩
  have ho : out = (ls.map numS).map D.str := by
    rw [← ho, List.map_map, List.map_map]
    rfl
  subst ho
  refine ro_addL (.lst _) (.lst _) (by simp; omega) ?_
  refine da_nil (rm_join (ys := calW ls) (by exact .lst _) (cal_bd hg.cal).1 ?_)
  refine q_set (lc_each fs (feD K) (fun f => .str (feastS f)) (gw_name (by simp)) ?_)
  refine di_any (de_methZ hE ?_)
  wtm_at "v"
  refine mp_obj (by rfl) ?_
  refine da_nil ⟨ls, fs, rs, rfl, .inl ?_⟩
  refine ⟨_, _, .lst _, trivial, rfl, by omega, fun i f hf => ?_, .inl ?_⟩
  · have hfm := List.mem_of_getElem? hf
    refine dg_name ⟨rfl, de_call XAg.none ?_⟩
    wtm_at "E"
    exact ⟨f, rfl, hg.fe f hfm, rfl, rfl⟩
  have hfin : ∀ PE' : D → Mu → Prop, PE' = (fnE μ.length P).rt → Fresh ((textsH ls fs rs).map D.str) μ PE' := fun PE' e => by
    subst e
    rcases h with h | h
    · exact .inl (ret_same0 (Nat.le_refl _) hm (clL_map fun s _ => rfl) h)
    · refine .inr (ret_same0 (by simp) (hm.app (clL_map fun s _ => rfl)) (by simp [D.cl]) h)
  refine ds_ret (de_op (de_op ?_))
  refine de_lstZ ?_
  wtm_at "E"
  refine ro_addL (.lst _) (.lst _) (by simp; omega) ?_
  refine lc_each rs (rowD K) (fun r => .str (rowS r)) (gw_name (by simp)) ?_
  refine di_any (de_methZ hE ?_)
  wtm_at "v"
  refine mp_obj (by rfl) ?_
  refine da_nil ⟨ls, fs, rs, rfl, .inl ?_⟩
  refine ⟨_, _, .lst _, trivial, rfl, by omega, fun i r hr => ?_, .inl ?_⟩
  · have hrm := List.mem_of_getElem? hr
    have hgr := hg.rw r hrm
    have m0 := hgr.m0; have m1 := hgr.m1; have t0 := hgr.t0; have t1 := hgr.t1; have b0 := hgr.b0; have b1 := hgr.b1
    refine dg_name ⟨rfl, ?_⟩
    refine de_bm ?_
    wtm_at "E"
    refine ⟨ty_str, da_cons ?_⟩
    refine lc_map strF (gw_name (by simp)) ?_
    refine di_any (de_toldR r XAg.none (fun P' hP => by wtm_at "v"; exact hP) ?_)
    refine ⟨_, _, .tup _, trivial, by unfold partsR; split <;> simp, fun j d hd => ?_, fun out ho => ?_⟩
    · refine dg_name ⟨rfl, ?_⟩
      wtm_at "E"
      rcases partsR_get hgr hd with ⟨x, rfl⟩ | ⟨n, rfl, n0, n1⟩
      · exact rc_strAS ⟨rfl, rfl⟩
      · exact rc_strAI (num_log (by omega) n1) ⟨rfl, rfl⟩
    · rw [strF_row] at ho
      subst ho
      exact da_nil (rm_join (ys := rowW r) (.lst _) (row_bd hgr).1 ⟨rfl, rfl⟩)
  · rcases hfin _ rfl with h | h
    · refine ro_addL (.lst _) (.lst _) (by simp; omega) ?_
      have e : (([D.str (Txt.join " " (calW ls))] ++ fs.map fun f => D.str (feastS f)) ++ rs.map fun r => D.str (rowS r)) = (textsH ls fs rs).map D.str := by
        unfold textsH calS
        simp [Function.comp_def]
      rw [e]
      exact h
    · refine ro_addLO (.lst _) (.lst _) (by simp; omega) ?_
      have e : (([D.str (Txt.join " " (calW ls))] ++ fs.map fun f => D.str (feastS f)) ++ rs.map fun r => D.str (rowS r)) = (textsH ls fs rs).map D.str := by
        unfold textsH calS
        simp [Function.comp_def]
      rw [e]
      exact h
end
theorem de_keptS {K : PySem.W.Frag} {B : Bs} {ρ : En} {μ : Mu} {P : D → Mu → Prop} {k : Option (List Int)} {i j : Nat} (hi : ρ[i]? = some (some (keptD k))) (hj : j < ρ.length) (hk : KeptO k) (h : P (.str (keptS k)) μ) : DE K B (tIf (tB (tIsN (tVar i))) (tC (.str "all")) (tBM K "str" (rJoin K) (tC (.str ",")) (tCons (tLc (iAny K (tVar i)) (gName j) tYes (tCB rStrI (tCons (tVar j) tNil)) [j]) tNil))) ρ μ P := by
  refine de_if (dt_B (de_isNZ (de_var hi ?_)))
  cases k with
  | none => exact np_t ⟨true, rfl, fun _ => de_str h, fun z => absurd z (by simp)⟩
  | some ys =>
    have hkb := (kept_bd hk).2.2 ys rfl
    have hko := hk ys rfl
    have hmo := hko.most
    refine np_lst ⟨false, rfl, fun z => absurd z (by simp), fun _ => ?_⟩
    refine de_bm (de_str ⟨ty_str, da_cons ?_⟩)
    refine lc_map strF (gw_name (by simp)) ?_
    refine di_any (de_var hi ?_)
    refine ⟨_, _, .lst _, trivial, by rw [List.length_map]; omega, fun n d hd => ?_, fun out ho => ?_⟩
    · obtain ⟨y, hy, rfl⟩ := intsG hd
      have hy1 := hko.each y (List.mem_of_getElem? hy)
      refine dg_name ⟨rfl, de_cb (da_cons (de_var ?_ (da_nil (rc_strI (num_log (by omega) (by omega)) ⟨rfl, rfl⟩))))⟩
      rw [List.getElem?_set, if_pos rfl, if_pos (by simp [wipeD]; omega)]
    · refine da_nil (rm_join (ys := ys.map numS) (by rw [← ho, List.map_map, List.map_map]; exact .lst _) (Nat.le_trans hkb (by decide)) h)
/-! ### a feast's places in a year, a year's sorts -/
def spanK (ls : List Int) (f : FeT) (y : Int) : Int × Int := match spanOf ls f y with
  | none => (0, 0)
  | some p => (p.1 - firstY ls y, p.2 - firstY ls y)
def sortsL (ls : List Int) (fs : List FeT) (name : Str) (j : Int) : List (Srt × Str) := (List.range (longY ls j).toNat).map fun x : Nat => sortY ls fs name j (x : Int)
/-! ### the sorts of a year's days, painted; counted -/
theorem spanK_eq (ls : List Int) (f : FeT) (y : Int) : spanK ls f y = if keptIn ls f y = true ∧ 0 ≤ (if 0 ≤ f.place then f.place else longY ls y + f.place) ∧ (if 0 ≤ f.place then f.place else longY ls y + f.place) < longY ls y then ((if 0 ≤ f.place then f.place else longY ls y + f.place), min ((if 0 ≤ f.place then f.place else longY ls y + f.place) + f.lasts) (longY ls y)) else (0, 0) := by
  unfold spanK spanOf
  cases keptIn ls f y with
  | false => simp
  | true =>
    simp only [Bool.true_eq_false, if_false, true_and]
    generalize (if 0 ≤ f.place then f.place else longY ls y + f.place) = z
    by_cases hz : 0 ≤ z ∧ z < longY ls y
    · rw [if_pos hz, if_pos hz]
      simp only [Prod.mk.injEq]
      exact ⟨by omega, by omega⟩
    · rw [if_neg hz, if_neg hz]
theorem spanK_bd {ls : List Int} {f : FeT} {y : Int} (hg : GCal ls) (hf : GFe f) (hy : 0 ≤ y) : 0 ≤ (spanK ls f y).1 ∧ (spanK ls f y).1 ≤ (spanK ls f y).2 ∧ (spanK ls f y).2 ≤ longY ls y := by
  have h1 := hf.l0
  have h2 := longY_bd hg hy
  rw [spanK_eq]
  generalize (if 0 ≤ f.place then f.place else longY ls y + f.place) = z
  split
  · rename_i h
    obtain ⟨_, h3, h4⟩ := h
    simp only
    omega
  · simp only
    omega
theorem chain_count {S : Int → Srt × Str} (p : Srt → Bool) : ∀ {gs : List SgT} {a b : Int}, Chain S a gs b → (((List.range (b - a).toNat).countP fun x : Nat => p (S (a + x)).1 : Nat) : Int) = ((gs.filter fun g => p g.w).map fun g => g.b - g.a).sum
  | [], a, b, h => by
    have : a = b := h
    subst this
    simp
  | g :: r, a, b, ⟨c1, c2, c3, c4⟩ => by
    have hle := c4.le
    have ih := chain_count p c4
    have e : (b - a).toNat = (g.b - g.a).toNat + (b - g.b).toNat := by omega
    rw [e, List.range_add, List.countP_append, Int.natCast_add, List.countP_map]
    have e2 : ((fun x : Nat => p (S (a + (x : Int))).1) ∘ fun x => (g.b - g.a).toNat + x) = fun x : Nat => p (S (g.b + x)).1 := by
      funext x
      simp only [Function.comp]
      congr 3
      omega
    rw [e2, ih]
    have e3 : (List.range (g.b - g.a).toNat).countP (fun x : Nat => p (S (a + x)).1) = if p g.w = true then (g.b - g.a).toNat else 0 := by
      have : ∀ n : Nat, (n : Int) ≤ g.b - g.a → (List.range n).countP (fun x : Nat => p (S (a + x)).1) = if p g.w = true then n else 0 := by
        intro n hn
        induction n with
        | zero => simp
        | succ n ih =>
          rw [List.range_succ, List.countP_append, ih (by omega), List.countP_singleton, c3 (a + n) (by omega) (by omega)]
          cases p g.w <;> simp
      exact this _ (by omega)
    rw [e3, List.filter_cons]
    cases p g.w with
    | true => simp; omega
    | false => simp
def sumL (ls : List Int) (fs : List FeT) (name : Str) (p : Srt → Bool) (n : Nat) : Nat := (((List.range n).map fun j : Nat => sortsL ls fs name (j : Int)).flatten).countP fun z => p z.1
theorem sumL_charts {ls : List Int} {fs : List FeT} (hg : GCal ls) (hf : ∀ f ∈ fs, GFe f) (name : Str) (p : Srt → Bool) : ∀ n : Nat, n ≤ ls.length → (sumL ls fs name p n : Int) = (((chartsFor ls fs name).take n).map fun c => ((c.filter fun g => p g.w).map fun g => g.b - g.a).sum).sum
  | 0, _ => by simp [sumL]
  | n + 1, h => by
    have ih := sumL_charts hg hf name p n (by omega)
    have hc := (chartOf_ok hg hf (name := name) (y := (n : Int)) (by omega)).1
    have e := chain_count p hc
    rw [take_snoc (chartsFor_get (by omega)), List.map_append, List.sum_append, ← ih]
    unfold sumL
    rw [List.range_succ, List.map_append, List.flatten_append, List.countP_append]
    simp only [List.map_cons, List.map_nil, List.flatten_cons, List.flatten_nil, List.append_nil, List.sum_cons, List.sum_nil, Int.add_zero, Int.natCast_add]
    rw [← e]
    unfold sortsL
    rw [List.countP_map]
    congr 2
    rw [show (longY ls (n : Int) - 0) = longY ls (n : Int) by omega]
    congr 1
    funext x
    simp
/-! ### houses drawn with enough free days -/
/-- how many days feasts may take from the row in one turn, at most -/
def keptN (n : Nat) (f : FeT) : Int := match f.kept with
  | none => (n : Int)
  | some ys => (ys.length : Int)
def lessOf (n : Nat) (fs : List FeT) (name : Str) : Int := (fs.map fun f => if name ∈ f.acts.map (·.1) then f.lasts * keptN n f else 0).sum
def hitF (ls : List Int) (name : Str) (j : Int) (f : FeT) (x : Nat) : Bool := decide (name ∈ f.acts.map (·.1)) && decide ((spanK ls f j).1 ≤ (x : Int)) && decide ((x : Int) < (spanK ls f j).2)
theorem countP_or {α : Type} (p q : α → Bool) : ∀ xs : List α, xs.countP (fun x => p x || q x) ≤ xs.countP p + xs.countP q
  | [] => by simp
  | x :: xs => by
    have := countP_or p q xs
    simp only [List.countP_cons]
    cases p x <;> cases q x <;> simp <;> omega
theorem hit_any {ls : List Int} {fs : List FeT} {name : Str} {j : Int} {x : Nat} (h : (sortY ls fs name j x).1 ≠ .free) : fs.any (fun f => hitF ls name j f x) = true := by
  have key : ∀ {w : Srt} {s : SpT}, (spansOf ls fs name j).find? (fun s => s.on w x) = some s → fs.any (fun f => hitF ls name j f x) = true := fun {w s} e => by
    have h1 := List.mem_of_find?_eq_some e
    have h2 := List.find?_some e
    unfold spansOf at h1
    obtain ⟨f, hf, hs⟩ := List.mem_filterMap.mp h1
    refine List.any_eq_true.mpr ⟨f, hf, ?_⟩
    unfold spanFor at hs
    cases q : spanOf ls f j with
    | none => rw [q] at hs; cases hs
    | some p =>
      cases q2 : putOf f name with
      | none => rw [q, q2] at hs; cases hs
      | some w' =>
        rw [q, q2] at hs
        cases hs
        unfold SpT.on at h2
        simp only [Bool.and_eq_true, decide_eq_true_eq] at h2
        unfold hitF spanK
        rw [q]
        simp only [Bool.and_eq_true, decide_eq_true_eq]
        refine ⟨⟨?_, h2.2.1⟩, h2.2.2⟩
        unfold putOf at q2
        cases q3 : f.acts.find? (fun p => decide (p.1 = name)) with
        | none => rw [q3] at q2; cases q2
        | some a =>
          have := List.find?_some q3
          exact List.mem_map.mpr ⟨a, List.mem_of_find?_eq_some q3, by simpa using this⟩
  unfold sortY sortAt at h
  cases e1 : (spansOf ls fs name j).find? (fun s => s.on .rest x) with
  | some s => exact key e1
  | none =>
    rw [e1] at h
    simp only at h
    cases e2 : (spansOf ls fs name j).find? (fun s => s.on .off x) with
    | some s => exact key e2
    | none => rw [e2] at h; exact absurd rfl h
theorem count_between (a b : Int) (hab : a ≤ b) : ∀ n : Nat, (((List.range n).countP fun x : Nat => decide (a ≤ (x : Int)) && decide ((x : Int) < b) : Nat) : Int) ≤ max 0 (min (b - a) ((n : Int) - a))
  | 0 => by simp; omega
  | n + 1 => by
    have ih := count_between a b hab n
    rw [List.range_succ, List.countP_append, List.countP_singleton]
    by_cases h : a ≤ (n : Int) ∧ (n : Int) < b
    · have : (decide (a ≤ (n : Int)) && decide ((n : Int) < b)) = true := by simp [h]
      rw [this]
      simp only [if_true]
      omega
    · have : (decide (a ≤ (n : Int)) && decide ((n : Int) < b)) = false := by
        simp only [Bool.and_eq_false_iff, decide_eq_false_iff_not]
        omega
      rw [this]
      simp only [Bool.false_eq_true, if_false]
      omega
def shareF (ls : List Int) (name : Str) (j : Int) (f : FeT) : Int := if name ∈ f.acts.map (·.1) then (if keptIn ls f j = true then f.lasts else 0) else 0
theorem hit_count {ls : List Int} {f : FeT} {name : Str} {j : Int} (hg : GCal ls) (hf : GFe f) (hj : 0 ≤ j) (n : Nat) : (((List.range n).countP (hitF ls name j f) : Nat) : Int) ≤ shareF ls name j f := by
  have hb := spanK_bd hg hf hj
  have l0 := hf.l0
  unfold shareF
  by_cases hn : name ∈ f.acts.map (·.1)
  · rw [if_pos hn]
    have e : hitF ls name j f = fun x : Nat => decide ((spanK ls f j).1 ≤ (x : Int)) && decide ((x : Int) < (spanK ls f j).2) := by
      funext x
      unfold hitF
      rw [decide_eq_true hn, Bool.true_and]
    rw [e]
    have h1 := count_between (spanK ls f j).1 (spanK ls f j).2 hb.2.1 n
    have h2 : (spanK ls f j).2 - (spanK ls f j).1 ≤ if keptIn ls f j = true then f.lasts else 0 := by
      rw [spanK_eq]
      generalize (if 0 ≤ f.place then f.place else longY ls j + f.place) = z
      split
      · rename_i h
        rw [if_pos h.1]
        simp only
        omega
      · simp only
        split <;> omega
    omega
  · rw [if_neg hn]
    have e : hitF ls name j f = fun _ => false := by
      funext x
      unfold hitF
      rw [decide_eq_false hn]
      rfl
    rw [e]
    simp
theorem hits_count {ls : List Int} {name : Str} {j : Int} (hg : GCal ls) (hj : 0 ≤ j) (n : Nat) : ∀ {fs : List FeT}, (∀ f ∈ fs, GFe f) → (((List.range n).countP (fun x => fs.any fun f => hitF ls name j f x) : Nat) : Int) ≤ (fs.map (shareF ls name j)).sum
  | [], _ => by simp
  | f :: fs, h => by
    have ih := hits_count (name := name) hg hj n (fs := fs) (fun g hg' => h g (by simp [hg']))
    have h1 := hit_count (name := name) hg (h f (by simp)) hj n
    have h2 := countP_or (hitF ls name j f) (fun x => fs.any fun f => hitF ls name j f x) (List.range n)
    simp only [List.any_cons, List.map_cons, List.sum_cons]
    omega
theorem free_year {ls : List Int} {fs : List FeT} {name : Str} {j : Int} (hg : GCal ls) (hf : ∀ f ∈ fs, GFe f) (hj : 0 ≤ j) : longY ls j - (fs.map (shareF ls name j)).sum ≤ (((sortsL ls fs name j).countP fun z => decide (z.1 = .free) : Nat) : Int) := by
  have hl := longY_bd hg hj
  have h1 := hits_count (name := name) hg hj (longY ls j).toNat hf
  have h2 : ((List.range (longY ls j).toNat).countP fun x => !fs.any fun f => hitF ls name j f x) ≤ (sortsL ls fs name j).countP fun z => decide (z.1 = .free) := by
    unfold sortsL
    rw [List.countP_map]
    refine List.countP_mono_left fun x _ h => ?_
    simp only [Function.comp, decide_eq_true_eq]
    rcases hs : (sortY ls fs name j x).1 with _ | _ | _
    · rfl
    all_goals
      have := hit_any (ls := ls) (fs := fs) (name := name) (j := j) (x := x) (by rw [hs]; simp)
      rw [this] at h
      cases h
  have h3 := List.length_eq_countP_add_countP (l := List.range (longY ls j).toNat) (fun x => fs.any fun f => hitF ls name j f x)
  rw [List.length_range] at h3
  have h4 : (List.countP (fun a => decide ¬(fs.any fun f => hitF ls name j f a) = true) (List.range (longY ls j).toNat)) = ((List.range (longY ls j).toNat).countP fun x => !fs.any fun f => hitF ls name j f x) := by
    congr 1
    funext x
    cases fs.any fun f => hitF ls name j f x <;> simp
  omega
theorem share_years {ls : List Int} {f : FeT} {name : Str} (hf : GFe f) : ∀ n : Nat, n ≤ ls.length → ((List.range n).map fun j : Nat => shareF ls name (j : Int) f).sum ≤ if name ∈ f.acts.map (·.1) then f.lasts * (match f.kept with | none => (n : Int) | some ys => (((List.range n).countP fun j : Nat => decide ((j : Int) ∈ ys) : Nat) : Int)) else 0
  | 0, _ => by
    have l0 := hf.l0
    cases hk : f.kept <;> simp [hk]
  | n + 1, h => by
    have ih := share_years (name := name) hf n (Nat.le_of_succ_le h)
    have l0 := hf.l0
    rw [List.range_succ, List.map_append, List.sum_append]
    simp only [List.map_cons, List.map_nil, List.sum_cons, List.sum_nil, Int.add_zero]
    unfold shareF at ih ⊢
    have hmod : (n : Int) % (ls.length : Int) = n := Int.emod_eq_of_lt (by omega) (by omega)
    by_cases hn : name ∈ f.acts.map (·.1)
    · simp only [if_pos hn] at ih ⊢
      unfold keptIn at ih ⊢
      cases hk : f.kept with
      | none =>
        simp only [hk, if_true] at ih ⊢
        rw [show ((n + 1 : Nat) : Int) = (n : Int) + 1 by omega, Int.mul_add, Int.mul_one]
        omega
      | some ys =>
        simp only [hk] at ih ⊢
        rw [hmod, List.countP_append, List.countP_singleton]
        by_cases hy : (n : Int) ∈ ys
        · simp only [hy, decide_true, if_true]
          rw [show (((List.range n).countP (fun j : Nat => decide ((j : Int) ∈ ys)) + 1 : Nat) : Int) = (((List.range n).countP (fun j : Nat => decide ((j : Int) ∈ ys)) : Nat) : Int) + 1 by omega, Int.mul_add, Int.mul_one]
          omega
        · simp only [hy, decide_false, Bool.false_eq_true, if_false, Nat.add_zero, Int.add_zero]
          exact ih
    · simp only [if_neg hn] at ih ⊢
      omega
theorem share_all {ls : List Int} {f : FeT} {name : Str} (hf : GFe f) : ((List.range ls.length).map fun j : Nat => shareF ls name (j : Int) f).sum ≤ if name ∈ f.acts.map (·.1) then f.lasts * keptN ls.length f else 0 := by
  have h := share_years (name := name) hf ls.length (Nat.le_refl _)
  have l0 := hf.l0
  unfold keptN
  by_cases hn : name ∈ f.acts.map (·.1)
  · rw [if_pos hn] at h ⊢
    cases hk : f.kept with
    | none => rw [hk] at h; exact h
    | some ys =>
      rw [hk] at h
      simp only at h ⊢
      have : (List.range ls.length).countP (fun j : Nat => decide ((j : Int) ∈ ys)) ≤ ys.length := by
        rw [List.countP_eq_length_filter]
        have := nodup_len (xs := ((List.range ls.length).filter fun j : Nat => decide ((j : Int) ∈ ys)).map fun j : Nat => (j : Int)) (ys := ys) ((List.nodup_range.sublist List.filter_sublist).map (fun j : Nat => (j : Int)) (fun a b hab e => hab (by have e : (a : Int) = b := e; omega))) fun x hx => by
          obtain ⟨j, hj, rfl⟩ := List.mem_map.mp hx
          simpa using (List.mem_filter.mp hj).2
        rw [List.length_map] at this
        exact this
      exact Int.le_trans h (Int.mul_le_mul_of_nonneg_left (by omega) (by omega))
  · rw [if_neg hn] at h ⊢
    exact h
theorem sum_swap {α : Type} (F : Nat → α → Int) (fs : List α) : ∀ n : Nat, ((List.range n).map fun j => (fs.map fun f => F j f).sum).sum = (fs.map fun f => ((List.range n).map fun j => F j f).sum).sum
  | 0 => by
    induction fs with
    | nil => rfl
    | cons f fs ih => simpa using ih
  | n + 1 => by
    rw [List.range_succ, List.map_append, List.sum_append, sum_swap F fs n]
    simp only [List.map_cons, List.map_nil, List.sum_cons, List.sum_nil, Int.add_zero]
    induction fs with
    | nil => rfl
    | cons f fs ih =>
      simp only [List.map_cons, List.sum_cons, List.map_append, List.sum_append, List.map_nil, List.sum_nil] at ih ⊢
      omega
theorem sum_le_map {α : Type} {F G : α → Int} : ∀ {xs : List α}, (∀ x ∈ xs, F x ≤ G x) → (xs.map F).sum ≤ (xs.map G).sum
  | [], _ => by simp
  | x :: xs, h => by
    have := sum_le_map (F := F) (G := G) (xs := xs) fun y hy => h y (by simp [hy])
    have := h x (by simp)
    simp only [List.map_cons, List.sum_cons]
    omega
theorem long_sum (ls : List Int) : ((List.range ls.length).map fun j : Nat => longY ls (j : Int)).sum = ls.sum := by
  congr 1
  refine List.ext_getElem (by simp) fun i h1 h2 => ?_
  simp only [List.getElem_map, List.getElem_range]
  unfold longY
  rw [Int.emod_eq_of_lt (by omega) (by omega), Int.toNat_natCast, List.getD_eq_getElem?_getD, List.getElem?_eq_getElem h2]
  rfl
theorem sumL_years (ls : List Int) (fs : List FeT) (name : Str) (p : Srt → Bool) : ∀ n : Nat, (sumL ls fs name p n : Int) = ((List.range n).map fun j : Nat => (((sortsL ls fs name (j : Int)).countP fun z => p z.1 : Nat) : Int)).sum
  | 0 => rfl
  | n + 1 => by
    have ih := sumL_years ls fs name p n
    unfold sumL at ih ⊢
    rw [List.range_succ, List.map_append, List.flatten_append, List.countP_append, List.map_append, List.sum_append, ← ih]
    simp
theorem free_least {ls : List Int} {fs : List FeT} (hg : GCal ls) (hf : ∀ f ∈ fs, GFe f) (name : Str) : ls.sum - lessOf ls.length fs name ≤ freeT ls fs name := by
  have h1 := sumL_charts hg hf name (fun w => decide (w = .free)) ls.length (Nat.le_refl _)
  rw [List.take_of_length_le (by rw [chartsFor_len]; exact Nat.le_refl _)] at h1
  have h2 : freeT ls fs name = (sumL ls fs name (fun w => decide (w = .free)) ls.length : Int) := h1.symm
  rw [h2, sumL_years]
  have h3 : ((List.range ls.length).map fun j : Nat => longY ls (j : Int) - (fs.map (shareF ls name (j : Int))).sum).sum ≤ ((List.range ls.length).map fun j : Nat => (((sortsL ls fs name (j : Int)).countP fun z => decide (z.1 = .free) : Nat) : Int)).sum := sum_le_map fun j _ => free_year hg hf (by omega)
  have h4 : ((List.range ls.length).map fun j : Nat => longY ls (j : Int) - (fs.map (shareF ls name (j : Int))).sum).sum = ((List.range ls.length).map fun j : Nat => longY ls (j : Int)).sum - ((List.range ls.length).map fun j : Nat => (fs.map (shareF ls name (j : Int))).sum).sum := by
    generalize List.range ls.length = R
    induction R with
    | nil => rfl
    | cons j R ih =>
      simp only [List.map_cons, List.sum_cons] at ih ⊢
      omega
  rw [h4, long_sum] at h3
  have h5 := sum_swap (fun j f => shareF ls name ((j : Nat) : Int) f) fs ls.length
  have h6 : (fs.map fun f => ((List.range ls.length).map fun j : Nat => shareF ls name (j : Int) f).sum).sum ≤ lessOf ls.length fs name := sum_le_map fun f hfm => share_all (hf f hfm)
  have h7 : ((List.range ls.length).map fun j : Nat => (fs.map (shareF ls name (j : Int))).sum).sum = ((List.range ls.length).map fun j => (fs.map fun f => shareF ls name ((j : Nat) : Int) f).sum).sum := rfl
  omega
theorem due_most {ls : List Int} {fs : List FeT} (hg : GCal ls) (hf : ∀ f ∈ fs, GFe f) (name : Str) : dueT ls fs name ≤ ls.sum := by
  have h1 := sumL_charts hg hf name (fun w => !decide (w = .rest)) ls.length (Nat.le_refl _)
  rw [List.take_of_length_le (by rw [chartsFor_len]; exact Nat.le_refl _)] at h1
  have h2 : dueT ls fs name = (sumL ls fs name (fun w => !decide (w = .rest)) ls.length : Int) := h1.symm
  rw [h2, sumL_years, ← long_sum ls]
  refine sum_le_map fun j _ => ?_
  have hl := longY_bd hg (y := (j : Int)) (by omega)
  have : (sortsL ls fs name (j : Int)).countP (fun z => !decide (z.1 = .rest)) ≤ (sortsL ls fs name (j : Int)).length := List.countP_le_length
  have e : (sortsL ls fs name (j : Int)).length = (longY ls j).toNat := by unfold sortsL; rw [List.length_map, List.length_range]
  omega
theorem keeps_up {ls : List Int} {fs : List FeT} (hg : GCal ls) (hf : ∀ f ∈ fs, GFe f) (name : Str) {most : Int} (h1 : 1 ≤ most) (h : ls.sum ≤ most * (ls.sum - lessOf ls.length fs name)) : dueT ls fs name ≤ freeT ls fs name * most := by
  have a := free_least hg hf name
  have b := due_most hg hf name
  have c := Int.mul_le_mul_of_nonneg_left a (show 0 ≤ most by omega)
  rw [Int.mul_comm most (freeT ls fs name)] at c
  omega
/-! ### houses drawn for the texts: contracts -/
def feLT (f : FeT) : D := .lst [.str f.name, .int f.place, .int f.lasts, keptD f.kept, actsD f.acts]
def lineL (r : RwT) : D := .lst (partsR r)
def partsH (ls : List Int) (fs : List FeT) (rs : List RwT) : D := .lst [intsD ls, .lst (fs.map feLT), .lst (rs.map lineL)]
def c_law_name (K : PySem.W.Frag) : CT := fun ds μ P PX => ∃ (k k2 : Nat) (c : Int) (ns : List Int), ds = [.own k] ∧ Hd k k2 c ns μ ∧ c < 2 ^ 38 ∧ ∀ (s : Str) (c' : Int) (ns' : List Int), nameOk s → c ≤ c' → c' ≤ c + 10 → ns'.length = ns.length → P (.str s) (hold μ k k2 c' ns')
def c_law_names (K : PySem.W.Frag) : CT := fun ds μ P PX => ∃ (k k2 : Nat) (c : Int) (ns : List Int) (m : Int), ds = [.own k, .int m] ∧ Hd k k2 c ns μ ∧ c < 2 ^ 37 ∧ 0 ≤ m ∧ m ≤ 8 ∧ ∀ (ws : List Str) (c' : Int) (ns' : List Int), (ws.length : Int) = m → (∀ w ∈ ws, nameOk w) → ws.Nodup → c ≤ c' → c' ≤ c + 80 → ns'.length = ns.length → P (.lst (ws.map D.str)) (hold μ k k2 c' ns')
def c_law_feast (K : PySem.W.Frag) : CT := fun ds μ P PX => ∃ (k k2 : Nat) (c : Int) (ns : List Int) (name : Str) (ls : List Int) (ws : List Str), ds = [.own k, .str name, intsD ls, .lst (ws.map D.str)] ∧ Hd k k2 c ns μ ∧ c < 2 ^ 37 ∧ nameOk name ∧ GCal ls ∧ (∀ w ∈ ws, nameOk w) ∧ ws.Nodup ∧ 0 < ws.length ∧ ws.length ≤ 4 ∧ ∀ (f : FeT) (c' : Int) (ns' : List Int), GFe f → f.name = name → (∀ ys, f.kept = some ys → ∀ y ∈ ys, y < ls.length) → (∀ p ∈ f.acts, p.1 ∈ ws) → c ≤ c' → c' ≤ c + 100 → ns'.length = ns.length → P (feLT f) (hold μ k k2 c' ns')
def c_law_line (K : PySem.W.Frag) : CT := fun ds μ P PX => ∃ (k k2 : Nat) (c : Int) (ns : List Int) (word : Str) (ls : List Int) (fs : List FeT), ds = [.own k, .str word, intsD ls, .lst (fs.map feLT)] ∧ Hd k k2 c ns μ ∧ c < 2 ^ 37 ∧ nameOk word ∧ GCal ls ∧ (∀ f ∈ fs, GFe f) ∧ fs.length ≤ 8 ∧ ∀ (r : RwT) (c' : Int) (ns' : List Int), GRw r → r.name = word → (r.going = true → ls.sum ≤ r.most * (ls.sum - lessOf ls.length fs word)) → c ≤ c' → c' ≤ c + 20 → ns'.length = ns.length → P (lineL r) (hold μ k k2 c' ns')
def c_law_parts (K : PySem.W.Frag) : CT := fun ds μ P PX => ∃ (k k2 : Nat) (c : Int) (ns : List Int), ds = [.own k] ∧ Hd k k2 c ns μ ∧ c < 2 ^ 36 ∧ ∀ (ls : List Int) (fs : List FeT) (rs : List RwT) (c' : Int) (ns' : List Int), GHs ls fs rs → c ≤ c' → c' ≤ c + 3000 → ns'.length = ns.length → P (partsH ls fs rs) (hold μ k k2 c' ns')
/-- frozen, or a new list behind what came between -/
def FreshE (xs : List D) (μ : Mu) (P : D → Mu → Prop) : Prop := P (.lst xs) μ ∨ ∀ ext : Mu, P (.own (μ ++ ext).length) (μ ++ ext ++ [.lst xs])
def c_law_texts (K : PySem.W.Frag) : CT := fun ds μ P PX => ∃ (ls : List Int) (fs : List FeT) (rs : List RwT), ds = [partsH ls fs rs] ∧ GHs ls fs rs ∧ FreshE ((textsH ls fs rs).map D.str) μ P
def c_law_feast_made (K : PySem.W.Frag) : CT := fun ds μ P PX => ∃ f : FeT, ds = [feLT f] ∧ GFe f ∧ P (feD K f) μ
def c_law_line_made (K : PySem.W.Frag) : CT := fun ds μ P PX => ∃ r : RwT, ds = [lineL r] ∧ GRw r ∧ P (rowD K r) μ
theorem cl_keptT (k : Option (List Int)) (n : Nat) : (keptD k).cl n = true := by
  cases k with
  | none => rfl
  | some ys =>
    simp only [keptD, intsD, D.cl]
    exact clL_map fun x _ => rfl
theorem cl_actsT (ps : List (Str × Str)) (n : Nat) : (actsD ps).cl n = true := by
  simp only [actsD, D.cl]
  exact clL_map fun x _ => rfl
theorem cl_feLT (f : FeT) (n : Nat) : (feLT f).cl n = true := by simp only [feLT, clL, D.cl, cl_keptT, cl_actsT, Bool.and_self]
theorem cl_lineL (r : RwT) (n : Nat) : (lineL r).cl n = true := by
  simp only [lineL, D.cl, partsR]
  split <;> rfl
theorem cl_partsH (ls : List Int) (fs : List FeT) (rs : List RwT) (n : Nat) : (partsH ls fs rs).cl n = true := by
  have h1 : clL (ls.map D.int) n = true := clL_map fun x _ => rfl
  have h2 : clL (fs.map feLT) n = true := clL_map fun x _ => cl_feLT x n
  have h3 : clL (rs.map lineL) n = true := clL_map fun x _ => cl_lineL x n
  simp only [partsH, intsD, clL, D.cl, h1, h2, h3, Bool.and_self]
theorem strs_getT {ss : List Str} {i : Nat} {d : D} (h : (ss.map D.str)[i]? = some d) : ∃ s, ss[i]? = some s ∧ d = .str s := by
  rw [List.getElem?_map] at h
  obtain ⟨s, hs, rfl⟩ := Option.map_eq_some_iff.mp h
  exact ⟨s, hs, rfl⟩
theorem feLT_get {fs : List FeT} {i : Nat} {d : D} (h : (fs.map feLT)[i]? = some d) : ∃ f, fs[i]? = some f ∧ d = feLT f := by
  rw [List.getElem?_map] at h
  obtain ⟨f, hf, rfl⟩ := Option.map_eq_some_iff.mp h
  exact ⟨f, hf, rfl⟩
/-! pop at a place -/
section
variable {K : PySem.W.Frag} {μ : Mu} {P : D → Mu → Prop} {d : D} {ds : List D}
theorem rps_eraseT {G : Hp} {al : List Addr} : ∀ {vs : List V} {ds : List D}, Rps K G al vs ds → ∀ i, Rps K G al (vs.eraseIdx i) (ds.eraseIdx i)
  | _, _, .nil, i => by simp; exact .nil
  | _, _, .cons a t, 0 => t
  | _, _, .cons a t, i + 1 => .cons a (rps_eraseT t i)
theorem rm_popIT {k i : Nat} (hk : μ[k]? = some (.lst ds)) (hi : ds[i]? = some d) (hb : i < 1000) (h : P d (μ.set k (.lst (ds.eraseIdx i)))) : RM K rPopAt (.own k) [.int (i : Int)] μ P := fun G H al v vs A r rs Q hQ => by
  obtain ⟨a, ha, ga, ws, hv, rw'⟩ := A.get hk
  obtain ⟨z, rfl, rz⟩ := rps1 rs
  cases rz
  obtain ⟨u, hu, ru⟩ := rw'.get hi
  cases r with
  | own e =>
    rw [ha] at e; cases e
    obtain ⟨A2, n2⟩ := A.put (o := .lst (ws.eraseIdx i)) (m' := .lst (ds.eraseIdx i)) ha hk (by simp) ⟨ga, _, upd_same, rps_eraseT rw' i⟩
    refine ⟨a, ws, (i : Int), i, u, rfl, rfl, hv, by omega, by omega, ?_, hu, ?_⟩
    · have := (List.getElem?_eq_some_iff.mp hi).1
      have := rw'.length
      unfold seqIndex?
      simp
      omega
    · exact hQ _ _ _ _ _ _ n2 A2 (ru.nx n2) h
end
/-! rising numbers -/
structure RiseT (one : Int) (i : Nat) (ys : List Int) : Prop where
  each : ∀ y ∈ ys, 0 ≤ y ∧ y < i
  up : ∀ (j : Nat) (a b : Int), ys[j]? = some a → ys[j + 1]? = some b → a < b
  met : one < i → one ∈ ys
  len : ys.length ≤ i
theorem RiseT.nil {one : Int} (h : 0 ≤ one) : RiseT one 0 [] := ⟨by simp, by simp, fun h' => by omega, by simp⟩
theorem RiseT.keep {one : Int} {i : Nat} {ys : List Int} (h : RiseT one i ys) : RiseT one (i + 1) (ys ++ [(i : Int)]) := by
  refine ⟨fun y hy => ?_, fun j a b ha hb => ?_, fun hlt => ?_, by simp; exact h.len⟩
  · rcases List.mem_append.mp hy with m | m
    · have := h.each y m; omega
    · simp at m; omega
  · by_cases hj : j + 1 < ys.length
    · rw [List.getElem?_append_left (by omega)] at ha
      rw [List.getElem?_append_left hj] at hb
      exact h.up j a b ha hb
    · rw [List.getElem?_append_right (by omega)] at hb
      have hj2 : j + 1 - ys.length = 0 := by
        have := (List.getElem?_eq_some_iff.mp hb).1
        simp at this; omega
      rw [hj2] at hb
      simp at hb
      subst hb
      rw [List.getElem?_append_left (by omega)] at ha
      exact (h.each a (List.mem_of_getElem? ha)).2
  · by_cases e : one < i
    · exact List.mem_append_left _ (h.met e)
    · have : one = i := by omega
      rw [this]; simp
theorem RiseT.skip {one : Int} {i : Nat} {ys : List Int} (h : RiseT one i ys) (hne : one ≠ i) : RiseT one (i + 1) ys := ⟨fun y hy => by have := h.each y hy; omega, h.up, fun hlt => h.met (by omega), by have := h.len; omega⟩
theorem RiseT.kept {one : Int} {i : Nat} {ys : List Int} (h : RiseT one i ys) (hone : one < i) (hi : i ≤ 20) : KeptOk ys := by
  refine ⟨?_, by have := h.len; omega, fun y hy => by have := h.each y hy; omega, h.up⟩
  exact List.length_pos_of_mem (h.met hone)
theorem rise_all (n : Nat) : ∀ one : Int, 0 ≤ one → RiseT one n ((List.range n).map fun i : Nat => (i : Int)) := fun one h0 => by
  induction n with
  | zero => exact .nil h0
  | succ n ih =>
    rw [List.range_succ, List.map_append]
    exact ih.keep
/-! names that are left -/
theorem erase_perm {α : Type} : ∀ {xs : List α} {i : Nat} {x : α}, xs[i]? = some x → (x :: xs.eraseIdx i).Perm xs
  | [], i, x, h => by simp at h
  | a :: t, 0, x, h => by
    simp at h
    subst h
    exact .refl _
  | a :: t, i + 1, x, h => by
    have h : t[i]? = some x := by simpa using h
    exact (List.Perm.swap a x _).trans (.cons a (erase_perm h))
theorem erase_parts {α : Type} {xs : List α} {i : Nat} {x : α} (hi : xs[i]? = some x) (nd : xs.Nodup) : (xs.eraseIdx i).Nodup ∧ x ∉ xs.eraseIdx i ∧ (∀ y ∈ xs.eraseIdx i, y ∈ xs) ∧ (xs.eraseIdx i).length + 1 = xs.length := by
  have hp := erase_perm hi
  have h2 := (hp.nodup_iff).mpr nd
  obtain ⟨h3, h4⟩ := List.nodup_cons.mp h2
  refine ⟨h4, h3, fun y hy => hp.mem_iff.mp (List.mem_cons_of_mem _ hy), ?_⟩
  have := hp.length_eq
  rw [List.length_cons] at this
  exact this
theorem acts_addT {ps : List (Str × Str)} {n s : Str} (h : ActsOk ps) (hl : ps.length < 4) (hn : nameOk n) (hs : s = "off" ∨ s = "rest") (hnot : n ∉ ps.map (·.1)) : ActsOk (ps ++ [(n, s)]) := by
  refine ⟨by simp; omega, fun p hp => ?_, ?_⟩
  · rcases List.mem_append.mp hp with m | m
    · exact h.each p m
    · simp at m; subst m; exact ⟨hn, hs⟩
  · rw [List.map_append, List.nodup_append]
    refine ⟨h.nd, by simp, fun a ha b hb => ?_⟩
    simp at hb
    subst hb
    exact fun e => hnot (e ▸ ha)
def altsT : List Str := ["zz", "q", "yy", "w", "xx", "v", "uu", "t", "ss"]
theorem alts_okT : ∀ s ∈ altsT, nameOk s := by decide +kernel
theorem alts_restT (ws : List Str) (h : ws.length ≤ 8) : ∃ s t, altsT.filter (fun s => !decide (s ∈ ws)) = s :: t := by
  cases e : altsT.filter (fun s => !decide (s ∈ ws)) with
  | cons s t => exact ⟨s, t, rfl⟩
  | nil =>
    exfalso
    rw [List.filter_eq_nil_iff] at e
    have := nodup_len (xs := altsT) (ys := ws) (by decide +kernel) fun x hx => by simpa using e x hx
    have h9 : altsT.length = 9 := rfl
    omega
theorem lessOf_succ {n : Nat} {fs : List FeT} {name : Str} {i : Nat} {f : FeT} (h : fs[i]? = some f) : lessOf n (fs.take (i + 1)) name = lessOf n (fs.take i) name + if name ∈ f.acts.map (·.1) then f.lasts * keptN n f else 0 := by
  unfold lessOf
  rw [List.take_succ, h, List.map_append, List.sum_append]
  simp
theorem keptL_bd {n : Nat} {f : FeT} (hf : GFe f) (hn : n ≤ 20) : 0 ≤ keptN n f ∧ keptN n f ≤ 20 := by
  unfold keptN
  cases hk : f.kept with
  | none => exact ⟨by simp, by simp; omega⟩
  | some ys =>
    have := (hf.kept ys hk).most
    exact ⟨by simp, by simp; omega⟩
def t_law_name (K : PySem.W.Frag) (E : XK) : TS :=
    (tSeq (tAsg (tLst (tCons (tC (.str "off")) (tCons (tC (.str "rest")) (tCons (tC (.str "free")) (tCons (tC (.str "put")) (tCons (tC (.str "on")) (tCons (tC (.str "never")) (tCons (tC (.str "undo")) (tCons (tC (.str "going")) (tCons (tC (.str "feast")) (tCons (tC (.str "all")) (tCons (tC (.str "yearly")) (tCons (tC (.str "calendar")) (tCons (tC (.str "log")) tNil)))))))))))))) (gName 1))
      (tSeq (tAsg (tCall (spD K (c_law_draw K)) [] E (tCons (tVar 0) (tCons (tC (.int 40)) tNil))) (gName 2))
      (tSeq (tIfS (tTest (tOp (rI0 fun i j => .bl (decide (i < j))) (tVar 2) (tC (.int 13)))) (tRet (tOp (rIx K) (tVar 1) (tVar 2))) tNext)
      (tSeq (tAsg (tC (.str "abcdefghijklmnopqrstuvwxyz")) (gName 3))
      (tRet (tBM K "str" (rJoin K) (tC (.str "")) (tCons (tLc (iRng1 (tCons (tOp (rAddA K) (tC (.int 1)) (tCall (spD K (c_law_draw K)) [] E (tCons (tVar 0) (tCons (tC (.int 8)) tNil)))) tNil)) (gName 4) tYes (tOp (rIx K) (tVar 3) (tCall (spD K (c_law_draw K)) [] E0 (tCons (tVar 0) (tCons (tC (.int 26)) tNil)))) [4]) tNil)))))))
def t_law_names (K : PySem.W.Frag) (E : XK) : TS :=
    (tSeq (tAsg (tLst tNil) (gName 2))
      (tSeq (tFor (iRng1 (tCons (tVar 1) tNil)) (gName 3) (tSeq (tAsg (tCall (spD K (c_law_name K)) [] E (tCons (tVar 0) tNil)) (gName 4))
      (tSeq (tIfS (tTest (tOp (rInA K) (tVar 4) (tVar 2))) (tAsg (tOp (rIx K) (tLc (iAny K (tLst (tCons (tC (.str "zz")) (tCons (tC (.str "q")) (tCons (tC (.str "yy")) (tCons (tC (.str "w")) (tCons (tC (.str "xx")) (tCons (tC (.str "v")) (tCons (tC (.str "uu")) (tCons (tC (.str "t")) (tCons (tC (.str "ss")) tNil))))))))))) (gName 5) (tTest (tOp (rNotInA K) (tVar 5) (tVar 2))) (tVar 5) [5]) (tC (.int 0))) (gName 4)) tNext)
      (tDrop (tBM K "list" rAppend (tVar 2) (tCons (tVar 4) tNil))))))
      (tRet (tVar 2))))
def t_law_feast (K : PySem.W.Frag) (E : XK) : TS :=
    (tSeq (tAsg (tCall (spD K (c_law_draw K)) [] E (tCons (tVar 0) (tCons (tC (.int 6)) tNil))) (gName 4))
      (tSeq (tPar 5 6 (tCons (tCall (spD K (c_law_draw K)) [] E (tCons (tVar 0) (tCons (tC (.int 400)) tNil))) (tCons (tCall (spD K (c_law_draw K)) [] E (tCons (tVar 0) (tCons (tCB (rMaxA K) (tCons (tVar 2) tNil)) tNil))) tNil)))
      (tSeq (tAsg (tOp (rIx K) (tLst (tCons (tVar 5) (tCons (tVar 6) (tCons (tOp (rI0 fun i j => .int (i - j)) (tUn (rU fun i => .int (-i)) (tC (.int 1))) (tVar 5)) (tCons (tOp (rI0 fun i j => .int (i - j)) (tUn (rU fun i => .int (-i)) (tC (.int 1))) (tVar 6)) (tCons (tC (.int 399)) (tCons (tUn (rU fun i => .int (-i)) (tC (.int 400))) tNil))))))) (tVar 4)) (gName 7))
      (tSeq (tAsg (tOp (rAddA K) (tC (.int 1)) (tCall (spD K (c_law_draw K)) [] E (tCons (tVar 0) (tCons (tOp (rIx K) (tLst (tCons (tC (.int 1)) (tCons (tC (.int 4)) (tCons (tC (.int 40)) (tCons (tC (.int 40)) tNil))))) (tCall (spD K (c_law_draw K)) [] E (tCons (tVar 0) (tCons (tC (.int 4)) tNil)))) tNil)))) (gName 8))
      (tSeq (tAsg (tCall (spD K (c_law_draw K)) [] E (tCons (tVar 0) (tCons (tCB (rLen K) (tCons (tVar 2) tNil)) tNil))) (gName 9))
      (tSeq (tAsg (tLc (iRng1 (tCons (tCB (rLen K) (tCons (tVar 2) tNil)) tNil)) (gName 11) (tOr (tTest (tOp (rEqD K) (tVar 11) (tVar 9))) (tTest (tOp (rEqD K) (tCall (spD K (c_law_draw K)) [] E0 (tCons (tVar 0) (tCons (tC (.int 2)) tNil))) (tC (.int 0))))) (tVar 11) [11]) (gName 10))
      (tSeq (tAsg (tOp (rIx K) (tLst (tCons (tC .non) (tCons (tVar 10) (tCons (tLst (tCons (tVar 9) tNil)) (tCons (tLstRg (tRg1 (tCB (rLen K) (tCons (tVar 2) tNil)))) tNil))))) (tCall (spD K (c_law_draw K)) [] E (tCons (tVar 0) (tCons (tC (.int 4)) tNil)))) (gName 10))
      (tSeq (tAsg (tCB (rListOf K) (tCons (tVar 3) tNil)) (gName 12))
      (tSeq (tAsg (tLst tNil) (gName 13))
      (tSeq (tFor (iRng1 (tCons (tCall (spD K (c_law_draw K)) [] E (tCons (tVar 0) (tCons (tOp (rAddA K) (tCB (rLen K) (tCons (tVar 3) tNil)) (tC (.int 1))) tNil))) tNil)) (gName 14) (tDrop (tBM K "list" rAppend (tVar 13) (tCons (tTup (tCons (tBM K "list" rPopAt (tVar 12) (tCons (tCall (spD K (c_law_draw K)) [] E (tCons (tVar 0) (tCons (tCB (rLen K) (tCons (tVar 12) tNil)) tNil))) tNil)) (tCons (tOp (rIx K) (tLst (tCons (tC (.str "off")) (tCons (tC (.str "rest")) tNil))) (tCall (spD K (c_law_draw K)) [] E (tCons (tVar 0) (tCons (tC (.int 2)) tNil)))) tNil))) tNil))))
      (tRet (tLst (tCons (tVar 1) (tCons (tVar 7) (tCons (tVar 8) (tCons (tVar 10) (tCons (tVar 13) tNil)))))))))))))))))
def t_law_line (K : PySem.W.Frag) (E : XK) : TS :=
    (tSeq (tAsg (tOp (rAddA K) (tC (.int 1)) (tCall (spD K (c_law_draw K)) [] E (tCons (tVar 0) (tCons (tOp (rIx K) (tLst (tCons (tC (.int 3)) (tCons (tC (.int 12)) (tCons (tC (.int 400)) (tCons (tC (.int 1000000)) tNil))))) (tCall (spD K (c_law_draw K)) [] E (tCons (tVar 0) (tCons (tC (.int 4)) tNil)))) tNil)))) (gName 4))
      (tSeq (tAsg (tOp (rIx K) (tLst (tCons (tVar 4) (tCons (tVar 4) (tCons (tVar 4) (tCons (tC (.int 1000000)) tNil))))) (tCall (spD K (c_law_draw K)) [] E (tCons (tVar 0) (tCons (tC (.int 4)) tNil)))) (gName 4))
      (tSeq (tAsg (tOp (rAddA K) (tC (.int 1)) (tCall (spD K (c_law_draw K)) [] E (tCons (tVar 0) (tCons (tC (.int 9)) tNil)))) (gName 5))
      (tSeq (tAsg (tC (.int 0)) (gName 6))
      (tSeq (tFor (iAny K (tVar 3)) (gUnl K 5 (gCons (gName 7) (gCons (gName 8) (gCons (gName 9) (gCons (gName 10) (gCons (gName 11) gNil)))))) (tIfS (tTest (tOp (rInA K) (tVar 1) (tLc (iAny K (tVar 11)) (gTup K 2 (gCons (gName 12) (gCons (gName 13) gNil))) tYes (tVar 12) [12, 13]))) (tAug 6 (tOp rMulA (tVar 9) (tIf (tB (tIsN (tVar 10))) (tCB (rLen K) (tCons (tVar 2) tNil)) (tCB (rLen K) (tCons (tVar 10) tNil)))) (ipI fun i j => i + j)) tNext))
      (tSeq (tIfS (tAnd (tTest (tOp (rI0 fun i j => .bl (decide (j < i))) (tCall (spD K (c_law_draw K)) [] E (tCons (tVar 0) (tCons (tC (.int 4)) tNil))) (tC (.int 0)))) (tTest (tOp (rI0 fun i j => .bl (decide (i ≤ j))) (tCB (rSum K) (tCons (tVar 2) tNil)) (tOp rMulA (tVar 5) (tOp (rI0 fun i j => .int (i - j)) (tCB (rSum K) (tCons (tVar 2) tNil)) (tVar 6)))))) (tRet (tLst (tCons (tC (.str "going")) (tCons (tVar 1) (tCons (tVar 4) (tCons (tVar 5) (tCons (tOp (rIx K) (tLst (tCons (tC (.int 0)) (tCons (tOp (rI0 fun i j => .int (i - j)) (tVar 4) (tC (.int 1))) (tCons (tCall (spD K (c_law_draw K)) [] E (tCons (tVar 0) (tCons (tVar 4) tNil))) tNil)))) (tCall (spD K (c_law_draw K)) [] E (tCons (tVar 0) (tCons (tC (.int 3)) tNil)))) tNil))))))) tNext)
      (tRet (tLst (tCons (tC (.str "yearly")) (tCons (tVar 1) (tCons (tVar 4) (tCons (tVar 5) tNil))))))))))))
def t_law_parts (K : PySem.W.Frag) (E : XK) : TS :=
    (tSeq (tAsg (tCall (spD K (c_law_draw K)) [] E (tCons (tVar 0) (tCons (tC (.int 6)) tNil))) (gName 1))
      (tSeq (tAsg (tCall (spD K (c_law_lengths K)) [] E (tCons (tVar 0) (tCons (tC (.int 400)) (tCons (tC (.int 20)) tNil)))) (gName 2))
      (tSeq (tAsg (tCall (spD K (c_law_names K)) [] E (tCons (tVar 0) (tCons (tIf (tTest (tOp (rEqD K) (tVar 1) (tC (.int 0)))) (tC (.int 4)) (tOp (rAddA K) (tC (.int 1)) (tCall (spD K (c_law_draw K)) [] E (tCons (tVar 0) (tCons (tC (.int 4)) tNil))))) tNil))) (gName 3))
      (tSeq (tAsg (tCall (spD K (c_law_names K)) [] E (tCons (tVar 0) (tCons (tIf (tTest (tOp (rI0 fun i j => .bl (decide (i < j))) (tVar 1) (tC (.int 2)))) (tC (.int 8)) (tCall (spD K (c_law_draw K)) [] E (tCons (tVar 0) (tCons (tC (.int 9)) tNil)))) tNil))) (gName 4))
      (tSeq (tAsg (tLc (iAny K (tVar 4)) (gName 6) tYes (tCall (spD K (c_law_feast K)) [] E0 (tCons (tVar 0) (tCons (tVar 6) (tCons (tVar 2) (tCons (tVar 3) tNil))))) [6]) (gName 5))
      (tRet (tLst (tCons (tVar 2) (tCons (tVar 5) (tCons (tLc (iAny K (tVar 3)) (gName 7) tYes (tCall (spD K (c_law_line K)) [] E0 (tCons (tVar 0) (tCons (tVar 7) (tCons (tVar 2) (tCons (tVar 5) tNil))))) [7]) tNil))))))))))
def t_law_texts (K : PySem.W.Frag) (E : XK) : TS :=
    (tSeq (tAsg (tLst (tCons (tBM K "str" (rJoin K) (tC (.str " ")) (tCons (tOp (rAddA K) (tLst (tCons (tC (.str "calendar")) tNil)) (tLc (iAny K (tOp (rIx K) (tVar 0) (tC (.int 0)))) (gName 2) tYes (tCB rStrI (tCons (tVar 2) tNil)) [2])) tNil)) tNil)) (gName 1))
      (tSeq (tFor (iAny K (tOp (rIx K) (tVar 0) (tC (.int 1)))) (gUnl K 5 (gCons (gName 3) (gCons (gName 4) (gCons (gName 5) (gCons (gName 6) (gCons (gName 7) gNil)))))) (tSeq (tAsg (tIf (tB (tIsN (tVar 6))) (tC (.str "all")) (tBM K "str" (rJoin K) (tC (.str ",")) (tCons (tLc (iAny K (tVar 6)) (gName 9) tYes (tCB rStrI (tCons (tVar 9) tNil)) [9]) tNil))) (gName 8))
      (tSeq (tAsg (tOp (rAddA K) (tLst (tCons (tC (.str "feast")) (tCons (tVar 3) (tCons (tCB rStrI (tCons (tVar 4) tNil)) (tCons (tCB rStrI (tCons (tVar 5) tNil)) (tCons (tVar 8) tNil)))))) (tLc (iAny K (tVar 7)) (gTup K 2 (gCons (gName 11) (gCons (gName 12) gNil))) tYes (tOp (rAddA K) (tOp (rAddA K) (tVar 12) (tC (.str " "))) (tVar 11)) [11, 12])) (gName 10))
      (tDrop (tBM K "list" rAppend (tVar 1) (tCons (tBM K "str" (rJoin K) (tC (.str " ")) (tCons (tVar 10) tNil)) tNil))))))
      (tRet (tOp (rAddA K) (tVar 1) (tLc (iAny K (tOp (rIx K) (tVar 0) (tC (.int 2)))) (gName 14) tYes (tBM K "str" (rJoin K) (tC (.str " ")) (tCons (tLc (iAny K (tVar 14)) (gName 13) tYes (tCB rStrA (tCons (tVar 13) tNil)) [13]) tNil)) [14])))))
def t_law_feast_made (K : PySem.W.Frag) (E : XK) : TS :=
    (tRet (tMake (He.ga K "Feast") (spD K (c_Feast_init K)) [] E (tCons (tOp (rIx K) (tVar 0) (tC (.int 0))) (tCons (tOp (rIx K) (tVar 0) (tC (.int 1))) (tCons (tOp (rIx K) (tVar 0) (tC (.int 2))) (tCons (tIf (tB (tIsN (tOp (rIx K) (tVar 0) (tC (.int 3))))) (tC .non) (tCB (rListOf K) (tCons (tOp (rIx K) (tVar 0) (tC (.int 3))) tNil))) (tCons (tCB (rListOf K) (tCons (tOp (rIx K) (tVar 0) (tC (.int 4))) tNil)) tNil)))))))
def t_law_line_made (K : PySem.W.Frag) (E : XK) : TS :=
    (tSeq (tIfS (tTest (tOp (rEqD K) (tOp (rIx K) (tVar 0) (tC (.int 0))) (tC (.str "going")))) (tRet (tMake (He.ga K "Going") (spD K (c_Going_init K)) [] E (tCons (tOp (rIx K) (tVar 0) (tC (.int 1))) (tCons (tOp (rIx K) (tVar 0) (tC (.int 2))) (tCons (tOp (rIx K) (tVar 0) (tC (.int 3))) (tCons (tOp (rIx K) (tVar 0) (tC (.int 4))) tNil)))))) tNext)
      (tRet (tMake (He.ga K "Yearly") (spD K (c_Yearly_init K)) [] E (tCons (tOp (rIx K) (tVar 0) (tC (.int 1))) (tCons (tOp (rIx K) (tVar 0) (tC (.int 2))) (tCons (tOp (rIx K) (tVar 0) (tC (.int 3))) tNil))))))
section
variable {K : PySem.W.Frag}
theorem sum_onesT : ∀ l : List Nat, (l.map fun _ => 1).sum = l.length
  | [] => rfl
  | a :: l => by rw [List.map_cons, List.sum_cons, sum_onesT l, List.length_cons]; omega
theorem name_wordsT : ∀ s ∈ (["off", "rest", "free", "put", "on", "never", "undo", "going", "feast", "all", "yearly", "calendar", "log"] : List Str), nameOk s := by decide +kernel
theorem d_law_name : ∀ ds μ P PX, c_law_name K ds μ P PX → MuCl μ μ.length → clL ds μ.length = true → ∀ B E, XAg K B (RetX μ.length PX) E → DS K B (t_law_name K E) (startD ["_law_hold", "_law_words", "_law_way", "_law_letters", "_law_k"] ds) μ (fnE μ.length P) := by
  intro ds μ P PX h hm hc B E hE
  obtain ⟨k, k2, c, ns, rfl, hd, hc38, h⟩ := h
  show DS K B _ [some (.own k), none, none, none, none] μ _
  have hc0 := hd.c0
  have ret : ∀ (s : Str) (c' : Int) (ns' : List Int), nameOk s → c ≤ c' → c' ≤ c + 10 → ns'.length = ns.length → Ret μ.length P (.str s) (hold μ k k2 c' ns') := fun s c' ns' h1 h2 h3 hn => ret_same0 (by rw [hold_len]; exact Nat.le_refl _) (hd.cl hm) rfl (h s c' ns' h1 h2 h3 hn)
  unfold t_law_name
  wtm_at "A"
  refine de_lstZ ?_
  wtm_at "A"
  refine ⟨k, k2, c, ns, 40, rfl, hd, by omega, by decide, by decide, fun w ns1 hw0 hw1 hn1 => ?_⟩
  have hd1 := hd.hold (c' := c + 1) (ns' := ns1) (by omega) hn1
  wtm_at "A"
  · obtain ⟨s, hs, hs'⟩ := atNN (xs := (["off", "rest", "free", "put", "on", "never", "undo", "going", "feast", "all", "yearly", "calendar", "log"] : List Str)) hw0 (by simpa using ‹w < 13›)
    refine ro_ixL (.lst _) (d := .str s) (at_map (f := D.str) (xs := ["off", "rest", "free", "put", "on", "never", "undo", "going", "feast", "all", "yearly", "calendar", "log"]) (j := w.toNat) (by omega) hs') ?_
    exact ret s _ ns1 (name_wordsT s (List.mem_of_getElem? hs')) (by omega) (by omega) hn1
  · refine ⟨ty_str, ?_⟩
    refine da_cons ?_
    refine de_lc (gw_name (by simp)) ?_
    wtm_at "A"
    refine ⟨k, k2, _, ns1, 8, rfl, hd1, by omega, by decide, by decide, fun m ns2 hm0 hm1 hn2 => ?_⟩
    rw [hold_hold hd.ne]
    wtm_at "A"
    refine ⟨by omega, by omega, by rw [rangeD_length]; omega, fun i acc μ' => ∃ (cs : List Nat) (ns3 : List Int), acc = cs.map (fun c => D.str ⟨#[c]⟩) ∧ μ' = hold μ k k2 (c + 2 + i) ns3 ∧ ns3.length = ns.length ∧ cs.length = i ∧ ∀ x ∈ cs, x ∈ letters,
      ⟨[], ns2, rfl, by rw [show c + 1 + 1 = c + 2 + ((0 : Nat) : Int) by omega], by omega, rfl, by simp⟩, fun _ _ _ _ _ => trivial, ?_, ?_⟩
    · rintro i d acc μ' hd' ⟨cs, ns3, rfl, rfl, hn3, hli, hls⟩
      obtain ⟨hi, rfl⟩ := rangeD_some hd'
      have hd3 := hd.hold (c' := c + 2 + i) (ns' := ns3) (by omega) hn3
      wtm_at "E"
      refine de_call XAg.none ?_
      wtm_at "E"
      refine ⟨k, k2, _, ns3, 26, rfl, hd3, by omega, by decide, by decide, fun r ns4 hr0 hr1 hn4 => ?_⟩
      rw [hold_hold hd.ne]
      obtain ⟨ch, hch, hch'⟩ := atNN (xs := letters) (i := r) hr0 (by simpa [letters] using hr1)
      refine ro_ixS (c := ch) (by decide +kernel) (by rw [letters_str]; exact hch) ?_
      refine ⟨cs ++ [ch], ns4, by simp, by rw [show c + 2 + (i : Int) + 1 = c + 2 + ((i + 1 : Nat) : Int) by omega], by omega, by simp [hli], fun x hx => ?_⟩
      rcases List.mem_append.mp hx with m | m
      · exact hls x m
      · simp at m; subst m; exact List.mem_of_getElem? hch'
    · rintro acc μ' ⟨cs, ns3, rfl, rfl, hn3, hli, hls⟩
      rw [rangeD_length] at hli ⊢
      wtm_at "E"
      refine rm_join (ys := cs.map fun c => ⟨#[c]⟩) (by rw [List.map_map]; exact .lst _) ?_ ?_
      · have e1 : ((cs.map fun c => (⟨#[c]⟩ : Str)).map (·.length)).sum = cs.length := by
          rw [List.map_map]
          have : ((fun s : Str => s.length) ∘ fun c => (⟨#[c]⟩ : Str)) = fun _ => 1 := by
            funext x; rfl
          rw [this]
          exact sum_onesT cs
        have e2 : ("" : Str).length = 0 := by decide +kernel
        rw [e1, e2]; omega
      rw [join_signs]
      refine ret _ _ ns3 ⟨?_, ?_, ?_⟩ (by omega) (by omega) hn3
      · simp [Str.length]; omega
      · simp [Str.length]; omega
      · intro x hx; exact hls x (by simpa using hx)
theorem d_law_names : ∀ ds μ P PX, c_law_names K ds μ P PX → MuCl μ μ.length → clL ds μ.length = true → ∀ B E, XAg K B (RetX μ.length PX) E → DS K B (t_law_names K E) (startD ["_law_hold", "_law_many", "_law_found", "_law_k", "_law_word", "_law_one"] ds) μ (fnE μ.length P) := by
  intro ds μ P PX h hm hc B E hE
  obtain ⟨k, k2, c, ns, m, rfl, hd, hc37, m0, m8, h⟩ := h
  show DS K B _ [some (.own k), some (.int m), none, none, none, none] μ _
  have hc0 := hd.c0
  have hlast : ∀ (c' : Int) (ns' : List Int) (o : MO), (hold μ k k2 c' ns' ++ [o])[μ.length]? = some o := fun c' ns' o => by rw [← hold_len (μ := μ) (k := k) (k2 := k2) (c := c') (ns := ns')]; exact mu_last
  have hsetl : ∀ (c' : Int) (ns' : List Int) (o o' : MO), (hold μ k k2 c' ns' ++ [o]).set μ.length o' = hold μ k k2 c' ns' ++ [o'] := fun c' ns' o o' => by rw [← hold_len (μ := μ) (k := k) (k2 := k2) (c := c') (ns := ns')]; exact set_last
  unfold t_law_names
  refine q_set (de_lstOZ ?_)
  wtm_at "E"
  refine q_for ?_
  wtm_at "E"
  refine ⟨by omega, by omega, fun i ρ μ' => ∃ (y3 y4 y5 : Option D) (ws : List Str) (c3 : Int) (ns3 : List Int), ρ = [some (.own k), some (.int m), some (.own μ.length), y3, y4, y5] ∧ μ' = hold μ k k2 c3 ns3 ++ [.lst (ws.map D.str)] ∧ ns3.length = ns.length ∧ c ≤ c3 ∧ c3 ≤ c + 10 * i ∧ ws.length = i ∧ ws.Nodup ∧ ∀ w ∈ ws, nameOk w,
    ⟨none, none, none, [], c, ns, rfl, by rw [hold_same hd]; rfl, rfl, by omega, by omega, rfl, .nil, by simp⟩, fun _ _ _ _ _ => trivial, ?_, ?_⟩
  · rintro i d ρ μ' hd' ⟨y3, y4, y5, ws, c3, ns3, rfl, rfl, hn3, hc3, hc3', hwl, hnd, hok⟩
    obtain ⟨hi, rfl⟩ := rangeD_some hd'
    have hd3 := hd.hold (c' := c3) (ns' := ns3) (by omega) hn3
    refine dg_name ?_
    refine q_set ?_
    wtm_at "E"
    refine ⟨k, k2, _, ns3, rfl, hd3.app _, by omega, fun s c4 ns4 hs hc4 hc4' hn4 => ?_⟩
    rw [hold_app hd3, hold_hold hd.ne]
    refine ds_cut (M := fun ρ2 μ2 => μ2 = hold μ k k2 c4 ns4 ++ [.lst (ws.map D.str)] ∧ ∃ (w : Str) (z5 : Option D), nameOk w ∧ w ∉ ws ∧ ρ2 = [some (.own k), some (.int m), some (.own μ.length), some (.int (0 + (i : Int))), some (.str w), z5]) ?_ ?_
    · refine s_when (dt_test (de_op ?_))
      wtm_at "E"
      refine ro_inS (ns := ws) (.own (hlast _ _ _)) ?_
      refine ⟨_, rfl, fun hb => ?_, fun hb => ?_⟩
      · refine ds_set (de_op ?_)
        refine lc_filt (fun d => match d with | .str s => !decide (s ∈ ws) | _ => false) id (gw_name (by simp)) ?_
        refine di_any (de_lstZ ?_)
        wtm_at "E"
        refine ⟨_, _, .lst _, trivial, by simp, fun j d hj => ?_, fun out ho => ?_⟩
        · obtain ⟨a, ha, rfl⟩ := strs_getT (ss := altsT) hj
          refine dg_name ⟨rfl, ?_⟩
          refine dt_test (de_op ?_)
          wtm_at "v"
          wtm_at "v"
          refine ro_notInS (ns := ws) (.own (hlast _ _ _)) ?_
          refine ⟨_, rfl, rfl, rfl, fun _ => ?_⟩
          wtm_at "v"
          exact ⟨rfl, rfl⟩
        · obtain ⟨a, t, hat⟩ := alts_restT ws (by omega)
          have e : out = (a :: t).map D.str := by
            rw [← ho, ← hat, List.map_id]
            show (altsT.map D.str).filter _ = _
            rw [List.filter_map]
            rfl
          rw [e]
          wtm_at "E"
          refine ro_ixL (.lst _) (d := .str a) (at_natT (j := 0) rfl) ?_
          have ham : a ∈ altsT.filter (fun s => !decide (s ∈ ws)) := by rw [hat]; simp
          obtain ⟨h1, h2⟩ := List.mem_filter.mp ham
          exact ⟨rfl, a, _, alts_okT a h1, by simpa using h2, rfl⟩
      · exact ⟨rfl, s, _, hs, by simpa using hb, rfl⟩
    · rintro ρ2 μ2 ⟨rfl, w, z5, hw, hnw, rfl⟩
      refine ds_drop ?_
      wtm_at "E"
      refine ⟨ty_list (.own (hlast _ _ _)), ?_⟩
      wtm_at "E"
      refine rm_app (hlast _ _ _) (by simp; omega) ?_
      rw [hsetl]
      refine ⟨_, _, _, ws ++ [w], c4, ns4, rfl, by simp, by omega, by omega, by omega, by simp; omega, ?_, fun x hx => ?_⟩
      · rw [List.nodup_append]
        refine ⟨hnd, by simp, fun a ha b hb => ?_⟩
        simp at hb
        subst hb
        exact fun e => hnw (e ▸ ha)
      · rcases List.mem_append.mp hx with q | q
        · exact hok x q
        · simp at q; subst q; exact hw
  · rintro ρ μ' ⟨y3, y4, y5, ws, c3, ns3, rfl, rfl, hn3, hc3, hc3', hwl, hnd, hok⟩
    rw [rangeD_length] at hwl hc3'
    refine ds_ret (de_frz ?_)
    wtm_at "v"
    refine ⟨_, _, rfl, hlast _ _ _, ?_⟩
    rw [hsetl]
    exact ret_same (by rw [hold_len]; exact Nat.le_refl _) (hd.cl hm) (clL_map fun s _ => rfl) (h ws c3 ns3 (by omega) hok hnd hc3 (by omega) hn3)
end
theorem map_eraseT {α β : Type} (f : α → β) : ∀ (xs : List α) (i : Nat), (xs.eraseIdx i).map f = (xs.map f).eraseIdx i
  | [], i => by simp
  | a :: t, 0 => rfl
  | a :: t, i + 1 => by
    show f a :: (t.eraseIdx i).map f = f a :: (t.map f).eraseIdx i
    rw [map_eraseT f t i]
section
variable {K : PySem.W.Frag}
theorem d_law_feast : ∀ ds μ P PX, c_law_feast K ds μ P PX → MuCl μ μ.length → clL ds μ.length = true → ∀ B E, XAg K B (RetX μ.length PX) E → DS K B (t_law_feast K E) (startD ["_law_hold", "_law_name_here", "_law_lengths_here", "_law_words", "_law_way", "_law_far", "_law_near", "_law_spot", "_law_lasts", "_law_one", "_law_kept", "_law_number", "_law_left", "_law_acts", "_law_k"] ds) μ (fnE μ.length P) := by
  intro ds μ P PX h hm hc B E hE
  obtain ⟨k, k2, c, ns, name, ls, ws, rfl, hd, hc37, hname, hg, hwok, hwnd, hw0, hw4, h⟩ := h
  show DS K B _ [some (.own k), some (.str name), some (intsD ls), some (.lst (ws.map D.str)), none, none, none, none, none, none, none, none, none, none, none] μ _
  have hc0 := hd.c0
  have hgp := hg.pos; have hgm := hg.most
  unfold t_law_feast
  refine q_set ?_
  wtm_at "E"
  refine ⟨k, k2, c, ns, 6, rfl, hd, by omega, by decide, by decide, fun w ns1 hw0 hw1 hn1 => ?_⟩
  have hd1 := hd.hold (c' := c + 1) (ns' := ns1) (by omega) hn1
  refine q_parZ ?_
  wtm_at "E"
  refine ⟨k, k2, _, ns1, 400, rfl, hd1, by omega, by decide, by decide, fun fa ns2 hf0 hf1 hn2 => ?_⟩
  rw [hold_hold hd.ne]
  have hd2 := hd.hold (c' := c + 1 + 1) (ns' := ns2) (by omega) (by omega)
  wtm_at "E"
  refine rc_max' (ns := ls) (.lst _) (by omega) fun mx hmx _ => ?_
  have hmx1 := hg.each mx hmx
  wtm_at "E"
  refine ⟨k, k2, _, ns2, mx, rfl, hd2, by omega, by omega, by omega, fun ne ns3 hne0 hne1 hn3 => ?_⟩
  rw [hold_hold hd.ne]
  have hd3 := hd.hold (c' := c + 1 + 1 + 1) (ns' := ns3) (by omega) (by omega)
  wtm_at "E"
  refine q_set ?_
  wtm_at "E"
  refine de_lstZ ?_
  wtm_at "E"
  obtain ⟨sp, hsp, hsp0, hsp1⟩ : ∃ sp, atI [D.int fa, .int ne, .int (-1 - fa), .int (-1 - ne), .int 399, .int (-400)] w = some (.int sp) ∧ -400 ≤ sp ∧ sp ≤ 399 := by
    have : w = 0 ∨ w = 1 ∨ w = 2 ∨ w = 3 ∨ w = 4 ∨ w = 5 := by omega
    rcases this with rfl | rfl | rfl | rfl | rfl | rfl <;> exact ⟨_, rfl, by omega, by omega⟩
  refine ro_ixL (.lst _) hsp ?_
  refine q_set ?_
  wtm_at "E"
  refine de_lstZ ?_
  wtm_at "E"
  refine ⟨k, k2, _, ns3, 4, rfl, hd3, by omega, by decide, by decide, fun w2 ns4 hw20 hw21 hn4 => ?_⟩
  rw [hold_hold hd.ne]
  have hd4 := hd.hold (c' := c + 1 + 1 + 1 + 1) (ns' := ns4) (by omega) (by omega)
  obtain ⟨lm, hlm, hlm0, hlm1⟩ : ∃ lm, atI [D.int 1, .int 4, .int 40, .int 40] w2 = some (.int lm) ∧ 1 ≤ lm ∧ lm ≤ 40 := by
    have : w2 = 0 ∨ w2 = 1 ∨ w2 = 2 ∨ w2 = 3 := by omega
    rcases this with rfl | rfl | rfl | rfl <;> exact ⟨_, rfl, by omega, by omega⟩
  refine ro_ixL (.lst _) hlm ?_
  wtm_at "E"
  refine ⟨k, k2, _, ns4, lm, rfl, hd4, by omega, by omega, by omega, fun la ns5 hla0 hla1 hn5 => ?_⟩
  rw [hold_hold hd.ne]
  have hd5 := hd.hold (c' := c + 1 + 1 + 1 + 1 + 1) (ns' := ns5) (by omega) (by omega)
  wtm_at "E"
  refine q_set ?_
  wtm_at "E"
  rw [List.length_map]
  refine ⟨k, k2, _, ns5, ls.length, rfl, hd5, by omega, by omega, by omega, fun one ns6 ho0 ho1 hn6 => ?_⟩
  rw [hold_hold hd.ne]
  have hd6 := hd.hold (c' := c + 1 + 1 + 1 + 1 + 1 + 1) (ns' := ns6) (by omega) (by omega)
  refine q_set ?_
  refine de_lc (gw_name (by simp)) ?_
  wtm_at "E"
  rw [List.length_map]
  refine ⟨by omega, by omega, by rw [rangeD_length]; omega, fun i acc μ' => ∃ (ys ns3 : List Int) (c3 : Int), acc = ys.map D.int ∧ μ' = hold μ k k2 c3 ns3 ∧ ns3.length = ns.length ∧ c ≤ c3 ∧ c3 ≤ c + 6 + i ∧ RiseT one i ys,
    ⟨[], ns6, _, rfl, rfl, by omega, by omega, by omega, RiseT.nil ho0⟩, fun _ _ _ _ _ => trivial, ?_, ?_⟩
  · rintro i d acc μ' hd' ⟨ys, ns3, c3, rfl, rfl, hn3, hc3, hc3', hrise⟩
    obtain ⟨hi, rfl⟩ := rangeD_some hd'
    have hdd := hd.hold (c' := c3) (ns' := ns3) (by omega) hn3
    refine dg_name ?_
    refine dt_or (dt_test (de_op ?_))
    wtm_at "E"
    · refine de_call XAg.none ?_
      wtm_at "E"
      refine ⟨k, k2, _, ns3, 2, rfl, hdd, by omega, by omega, by omega, fun r ns4 hr0 hr1 hn4 => ?_⟩
      rw [hold_hold hd.ne]
      wtm_at "E"
      · exact ⟨ys ++ [(i : Int)], ns4, _, by simp, rfl, by omega, by omega, by omega, hrise.keep⟩
      · exact ⟨ys, ns4, _, rfl, rfl, by omega, by omega, by omega, hrise.skip (by omega)⟩
    · exact ⟨ys ++ [(i : Int)], ns3, c3, by simp, rfl, hn3, hc3, by omega, hrise.keep⟩
  rintro acc μ' ⟨ys, ns7, c7, rfl, rfl, hn7, hc7, hc7', hrise⟩
  rw [rangeD_length] at hrise hc7'
  have hrl : ((ls.length : Int)).toNat = ls.length := by omega
  rw [hrl] at hrise hc7'
  have hd7 := hd.hold (c' := c7) (ns' := ns7) (by omega) hn7
  have hky := hrise.kept ho1 hgm
  refine q_set ?_
  wtm_at "E"
  refine de_lstZ ?_
  wtm_at "E"
  refine de_lstZ ?_
  wtm_at "E"
  refine de_lstRg1 ?_
  wtm_at "E"
  rw [List.length_map]
  refine ⟨by omega, by omega, ?_⟩
  wtm_at "E"
  refine ⟨k, k2, _, ns7, 4, rfl, hd7, by omega, by decide, by decide, fun r4 ns8 hr40 hr41 hn8 => ?_⟩
  rw [hold_hold hd.ne, hrl]
  have hd8 := hd.hold (c' := c7 + 1) (ns' := ns8) (by omega) (by omega)
  obtain ⟨kp, hkp, hkpo, hkpl⟩ : ∃ kp : Option (List Int), atI [D.non, .lst (ys.map D.int), .lst [.int one], .lst (rangeD 0 ls.length)] r4 = some (keptD kp) ∧ KeptO kp ∧ ∀ zs, kp = some zs → ∀ z ∈ zs, z < ls.length := by
    have hall := rise_all ls.length 0 (by omega)
    have : r4 = 0 ∨ r4 = 1 ∨ r4 = 2 ∨ r4 = 3 := by omega
    rcases this with rfl | rfl | rfl | rfl
    · exact ⟨none, rfl, fun _ e => (by cases e), fun _ e => (by cases e)⟩
    · exact ⟨some ys, rfl, fun _ e => (by cases e; exact hky), fun _ e z hz => by cases e; exact (hrise.each z hz).2⟩
    · refine ⟨some [one], rfl, fun _ e => (by cases e; exact ⟨by simp, by simp, fun y hy => (by simp at hy; omega), fun i a b ha hb => (by have := (List.getElem?_eq_some_iff.mp hb).1; simp at this)⟩), fun _ e z hz => (by cases e; simp at hz; omega)⟩
    · refine ⟨some ((List.range ls.length).map fun i : Nat => (i : Int)), ?_, fun _ e => (by cases e; exact hall.kept (by omega) hgm), fun _ e z hz => (by cases e; exact (hall.each z hz).2)⟩
      show some (D.lst (rangeD 0 ls.length)) = some (D.lst (((List.range ls.length).map fun i : Nat => (i : Int)).map D.int))
      unfold rangeD
      rw [List.map_map]
      congr 2
      refine List.map_congr_left fun x _ => ?_
      simp
  refine ro_ixL (.lst _) hkp ?_
  have hl0 : ∀ (c' : Int) (ns' : List Int) (o o2 : MO), (hold μ k k2 c' ns' ++ [o, o2])[μ.length]? = some o := fun c' ns' o o2 => by
    rw [List.getElem?_append_right (by rw [hold_len]; exact Nat.le_refl _), hold_len, Nat.sub_self]
    rfl
  have hl1 : ∀ (c' : Int) (ns' : List Int) (o o2 : MO), (hold μ k k2 c' ns' ++ [o, o2])[μ.length + 1]? = some o2 := fun c' ns' o o2 => by
    rw [List.getElem?_append_right (by rw [hold_len]; omega), hold_len, show μ.length + 1 - μ.length = 1 by omega]
    rfl
  have hs0 : ∀ (c' : Int) (ns' : List Int) (o o2 o' : MO), (hold μ k k2 c' ns' ++ [o, o2]).set μ.length o' = hold μ k k2 c' ns' ++ [o', o2] := fun c' ns' o o2 o' => by
    rw [List.set_append_right _ _ (by rw [hold_len]; exact Nat.le_refl _), hold_len, Nat.sub_self]
    rfl
  have hs1 : ∀ (c' : Int) (ns' : List Int) (o o2 o' : MO), (hold μ k k2 c' ns' ++ [o, o2]).set (μ.length + 1) o' = hold μ k k2 c' ns' ++ [o, o'] := fun c' ns' o o2 o' => by
    rw [List.set_append_right _ _ (by rw [hold_len]; omega), hold_len, show μ.length + 1 - μ.length = 1 by omega]
    rfl
  refine q_set (de_cb ?_)
  refine da_cons ?_
  wtm_at "v"
  refine da_nil (rc_listO (.lst _) ?_)
  rw [hold_len]
  refine q_set (de_lstOZ ?_)
  wtm_at "E"
  rw [List.length_append, hold_len, List.append_assoc]
  refine q_for ?_
  wtm_at "E"
  rw [List.length_map]
  refine ⟨k, k2, _, ns8, (ws.length : Int) + 1, rfl, hd8.app _, by omega, by omega, by omega, fun n ns9 hn0 hn1' hn9 => ?_⟩
  rw [hold_app hd8, hold_hold hd.ne]
  wtm_at "E"
  refine ⟨by omega, by omega, fun i ρ μ' => ∃ (y14 : Option D) (left : List Str) (ps : List (Str × Str)) (c3 : Int) (ns3 : List Int), ρ = [some (.own k), some (.str name), some (intsD ls), some (.lst (ws.map D.str)), some (.int w), some (.int fa), some (.int ne), some (.int sp), some (.int (1 + la)), some (.int one), some (keptD kp), none, some (.own μ.length), some (.own (μ.length + 1)), y14] ∧ μ' = hold μ k k2 c3 ns3 ++ [.lst (left.map D.str), .lst (ps.map actD)] ∧ ns3.length = ns.length ∧ c ≤ c3 ∧ c3 ≤ c + 40 + 2 * i ∧ ActsOk ps ∧ ps.length = i ∧ left.length + i = ws.length ∧ left.Nodup ∧ (∀ x ∈ left, x ∈ ws ∧ x ∉ ps.map (·.1)) ∧ ∀ p ∈ ps, p.1 ∈ ws,
    ⟨none, ws, [], _, ns9, rfl, rfl, by omega, by omega, by omega, ⟨by simp, by simp, by simp⟩, rfl, by simp, hwnd, fun x hx => ⟨hx, by simp⟩, by simp⟩, fun _ _ _ _ _ => trivial, ?_, ?_⟩
  · rintro i d ρ μ' hd' ⟨y14, left, ps, c3, ns3, rfl, rfl, hn3, hc3, hc3', hok, hpl, hll, hlnd, hlw, hpw⟩
    obtain ⟨hi, rfl⟩ := rangeD_some hd'
    have hi4 : i < 4 ∧ i < ws.length := by omega
    have hdd := hd.hold (c' := c3) (ns' := ns3) (by omega) hn3
    refine dg_name ?_
    refine ds_drop ?_
    wtm_at "E"
    refine ⟨ty_list (.own (hl1 _ _ _ _)), ?_⟩
    wtm_at "E"
    refine ⟨ty_list (.own (hl0 _ _ _ _)), ?_⟩
    wtm_at "E"
    refine rc_lenL (.own (hl0 _ _ _ _)) ?_
    rw [List.length_map]
    wtm_at "E"
    refine ⟨k, k2, _, ns3, (left.length : Int), rfl, hdd.app _, by omega, by omega, by omega, fun q ns4 hq0 hq1 hn4 => ?_⟩
    rw [hold_app hdd, hold_hold hd.ne]
    have hdd2 := hd.hold (c' := c3 + 1) (ns' := ns4) (by omega) (by omega)
    obtain ⟨x, hx⟩ : ∃ x, left[q.toNat]? = some x := ⟨_, List.getElem?_eq_getElem (by omega)⟩
    obtain ⟨e1, e2, e3, e4⟩ := erase_parts hx hlnd
    refine da_nil ?_
    rw [show q = (q.toNat : Int) by omega]
    refine rm_popIT (hl0 _ _ _ _) (by rw [List.getElem?_map, hx]; rfl) (by omega) ?_
    rw [hs0, ← map_eraseT]
    wtm_at "E"
    refine de_lstZ ?_
    wtm_at "E"
    refine ⟨k, k2, _, ns4, 2, rfl, hdd2.app _, by omega, by decide, by decide, fun r ns5 hr0 hr1 hn5 => ?_⟩
    rw [hold_app hdd2, hold_hold hd.ne]
    obtain ⟨so, hso, hso'⟩ : ∃ so : Str, atI [D.str "off", .str "rest"] r = some (.str so) ∧ (so = "off" ∨ so = "rest") := by
      have : r = 0 ∨ r = 1 := by omega
      rcases this with rfl | rfl
      · exact ⟨"off", rfl, .inl rfl⟩
      · exact ⟨"rest", rfl, .inr rfl⟩
    refine ro_ixL (.lst _) hso ?_
    wtm_at "E"
    refine rm_app (hl1 _ _ _ _) (by simp; omega) ?_
    rw [hs1]
    obtain ⟨hxw, hxp⟩ := hlw x (List.mem_of_getElem? hx)
    refine ⟨_, left.eraseIdx q.toNat, ps ++ [(x, so)], c3 + 1 + 1, ns5, rfl, by simp [actD], by omega, by omega, by omega, acts_addT hok (by omega) (hwok x hxw) hso' hxp, by simp; omega, by omega, e1, fun y hy => ⟨(hlw y (e3 y hy)).1, fun hy2 => ?_⟩, fun p hp => ?_⟩
    · rw [List.map_append] at hy2
      rcases List.mem_append.mp hy2 with z | z
      · exact (hlw y (e3 y hy)).2 z
      · simp at z
        subst z
        exact e2 hy
    · rcases List.mem_append.mp hp with z | z
      · exact hpw p z
      · simp at z
        subst z
        exact hxw
  · rintro ρ μ' ⟨y14, left, ps, c3, ns3, rfl, rfl, hn3, hc3, hc3', hok, hpl, hll, hlnd, hlw, hpw⟩
    rw [rangeD_length] at hpl hll hc3'
    refine ds_freeze (i := 13) (k := μ.length + 1) (by rfl) (hl1 _ _ _ _) ?_
    rw [hs1]
    refine ds_ret (de_lstZ ?_)
    wtm_at "E"
    exact ret_same (by rw [hold_len]; exact Nat.le_refl _) (hd.cl hm) (cl_feLT ⟨name, sp, 1 + la, kp, ps⟩ _) (h ⟨name, sp, 1 + la, kp, ps⟩ c3 ns3 ⟨hname, hsp0, hsp1, by simp only; omega, by simp only; omega, hkpo, hok⟩ rfl hkpl hpw (by omega) (by omega) hn3)
end
theorem str_extT {s t : Str} (h : s.cps.toList = t.cps.toList) : s = t := by
  obtain ⟨a⟩ := s
  obtain ⟨b⟩ := t
  have : a = b := by simpa using congrArg List.toArray h
  rw [this]
def combS (p : Str × Str) : Str := p.2 ++ " " ++ p.1
theorem comb_cps (p : Str × Str) : (combS p).cps.toList = p.2.cps.toList ++ ((" " : Str).cps.toList ++ p.1.cps.toList) := by
  unfold combS
  show ((p.2.cps ++ (" " : Str).cps) ++ p.1.cps).toList = _
  simp
theorem joinL_comb (S : List Nat) : ∀ (A : List (List Nat)) (ps : List (List Nat × List Nat)), TL.joinL S (A ++ ps.map fun p => p.2 ++ (S ++ p.1)) = TL.joinL S (A ++ ps.flatMap fun p => [p.2, p.1])
  | a :: b :: A, ps => by
    have ih := joinL_comb S (b :: A) ps
    show a ++ (S ++ TL.joinL S (b :: A ++ _)) = a ++ (S ++ TL.joinL S (b :: A ++ _))
    rw [ih]
  | [a], [] => rfl
  | [a], p :: ps => by
    have ih := joinL_comb S [] (p :: ps)
    exact congrArg (fun z => a ++ (S ++ z)) ih
  | [], [] => rfl
  | [], [p] => by simp [TL.joinL]
  | [], p :: q :: ps => by
    have ih := joinL_comb S [] (q :: ps)
    have e1 : TL.joinL S ((p :: q :: ps).map fun p => p.2 ++ (S ++ p.1)) = (p.2 ++ (S ++ p.1)) ++ (S ++ TL.joinL S ((q :: ps).map fun p => p.2 ++ (S ++ p.1))) := rfl
    have e2 : TL.joinL S ((p :: q :: ps).flatMap fun p => [p.2, p.1]) = p.2 ++ (S ++ (p.1 ++ (S ++ TL.joinL S ((q :: ps).flatMap fun p => [p.2, p.1])))) := rfl
    simp only [List.nil_append] at ih ⊢
    rw [e1, e2, ih]
    simp
  termination_by A ps => (A.length, ps.length)
theorem join_comb (A : List Str) (ps : List (Str × Str)) : Txt.join " " (A ++ ps.map combS) = Txt.join " " (A ++ actsS ps) := str_extT (by
  rw [join_cps, join_cps, List.map_append, List.map_append, List.map_map]
  have h := joinL_comb (" " : Str).cps.toList (A.map fun p => p.cps.toList) (ps.map fun p => (p.1.cps.toList, p.2.cps.toList))
  rw [List.map_map] at h
  have e1 : (ps.map ((fun p : Str => p.cps.toList) ∘ combS)) = ps.map ((fun p : List Nat × List Nat => p.2 ++ ((" " : Str).cps.toList ++ p.1)) ∘ fun p => (p.1.cps.toList, p.2.cps.toList)) := List.map_congr_left fun p _ => comb_cps p
  rw [e1, h]
  congr 2
  unfold actsS
  induction ps with
  | nil => rfl
  | cons p ps ih =>
    simp only [List.map_cons, List.flatMap_cons, List.map_append, List.map_nil]
    congr 1
    exact ih (by
      have h2 := joinL_comb (" " : Str).cps.toList (A.map fun p => p.cps.toList) (ps.map fun p => (p.1.cps.toList, p.2.cps.toList))
      rw [List.map_map] at h2
      exact h2) (List.map_congr_left fun p _ => comb_cps p))
section
variable {K : PySem.W.Frag}
theorem d_law_line : ∀ ds μ P PX, c_law_line K ds μ P PX → MuCl μ μ.length → clL ds μ.length = true → ∀ B E, XAg K B (RetX μ.length PX) E → DS K B (t_law_line K E) (startD ["_law_hold", "_law_word", "_law_lengths_here", "_law_tales", "_law_many", "_law_most", "_law_less", "_law_name_here", "_law_spot", "_law_lasts", "_law_kept", "_law_acts", "_law_one", "_law_sort"] ds) μ (fnE μ.length P) := by
  intro ds μ P PX h hm hc B E hE
  obtain ⟨k, k2, c, ns, word, ls, fs, rfl, hd, hc37, hword, hg, hf, h8, h⟩ := h
  show DS K B _ [some (.own k), some (.str word), some (intsD ls), some (.lst (fs.map feLT)), none, none, none, none, none, none, none, none, none, none] μ _
  have hc0 := hd.c0
  have hgm := hg.most
  have hsp := hg.sum_pos; have hsl := hg.sum_le
  unfold t_law_line
  refine q_set ?_
  wtm_at "E"
  refine de_lstZ ?_
  wtm_at "E"
  refine ⟨k, k2, c, ns, 4, rfl, hd, by omega, by decide, by decide, fun w ns1 hw0 hw1 hn1 => ?_⟩
  have hd1 := hd.hold (c' := c + 1) (ns' := ns1) (by omega) hn1
  obtain ⟨lm, hlm, hlm0, hlm1⟩ : ∃ lm, atI [D.int 3, .int 12, .int 400, .int 1000000] w = some (.int lm) ∧ 1 ≤ lm ∧ lm ≤ 1000000 := by
    have : w = 0 ∨ w = 1 ∨ w = 2 ∨ w = 3 := by omega
    rcases this with rfl | rfl | rfl | rfl <;> exact ⟨_, rfl, by omega, by omega⟩
  refine ro_ixL (.lst _) hlm ?_
  wtm_at "E"
  refine ⟨k, k2, _, ns1, lm, rfl, hd1, by omega, by omega, by omega, fun q ns2 hq0 hq1 hn2 => ?_⟩
  rw [hold_hold hd.ne]
  have hd2 := hd.hold (c' := c + 1 + 1) (ns' := ns2) (by omega) (by omega)
  wtm_at "E"
  refine q_set ?_
  wtm_at "E"
  refine de_lstZ ?_
  wtm_at "E"
  refine ⟨k, k2, _, ns2, 4, rfl, hd2, by omega, by decide, by decide, fun w2 ns3 hw20 hw21 hn3 => ?_⟩
  rw [hold_hold hd.ne]
  have hd3 := hd.hold (c' := c + 1 + 1 + 1) (ns' := ns3) (by omega) (by omega)
  obtain ⟨mm, hmm, hmm0, hmm1⟩ : ∃ mm, atI [D.int (1 + q), .int (1 + q), .int (1 + q), .int 1000000] w2 = some (.int mm) ∧ 1 ≤ mm ∧ mm ≤ 1000000 := by
    have : w2 = 0 ∨ w2 = 1 ∨ w2 = 2 ∨ w2 = 3 := by omega
    rcases this with rfl | rfl | rfl | rfl <;> exact ⟨_, rfl, by omega, by omega⟩
  refine ro_ixL (.lst _) hmm ?_
  refine q_set ?_
  wtm_at "E"
  refine ⟨k, k2, _, ns3, 9, rfl, hd3, by omega, by decide, by decide, fun b ns4 hb0 hb1 hn4 => ?_⟩
  rw [hold_hold hd.ne]
  have hd4 := hd.hold (c' := c + 1 + 1 + 1 + 1) (ns' := ns4) (by omega) (by omega)
  wtm_at "E"
  refine q_set ?_
  wtm_at "E"
  refine q_for (di_any ?_)
  wtm_at "v"
  refine ⟨_, _, .lst _, ?_⟩
  refine ⟨fun i ρ' μ' => μ' = hold μ k k2 (c + 1 + 1 + 1 + 1) ns4 ∧ ∃ (less : Int) (y7 y8 y9 y10 y11 y12 y13 : Option D), less = lessOf ls.length (fs.take i) word ∧ 0 ≤ less ∧ less ≤ 800 * i ∧ ρ' = [some (.own k), some (.str word), some (intsD ls), some (.lst (fs.map feLT)), some (.int mm), some (.int (1 + b)), some (.int less), y7, y8, y9, y10, y11, y12, y13], ⟨rfl, 0, _, _, _, _, _, _, _, rfl, by omega, by omega, rfl⟩, fun _ _ _ _ _ => trivial, ?_, ?_⟩
  · rintro i d ρ' μ' hi ⟨rfl, less, y7, y8, y9, y10, y11, y12, y13, hle, hle0, hle1, rfl⟩
    obtain ⟨f, hfi, rfl⟩ := feLT_get hi
    have hfm := hf f (List.mem_of_getElem? hfi)
    have l0 := hfm.l0; have l1 := hfm.l1
    have ham := hfm.acts.most
    obtain ⟨kb0, kb1⟩ := keptL_bd hfm hgm
    have hsucc := lessOf_succ (n := ls.length) (name := word) hfi
    refine dg_unl (.lst _) rfl ?_
    wtm_at "E"
    refine s_when (dt_test (de_op ?_))
    wtm_at "v"
    refine lc_each f.acts actD (fun p => .str p.1) (gw_tup (gws_cons (i := 12) (vs := [12, 13]) (by simp) (gws_cons (i := 13) (by simp) gws_nil))) ?_
    refine di_any ?_
    wtm_at "v"
    unfold actsD
    refine ⟨_, _, .lst _, trivial, rfl, by omega, fun j p hp => ?_, .inl ?_⟩
    · unfold actD
      refine dg_tup rfl ?_
      wtm_at "E"
      refine ⟨rfl, ?_⟩
      wtm_at "v"
      exact ⟨rfl, rfl⟩
    refine ro_inS (ns := f.acts.map (·.1)) (by rw [List.map_map]; exact .lst _) ?_
    refine ⟨_, rfl, fun hb => ?_, fun hb => ?_⟩
    · have hb : word ∈ f.acts.map (·.1) := by simpa using hb
      rw [if_pos hb] at hsucc
      obtain ⟨z, hz⟩ : ∃ z : Int, z = keptN ls.length f := ⟨_, rfl⟩
      rw [← hz] at hsucc kb0 kb1
      have hbd : 0 ≤ f.lasts * z ∧ f.lasts * z ≤ 800 := ⟨Int.mul_nonneg (by omega) kb0, by
        have := Int.mul_le_mul_of_nonneg_left kb1 (show 0 ≤ f.lasts by omega)
        omega⟩
      refine ds_aug (by rfl) (de_op ?_)
      wtm_at "v"
      refine de_if (dt_B (de_isNZ ?_))
      wtm_at "v"
      cases hk : f.kept with
      | none =>
        have hz : z = (ls.length : Int) := by rw [hz]; unfold keptN; rw [hk]
        refine np_t ⟨true, rfl, fun _ => ?_, fun z => absurd z (by simp)⟩
        wtm_at "E"
        rw [List.length_map, ← hz]
        exact ⟨rfl, less + f.lasts * z, _, _, _, _, _, y12, y13, by rw [hsucc, hle], by omega, by omega, rfl⟩
      | some ys =>
        have hz : z = (ys.length : Int) := by rw [hz]; unfold keptN; rw [hk]
        refine np_lst ⟨false, rfl, fun z => absurd z (by simp), fun _ => ?_⟩
        wtm_at "E"
        rw [List.length_map, ← hz]
        exact ⟨rfl, less + f.lasts * z, _, _, _, _, _, y12, y13, by rw [hsucc, hle], by omega, by omega, rfl⟩
    · have hb : word ∉ f.acts.map (·.1) := by simpa using hb
      rw [if_neg hb] at hsucc
      exact ⟨rfl, less, _, _, _, _, _, _, _, by rw [hsucc, hle]; omega, hle0, by omega, rfl⟩
  · rintro ρ' μ' ⟨rfl, less, y7, y8, y9, y10, y11, y12, y13, hle, hle0, hle1, rfl⟩
    rw [List.length_map, List.take_length] at hle
    rw [List.length_map] at hle1
    have ret : ∀ (r : RwT) (c' : Int) (ns' : List Int), GRw r → r.name = word → (r.going = true → ls.sum ≤ r.most * (ls.sum - lessOf ls.length fs word)) → c ≤ c' → c' ≤ c + 20 → ns'.length = ns.length → Ret μ.length P (lineL r) (hold μ k k2 c' ns') := fun r c' ns' h1 h2 h3 h4 h5 hn => ret_same0 (by rw [hold_len]; exact Nat.le_refl _) (hd.cl hm) (cl_lineL r _) (h r c' ns' h1 h2 h3 h4 h5 hn)
    have last : ∀ (c' : Int) (ns' : List Int), c ≤ c' → c' ≤ c + 20 → ns'.length = ns.length → DS K B (tRet (tLst (tCons (tC (.str "yearly")) (tCons (tVar 1) (tCons (tVar 4) (tCons (tVar 5) tNil)))))) [some (.own k), some (.str word), some (intsD ls), some (.lst (fs.map feLT)), some (.int mm), some (.int (1 + b)), some (.int less), y7, y8, y9, y10, y11, y12, y13] (hold μ k k2 c' ns') (fnE μ.length P) := fun c' ns' h1 h2 hn => by
      refine ds_ret (de_lstZ ?_)
      wtm_at "E"
      exact ret ⟨false, word, mm, 1 + b, 0⟩ c' ns' ⟨hword, hmm0, hmm1, by simp only; omega, by simp only; omega, by simp only; omega, by simp only; omega, fun _ => rfl⟩ rfl (fun e => by cases e) h1 h2 hn
    refine q_when (dt_and (dt_test (de_op ?_)))
    wtm_at "E"
    refine ⟨k, k2, _, ns4, 4, rfl, hd4, by omega, by decide, by decide, fun r4 ns5 hr40 hr41 hn5 => ?_⟩
    rw [hold_hold hd.ne]
    have hd5 := hd.hold (c' := c + 1 + 1 + 1 + 1 + 1) (ns' := ns5) (by omega) (by omega)
    wtm_at "g"
    refine ⟨_, rfl, fun h4 => ?_, fun h4 => ⟨fun z => (nomatch z), fun _ => last _ _ (by omega) (by omega) (by omega)⟩⟩
    refine dt_test (de_op ?_)
    wtm_at "E"
    refine rc_sum (ns := ls) (.lst _) ?_
    wtm_at "E"
    refine rc_sum (ns := ls) (.lst _) ?_
    wtm_at "E"
    · rename_i hcond
      refine ds_ret (de_lstZ ?_)
      wtm_at "E"
      refine de_lstZ ?_
      wtm_at "E"
      refine ⟨k, k2, _, ns5, mm, rfl, hd5, by omega, by omega, by omega, fun bg ns6 hbg0 hbg1 hn6 => ?_⟩
      rw [hold_hold hd.ne]
      have hd6 := hd.hold (c' := c + 1 + 1 + 1 + 1 + 1 + 1) (ns' := ns6) (by omega) (by omega)
      wtm_at "E"
      refine ⟨k, k2, _, ns6, 3, rfl, hd6, by omega, by decide, by decide, fun r3 ns7 hr30 hr31 hn7 => ?_⟩
      rw [hold_hold hd.ne]
      obtain ⟨be, hbe, hbe0, hbe1⟩ : ∃ be, atI [D.int 0, .int (mm - 1), .int bg] r3 = some (.int be) ∧ 0 ≤ be ∧ be < mm := by
        have : r3 = 0 ∨ r3 = 1 ∨ r3 = 2 := by omega
        rcases this with rfl | rfl | rfl <;> exact ⟨_, rfl, by omega, by omega⟩
      refine ro_ixL (.lst _) hbe ?_
      wtm_at "E"
      exact ret ⟨true, word, mm, 1 + b, be⟩ _ ns7 ⟨hword, hmm0, hmm1, by simp only; omega, by simp only; omega, hbe0, hbe1, fun e => by cases e⟩ rfl (fun _ => by rw [← hle]; exact hcond) (by omega) (by omega) (by omega)
    · exact last _ _ (by omega) (by omega) (by omega)
end
section
variable {K : PySem.W.Frag}
theorem d_law_parts : ∀ ds μ P PX, c_law_parts K ds μ P PX → MuCl μ μ.length → clL ds μ.length = true → ∀ B E, XAg K B (RetX μ.length PX) E → DS K B (t_law_parts K E) (startD ["_law_hold", "_law_way", "_law_lengths_here", "_law_words", "_law_titles", "_law_tales", "_law_title", "_law_word"] ds) μ (fnE μ.length P) := by
  intro ds μ P PX h hm hc B E hE
  obtain ⟨k, k2, c, ns, rfl, hd, hc36, h⟩ := h
  show DS K B _ [some (.own k), none, none, none, none, none, none, none] μ _
  have hc0 := hd.c0
  unfold t_law_parts
  refine q_set ?_
  wtm_at "E"
  refine ⟨k, k2, c, ns, 6, rfl, hd, by omega, by decide, by decide, fun w ns1 hw0 hw1 hn1 => ?_⟩
  have hd1 := hd.hold (c' := c + 1) (ns' := ns1) (by omega) hn1
  refine q_set ?_
  wtm_at "E"
  refine ⟨k, k2, _, ns1, 400, 20, rfl, hd1, by omega, by decide, by decide, by decide, by decide, fun ls c2 ns2 hl0 hl1 hle hc2 hc2' hn2 => ?_⟩
  rw [hold_hold hd.ne]
  have hd2 := hd.hold (c' := c2) (ns' := ns2) (by omega) (by omega)
  have hg : GCal ls := ⟨hl0, by omega, fun x hx => by have := hle x hx; omega⟩
  refine q_set (de_call hE (da_cons ?_))
  wtm_at "v"
  refine da_cons ?_
  have hcnt : ∀ P' : D → Mu → Prop, (∀ (m c' : Int) (ns' : List Int), 1 ≤ m → m ≤ 4 → c2 ≤ c' → c' ≤ c2 + 1 → ns'.length = ns.length → P' (.int m) (hold μ k k2 c' ns')) → DE K B (tIf (tTest (tOp (rEqD K) (tVar 1) (tC (.int 0)))) (tC (.int 4)) (tOp (rAddA K) (tC (.int 1)) (tCall (spD K (c_law_draw K)) [] E (tCons (tVar 0) (tCons (tC (.int 4)) tNil))))) [some (.own k), some (.int w), some (intsD ls), none, none, none, none, none] (hold μ k k2 c2 ns2) P' := fun P' hP => by
    refine de_if (dt_test (de_op ?_))
    wtm_at "E"
    · exact hP 4 c2 ns2 (by omega) (by omega) (by omega) (by omega) (by omega)
    · refine ⟨k, k2, _, ns2, 4, rfl, hd2, by omega, by decide, by decide, fun r ns3 hr0 hr1 hn3 => ?_⟩
      rw [hold_hold hd.ne]
      wtm_at "E"
      exact hP (1 + r) _ ns3 (by omega) (by omega) (by omega) (by omega) (by omega)
  refine hcnt _ fun m c3 ns3 hm1 hm4 hc3 hc3' hn3 => ?_
  have hd3 := hd.hold (c' := c3) (ns' := ns3) (by omega) hn3
  refine da_nil ⟨k, k2, _, ns3, m, rfl, hd3, by omega, by omega, by omega, fun ws c4 ns4 hwl hwok hwnd hc4 hc4' hn4 => ?_⟩
  rw [hold_hold hd.ne]
  have hd4 := hd.hold (c' := c4) (ns' := ns4) (by omega) (by omega)
  refine q_set (de_call hE (da_cons ?_))
  wtm_at "v"
  refine da_cons ?_
  have hcnt2 : ∀ P' : D → Mu → Prop, (∀ (m c' : Int) (ns' : List Int), 0 ≤ m → m ≤ 8 → c4 ≤ c' → c' ≤ c4 + 1 → ns'.length = ns.length → P' (.int m) (hold μ k k2 c' ns')) → DE K B (tIf (tTest (tOp (rI0 fun i j => .bl (decide (i < j))) (tVar 1) (tC (.int 2)))) (tC (.int 8)) (tCall (spD K (c_law_draw K)) [] E (tCons (tVar 0) (tCons (tC (.int 9)) tNil)))) [some (.own k), some (.int w), some (intsD ls), some (.lst (ws.map D.str)), none, none, none, none] (hold μ k k2 c4 ns4) P' := fun P' hP => by
    refine de_if (dt_test (de_op ?_))
    wtm_at "E"
    · exact hP 8 c4 ns4 (by omega) (by omega) (by omega) (by omega) (by omega)
    · refine ⟨k, k2, _, ns4, 9, rfl, hd4, by omega, by decide, by decide, fun r ns5 hr0 hr1 hn5 => ?_⟩
      rw [hold_hold hd.ne]
      exact hP r _ ns5 (by omega) (by omega) (by omega) (by omega) (by omega)
  refine hcnt2 _ fun m2 c5 ns5 hm20 hm28 hc5 hc5' hn5 => ?_
  have hd5 := hd.hold (c' := c5) (ns' := ns5) (by omega) hn5
  refine da_nil ⟨k, k2, _, ns5, m2, rfl, hd5, by omega, by omega, by omega, fun ts c6 ns6 htl htok htnd hc6 hc6' hn6 => ?_⟩
  rw [hold_hold hd.ne]
  have hd6 := hd.hold (c' := c6) (ns' := ns6) (by omega) (by omega)
  refine q_set (de_lc (gw_name (by simp)) ?_)
  refine di_any ?_
  wtm_at "v"
  refine ⟨_, _, .lst _, by rw [List.length_map]; omega, fun i acc μ' => ∃ (fs : List FeT) (c3 : Int) (ns3 : List Int), acc = fs.map feLT ∧ μ' = hold μ k k2 c3 ns3 ∧ ns3.length = ns.length ∧ c ≤ c3 ∧ c3 ≤ c + 200 + 100 * i ∧ fs.map (·.name) = ts.take i ∧ (∀ f ∈ fs, GFe f ∧ (∀ ys, f.kept = some ys → ∀ y ∈ ys, y < ls.length) ∧ ∀ p ∈ f.acts, p.1 ∈ ws), ⟨[], c6, ns6, rfl, rfl, by omega, by omega, by omega, by simp, by simp⟩, fun _ _ _ _ _ => trivial, ?_, ?_⟩
  · rintro i d acc μ' hi ⟨fs, c7, ns7, rfl, rfl, hn7, hc7, hc7', hfn, hfs⟩
    obtain ⟨t, ht, rfl⟩ := strs_getT hi
    have hd7 := hd.hold (c' := c7) (ns' := ns7) (by omega) hn7
    have hil := (List.getElem?_eq_some_iff.mp ht).1
    refine dg_name (dt_yes ⟨fun _ => ?_, fun z => (nomatch z)⟩)
    refine de_call XAg.none ?_
    wtm_at "E"
    refine ⟨k, k2, _, ns7, t, ls, ws, rfl, hd7, by omega, htok t (List.mem_of_getElem? ht), hg, hwok, hwnd, by omega, by omega, fun f c8 ns8 hgf hfn2 hfk hfa hc8 hc8' hn8 => ?_⟩
    rw [hold_hold hd.ne]
    refine ⟨fs ++ [f], c8, ns8, by simp, rfl, by omega, by omega, by omega, ?_, fun f2 hf2 => ?_⟩
    · rw [List.map_append, hfn, List.take_succ, ht]
      simp [hfn2]
    · rcases List.mem_append.mp hf2 with z | z
      · exact hfs f2 z
      · simp at z
        subst z
        exact ⟨hgf, hfk, hfa⟩
  rintro acc μ' ⟨fs, c7, ns7, rfl, rfl, hn7, hc7, hc7', hfn, hfs⟩
  rw [List.length_map] at hfn hc7'
  rw [List.take_length] at hfn
  have hfl : fs.length = ts.length := by rw [← hfn, List.length_map]
  have hd7 := hd.hold (c' := c7) (ns' := ns7) (by omega) hn7
  have hgf : ∀ f ∈ fs, GFe f := fun f hf => (hfs f hf).1
  refine ds_ret (de_lstZ ?_)
  wtm_at "E"
  refine de_lc (gw_name (by simp)) ?_
  refine di_any ?_
  wtm_at "v"
  refine ⟨_, _, .lst _, by rw [List.length_map]; omega, fun i acc μ' => ∃ (rs : List RwT) (c3 : Int) (ns3 : List Int), acc = rs.map lineL ∧ μ' = hold μ k k2 c3 ns3 ∧ ns3.length = ns.length ∧ c ≤ c3 ∧ c3 ≤ c + 1100 + 20 * i ∧ rs.map (·.name) = ws.take i ∧ (∀ r ∈ rs, GRw r ∧ (r.going = true → ls.sum ≤ r.most * (ls.sum - lessOf ls.length fs r.name))), ⟨[], c7, ns7, rfl, rfl, by omega, by omega, by omega, by simp, by simp⟩, fun _ _ _ _ _ => trivial, ?_, ?_⟩
  · rintro i d acc μ' hi ⟨rs, c8, ns8, rfl, rfl, hn8, hc8, hc8', hrn, hrs⟩
    obtain ⟨t, ht, rfl⟩ := strs_getT hi
    have hd8 := hd.hold (c' := c8) (ns' := ns8) (by omega) hn8
    have hil := (List.getElem?_eq_some_iff.mp ht).1
    refine dg_name (dt_yes ⟨fun _ => ?_, fun z => (nomatch z)⟩)
    refine de_call XAg.none ?_
    wtm_at "E"
    refine ⟨k, k2, _, ns8, t, ls, fs, rfl, hd8, by omega, hwok t (List.mem_of_getElem? ht), hg, hgf, by omega, fun r c9 ns9 hgr hrn2 hru hc9 hc9' hn9 => ?_⟩
    rw [hold_hold hd.ne]
    refine ⟨rs ++ [r], c9, ns9, by simp, rfl, by omega, by omega, by omega, ?_, fun r2 hr2 => ?_⟩
    · rw [List.map_append, hrn, List.take_succ, ht]
      simp [hrn2]
    · rcases List.mem_append.mp hr2 with z | z
      · exact hrs r2 z
      · simp at z
        subst z
        exact ⟨hgr, by rw [hrn2]; exact hru⟩
  · rintro acc μ' ⟨rs, c8, ns8, rfl, rfl, hn8, hc8, hc8', hrn, hrs⟩
    rw [List.length_map] at hrn hc8'
    rw [List.take_length] at hrn
    have hrl : rs.length = ws.length := by rw [← hrn, List.length_map]
    wtm_at "E"
    refine ret_same0 (by rw [hold_len]; exact Nat.le_refl _) (hd.cl hm) (cl_partsH ls fs rs _) (h ls fs rs c8 ns8 ?_ (by omega) (by omega) hn8)
    exact { cal := hg, fe := hgf, few := by omega, rw := fun r hr => (hrs r hr).1, r0 := by omega, r4 := by omega, nr := by rw [hrn]; exact hwnd, nf := by rw [hfn]; exact htnd, kept := fun f hf => (hfs f hf).2.1, puts := fun f hf p hp => by rw [hrn]; exact (hfs f hf).2.2 p hp, up := fun r hr hgo => keeps_up hg hgf r.name (hrs r hr).1.t0 ((hrs r hr).2 hgo) }
theorem d_law_feast_made : ∀ ds μ P PX, c_law_feast_made K ds μ P PX → MuCl μ μ.length → clL ds μ.length = true → ∀ B E, XAg K B (RetX μ.length PX) E → DS K B (t_law_feast_made K E) (startD ["_law_some"] ds) μ (fnE μ.length P) := by
  intro ds μ P PX h hm hc B E hE
  obtain ⟨f, rfl, hf, h⟩ := h
  have ret : Ret μ.length P (feD K f) μ := ret_same0 (Nat.le_refl _) hm (feD_cl K f _) h
  show DS K B _ [some (feLT f)] μ _
  unfold t_law_feast_made feLT
  refine ds_ret (de_feastT hE ?_)
  wtm_at "E"
  refine ro_ixL (.lst _) (at_natT (j := 0) rfl) ?_
  wtm_at "E"
  refine ro_ixL (.lst _) (at_natT (j := 1) rfl) ?_
  wtm_at "E"
  refine ro_ixL (.lst _) (at_natT (j := 2) rfl) ?_
  wtm_at "E"
  refine ro_ixL (.lst _) (at_natT (j := 3) rfl) ?_
  cases hk : f.kept with
  | none =>
    refine np_t ⟨true, rfl, fun _ => ?_, fun z => absurd z (by simp)⟩
    wtm_at "E"
    refine ro_ixL (.lst _) (at_natT (j := 4) rfl) ?_
    unfold actsD
    wtm_at "E"
    exact ⟨f, _, _, rfl, hf, by rw [hk]; exact .id _, .id _, ret⟩
  | some ys =>
    refine np_lst ⟨false, rfl, fun z => absurd z (by simp), fun _ => ?_⟩
    wtm_at "E"
    refine ro_ixL (.lst _) (at_natT (j := 3) rfl) ?_
    unfold keptD intsD
    wtm_at "E"
    refine ro_ixL (.lst _) (at_natT (j := 4) rfl) ?_
    unfold actsD
    wtm_at "E"
    exact ⟨f, _, _, rfl, hf, by rw [hk]; exact .id _, .id _, ret⟩
theorem d_law_line_made : ∀ ds μ P PX, c_law_line_made K ds μ P PX → MuCl μ μ.length → clL ds μ.length = true → ∀ B E, XAg K B (RetX μ.length PX) E → DS K B (t_law_line_made K E) (startD ["_law_line_here"] ds) μ (fnE μ.length P) := by
  intro ds μ P PX h hm hc B E hE
  obtain ⟨r, rfl, hr, h⟩ := h
  have ret : Ret μ.length P (rowD K r) μ := ret_same0 (Nat.le_refl _) hm (rowD_cl K r _) h
  show DS K B _ [some (lineL r)] μ _
  unfold t_law_line_made lineL
  refine q_when (dt_test (de_op (de_op ?_)))
  wtm_at "E"
  have ixr : ∀ {i : Nat} {x : D} {P' : D → Mu → Prop}, (partsR r)[i]? = some x → P' x μ → RO K (rIx K) (.lst (partsR r)) (.int (i : Int)) μ P' := fun hi hP => ro_ixL (.lst _) (at_natT hi) hP
  cases hg : r.going with
  | true =>
    have e : partsR r = [.str "going", .str r.name, .int r.many, .int r.most, .int r.begin] := by unfold partsR; rw [if_pos hg]
    refine ixr (i := 0) (by rw [e]; rfl) ?_
    wtm_at "E"
    refine ds_ret (de_going hE ?_)
    wtm_at "E"
    refine ixr (i := 1) (by rw [e]; rfl) ?_
    wtm_at "E"
    refine ixr (i := 2) (by rw [e]; rfl) ?_
    wtm_at "E"
    refine ixr (i := 3) (by rw [e]; rfl) ?_
    wtm_at "E"
    refine ixr (i := 4) (by rw [e]; rfl) ?_
    wtm_at "E"
    exact ⟨hg, hr, ret⟩
  | false =>
    have e : partsR r = [.str "yearly", .str r.name, .int r.many, .int r.most] := by unfold partsR; rw [if_neg (by rw [hg]; simp)]
    refine ixr (i := 0) (by rw [e]; rfl) ?_
    wtm_at "E"
    refine ds_ret (de_yearly hE ?_)
    wtm_at "E"
    refine ixr (i := 1) (by rw [e]; rfl) ?_
    wtm_at "E"
    refine ixr (i := 2) (by rw [e]; rfl) ?_
    wtm_at "E"
    refine ixr (i := 3) (by rw [e]; rfl) ?_
    wtm_at "E"
    exact ⟨hg, hr, ret⟩
end
section
variable {K : PySem.W.Frag}
theorem d_law_texts : ∀ ds μ P PX, c_law_texts K ds μ P PX → MuCl μ μ.length → clL ds μ.length = true → ∀ B E, XAg K B (RetX μ.length PX) E → DS K B (t_law_texts K E) (startD ["_law_house", "_law_found", "_law_days", "_law_name_here", "_law_spot", "_law_lasts", "_law_kept", "_law_acts", "_law_told", "_law_number", "_law_row", "_law_word", "_law_sort", "_law_part", "_law_line_here"] ds) μ (fnE μ.length P) := by
  intro ds μ P PX h hm hc B E hE
  obtain ⟨ls, fs, rs, rfl, hg, h⟩ := h
  have hcm := hg.cal.most
  have h8 := hg.few; have h4 := hg.r4
  show DS K B _ [some (partsH ls fs rs), none, none, none, none, none, none, none, none, none, none, none, none, none, none] μ _
  obtain ⟨T, hT⟩ : ∃ T : D, T = partsH ls fs rs := ⟨_, rfl⟩
  have ixT : ∀ {i : Nat} {x : D} {μ' : Mu} {P' : D → Mu → Prop}, ([intsD ls, .lst (fs.map feLT), .lst (rs.map lineL)] : List D)[i]? = some x → P' x μ' → RO K (rIx K) T (.int (i : Int)) μ' P' := fun hi hP => by
    rw [hT]
    exact ro_ixL (.lst _) (at_natT hi) hP
  rw [← hT]
  unfold t_law_texts
  refine q_set (de_lstOZ (da_cons ?_))
  wtm_at "E"
  refine ⟨ty_str, ?_⟩
  refine da_cons (de_op (de_lstZ ?_))
  wtm_at "E"
  refine lc_map strF (gw_name (by simp)) ?_
  refine di_any ?_
  wtm_at "E"
  refine ixT (i := 0) rfl ?_
  refine ⟨_, _, .lst _, trivial, by rw [List.length_map]; omega, fun i d hd => ?_, fun out ho => ?_⟩
  · obtain ⟨y, hy, rfl⟩ := intsG hd
    have hy1 := hg.cal.each y (List.mem_of_getElem? hy)
    refine dg_name ⟨rfl, ?_⟩
    wtm_at "E"
    exact rc_strI (num_log (by omega) (by omega)) ⟨rfl, rfl⟩
  have ho : out = (ls.map numS).map D.str := by
    rw [← ho, List.map_map, List.map_map]
    rfl
  subst ho
  refine ro_addL (.lst _) (.lst _) (by simp; omega) ?_
  refine da_nil (rm_join (ys := calW ls) (by exact .lst _) (cal_bd hg.cal).1 ?_)
  wtm_at "E"
  refine q_for (di_any ?_)
  wtm_at "E"
  refine ixT (i := 1) rfl ?_
  refine ⟨_, _, .lst _, ?_⟩
  refine ⟨fun i ρ' μ' => μ' = μ ++ [.lst ((calS ls :: (fs.take i).map feastS).map D.str)] ∧ ∃ (a2 a3 a4 a5 a6 a7 a8 a9 a10 a11 a12 : Option D), ρ' = [some T, some (.own μ.length), a2, a3, a4, a5, a6, a7, a8, a9, a10, a11, a12, none, none], ⟨by simp; rfl, _, _, _, _, _, _, _, _, _, _, _, rfl⟩, fun _ _ _ _ _ => trivial, ?_, ?_⟩
  · rintro i d ρ' μ' hi ⟨rfl, a2, a3, a4, a5, a6, a7, a8, a9, a10, a11, a12, rfl⟩
    obtain ⟨f, hfi, rfl⟩ := feLT_get hi
    have hf := hg.fe f (List.mem_of_getElem? hfi)
    have l0 := hf.l0; have l1 := hf.l1; have p0 := hf.p0; have p1 := hf.p1
    have ham := hf.acts.most
    have hil := (List.getElem?_eq_some_iff.mp hfi).1
    refine dg_unl (.lst _) rfl ?_
    wtm_at "E"
    refine q_set (de_keptS (k := f.kept) (by rfl) (by simp) hf.kept ?_)
    refine q_set (de_op (de_lstZ ?_))
    wtm_at "E"
    refine rc_strI (num_log (by omega) (by omega)) ?_
    wtm_at "E"
    refine rc_strI (num_log (by omega) (by omega)) ?_
    wtm_at "E"
    refine lc_each f.acts actD (fun p => .str (combS p)) (gw_tup (gws_cons (i := 11) (vs := [11, 12]) (by simp) (gws_cons (i := 12) (by simp) gws_nil))) ?_
    refine di_any ?_
    wtm_at "v"
    unfold actsD
    refine ⟨_, _, .lst _, trivial, rfl, by omega, fun j p hp => ?_, .inl ?_⟩
    · have hpm := hf.acts.each p (List.mem_of_getElem? hp)
      have hs1 := (sort_ok hpm.2).2
      have hs2 := hpm.1.2.1
      have hb1 := one_sp
      unfold actD
      refine dg_tup rfl ?_
      wtm_at "E"
      refine ⟨rfl, ?_⟩
      refine de_op (de_op ?_)
      wtm_at "v"
      wtm_at "E"
      refine ro_addS (by omega) ?_
      wtm_at "v"
      refine ro_addS (by
        have : (p.2 ++ (" " : Str)).length = p.2.length + (" " : Str).length := by
          show (p.2.cps ++ (" " : Str).cps).size = _
          rw [Array.size_append]
          rfl
        omega) ?_
      exact ⟨rfl, rfl⟩
    refine ro_addL (.lst _) (.lst _) (by simp; omega) ?_
    have e0 : (([D.str "feast", D.str f.name, D.str (numS f.place), D.str (numS f.lasts), D.str (keptS f.kept)] : List D) ++ f.acts.map fun p => D.str (combS p)) = ((["feast", f.name, numS f.place, numS f.lasts, keptS f.kept] : List Str) ++ f.acts.map combS).map D.str := by simp
    have e1 : Txt.join " " ((["feast", f.name, numS f.place, numS f.lasts, keptS f.kept] : List Str) ++ f.acts.map combS) = feastS f := join_comb _ _
    refine ds_drop ?_
    wtm_at "E"
    refine ⟨ty_list (.own mu_last), ?_⟩
    refine da_cons ?_
    wtm_at "E"
    refine ⟨ty_str, ?_⟩
    wtm_at "E"
    refine rm_join (ys := (["feast", f.name, numS f.place, numS f.lasts, keptS f.kept] : List Str) ++ f.acts.map combS) (by rw [← e0]; exact .lst _) ?_ ?_
    · have hwd : ∀ w ∈ (["feast", f.name, numS f.place, numS f.lasts, keptS f.kept] : List Str) ++ f.acts.map combS, w.length ≤ 640 := fun w hw => by
        rcases List.mem_append.mp hw with hw | hw
        · exact (feast_wd hf w (by unfold feastW; exact List.mem_append_left _ hw)).2
        · obtain ⟨p, hp, rfl⟩ := List.mem_map.mp hw
          have hpm := hf.acts.each p hp
          have hs1 := (sort_ok hpm.2).2
          have hs2 := hpm.1.2.1
          have hb1 := one_sp
          have e := congrArg List.length (comb_cps p)
          rw [List.length_append, List.length_append, Array.length_toList, Array.length_toList, Array.length_toList, Array.length_toList] at e
          unfold Str.length at hs1 hs2 hb1 ⊢
          omega
      have hb := (join_bd (y := " ") (n := 13) one_sp hwd (by simp; omega)).1
      exact Nat.le_trans hb (by decide)
    rw [e1]
    refine da_nil (rm_app mu_last (by simp; omega) ?_)
    rw [set_last]
    refine ⟨?_, a2, _, _, _, _, _, _, a9, _, a11, a12, rfl⟩
    have e : fs.take (i + 1) = fs.take i ++ [f] := by
      rw [List.take_succ, hfi]
      rfl
    rw [e]
    simp
  · rintro ρ' μ' ⟨rfl, a2, a3, a4, a5, a6, a7, a8, a9, a10, a11, a12, rfl⟩
    rw [List.length_map, List.take_length]
    refine ds_freeze (i := 1) (k := μ.length) (by rfl) mu_last ?_
    rw [set_last]
    refine ds_ret (de_op ?_)
    wtm_at "v"
    refine lc_each rs lineL (fun r => .str (rowS r)) (gw_name (by simp)) ?_
    refine di_any ?_
    wtm_at "E"
    refine ixT (i := 2) rfl ?_
    refine ⟨_, _, .lst _, trivial, rfl, by omega, fun i r hr => ?_, .inl ?_⟩
    · have hgr := hg.rw r (List.mem_of_getElem? hr)
      refine dg_name ⟨rfl, ?_⟩
      refine de_bm ?_
      wtm_at "E"
      refine ⟨ty_str, da_cons ?_⟩
      refine lc_map strF (gw_name (by simp)) ?_
      refine di_any ?_
      wtm_at "v"
      unfold lineL
      refine ⟨_, _, .lst _, trivial, by unfold partsR; split <;> simp, fun j d hd => ?_, fun out ho => ?_⟩
      · refine dg_name ⟨rfl, ?_⟩
        wtm_at "E"
        rcases partsR_get hgr hd with ⟨x, rfl⟩ | ⟨n, rfl, n0, n1⟩
        · exact rc_strAS ⟨rfl, rfl⟩
        · exact rc_strAI (num_log (by omega) n1) ⟨rfl, rfl⟩
      · rw [strF_row] at ho
        subst ho
        exact da_nil (rm_join (ys := rowW r) (.lst _) (row_bd hgr).1 ⟨rfl, rfl⟩)
    have e : ((calS ls :: fs.map feastS).map D.str ++ rs.map fun r => D.str (rowS r)) = (textsH ls fs rs).map D.str := by
      unfold textsH
      simp [Function.comp_def]
    rcases h with h | h
    · refine ro_addL (.lst _) (.lst _) (by simp; omega) ?_
      rw [e]
      exact ret_same (Nat.le_refl _) hm (clL_map fun s _ => rfl) h
    · refine ro_addLO (.lst _) (.lst _) (by simp; omega) ?_
      rw [e]
      exact ret_same0 (by simp) ((hm.app rfl).app (clL_map fun s _ => rfl)) (by simp [D.cl]) (h [.dead])
end
def segKeep (p : Str → Bool) : D → Bool
  | .tup [_, _, .str s, _] => p s
  | _ => false
def segLen : D → D
  | .tup [.int a, .int b, _, _] => .int (b - a)
  | _ => .non
theorem seg_sums (p : Str → Bool) (gs : List SgT) : ((gs.map segD).filter (segKeep p)).map segLen = ((gs.filter fun g => p g.w.s).map fun g => g.b - g.a).map D.int := by
  induction gs with
  | nil => rfl
  | cons g t ih =>
    have e : segKeep p (segD g) = p g.w.s := rfl
    rw [List.map_cons, List.filter_cons, List.filter_cons, e]
    cases p g.w.s with
    | true => simp only [if_true, List.map_cons, ih]; rfl
    | false => simp only [Bool.false_eq_true, if_false, ih]
theorem rest_iff (w : Srt) : decide (w.s = "rest") = decide (w = .rest) := by cases w <;> decide +kernel
theorem free_iff (w : Srt) : decide (w.s = "free") = decide (w = .free) := by cases w <;> decide +kernel
section
variable {K : PySem.W.Frag}
theorem d_House_sums (kr : KRw K) (kh : KHo K) : ∀ ds μ P PX, c_House_sums K ds μ P PX → MuCl μ μ.length → clL ds μ.length = true → ∀ B E, XAg K B (RetX μ.length PX) E → DS K B (t_House_sums K E) (startD ["self", "name", "due", "free", "chart", "start", "end", "sort", "feast"] ds) μ (fnE μ.length P) := by
  intro ds μ P PX h hm hc B E hE
  obtain ⟨x, ls, fs, rs, r, rfl, hx, g, hr, h⟩ := h
  have hro := find_nd g.nr hr
  have hp := g.cal.pos
  have hq := g.cal.most
  have hfew := g.few
  have hl18 : ∀ c ∈ chartsFor ls fs r.name, c.length ≤ 18 := fun c hcm => by
    obtain ⟨j, _, rfl⟩ := List.mem_map.mp hcm
    exact chartOf_len hfew
  show DS K B _ [some x, some (.str r.name), none, none, none, none, none, none, none] μ _
  unfold t_House_sums
  wtm_at "A"
  refine q_for ?_
  refine di_any (de_dget (de_fldZ ?_))
  wtm_at "v"
  refine fph kh hx kh.charts (by rfl) ?_
  wtm_at "v"
  refine dgp_s (.dct _) (chK_val (by rw [hro]; rfl)) ?_
  refine ⟨_, _, .lst _, ?_⟩
  refine ⟨fun i ρ' μ' => μ' = μ ∧ ∃ a b c d e, ρ' = [some x, some (.str r.name), some (.int (((chartsFor ls fs r.name).take i).map dueIn).sum), some (.int (((chartsFor ls fs r.name).take i).map freeIn).sum), a, b, c, d, e], ⟨rfl, _, _, _, _, _, rfl⟩, fun _ _ _ _ _ => trivial, ?_, ?_⟩
  · intro i d ρ' μ' hd hv
    obtain ⟨hμ, a1, a2, a3, a4, a5, rfl⟩ := hv
    subst μ'
    obtain ⟨c, hci, rfl⟩ := charts_get hd
    have hcl := hl18 c (List.mem_of_getElem? hci)
    have hts := take_snoc hci
    wtm_at "A"
    refine lc_filt (segKeep fun s => !decide (s = "rest")) segLen (gw_tup (gws_cons (i := 5) (vs := [5, 6, 7, 8]) (by simp) (gws_cons (i := 6) (by simp) (gws_cons (i := 7) (by simp) (gws_cons (i := 8) (by simp) gws_nil))))) ?_
    wtm_at "A"
    refine ⟨_, _, .lst _, trivial, by simp; omega, fun j d hd => ?_, fun out ho => ?_⟩
    · obtain ⟨s, hs, rfl⟩ := segs_get hd
      wtm_at "A"
      refine ⟨rfl, ?_⟩
      refine dt_test ?_
      wtm_at "E"
      refine ro_neS s.w.ok (by decide +kernel) ?_
      refine ⟨_, rfl, rfl, rfl, fun _ => ?_⟩
      wtm_at "E"
      exact ⟨rfl, rfl⟩
    rw [seg_sums] at ho
    wtm_at "A"
    refine rc_sum (ns := (c.filter fun g => !decide (g.w.s = ("rest" : Str))).map fun g => g.b - g.a) (by rw [ho]; exact .lst _) ?_
    wtm_at "A"
    refine lc_filt (segKeep fun s => decide (s = "free")) segLen (gw_tup (gws_cons (i := 5) (vs := [5, 6, 7, 8]) (by simp) (gws_cons (i := 6) (by simp) (gws_cons (i := 7) (by simp) (gws_cons (i := 8) (by simp) gws_nil))))) ?_
    wtm_at "A"
    refine ⟨_, _, .lst _, trivial, by simp; omega, fun j d hd => ?_, fun out ho => ?_⟩
    · obtain ⟨s, hs, rfl⟩ := segs_get hd
      wtm_at "A"
      refine ⟨rfl, ?_⟩
      refine dt_test ?_
      wtm_at "E"
      refine ro_eqS s.w.ok (by decide +kernel) ?_
      refine ⟨_, rfl, rfl, rfl, fun _ => ?_⟩
      wtm_at "E"
      exact ⟨rfl, rfl⟩
    rw [seg_sums] at ho
    wtm_at "A"
    refine rc_sum (ns := (c.filter fun g => decide (g.w.s = ("free" : Str))).map fun g => g.b - g.a) (by rw [ho]; exact .lst _) ?_
    wtm_at "A"
    refine ⟨rfl, some (.lst (c.map segD)), a2, a3, a4, a5, ?_⟩
    rw [hts, List.map_append, List.map_append, List.sum_append, List.sum_append]
    simp only [List.map_cons, List.map_nil, List.sum_cons, List.sum_nil, Int.add_zero, dueIn, freeIn, rest_iff, free_iff]
    rfl
  · intro ρ' μ' hv
    obtain ⟨hμ, a1, a2, a3, a4, a5, rfl⟩ := hv
    subst μ'
    have hn : ((chartsFor ls fs r.name).map fun c => D.lst (c.map segD)).length = (chartsFor ls fs r.name).length := List.length_map _
    rw [hn, List.take_length]
    have hmb : 1 ≤ r.most ∧ r.most ≤ 9 := ⟨(g.rw r hr).t0, (g.rw r hr).t1⟩
    wtm_at "A"
    refine mph hx (by rfl) ?_
    wtm_at "E"
    refine ⟨x, ls, fs, rs, r.name, rfl, hx, g.rw, (g.rw r hr).name.strOk, fun q hq => ?_, fun hq => ?_⟩
    · rw [hro] at hq
      cases hq
      refine fpr_most kr ?_
      wtm_at "A"
      refine ret_same0 (Nat.le_refl _) hm rfl h
    · rw [hro] at hq
      cases hq
theorem d_House_calendar (kh : KHo K) : ∀ ds μ P PX, c_House_calendar K ds μ P PX → MuCl μ μ.length → clL ds μ.length = true → ∀ B E, XAg K B (RetX μ.length PX) E → DS K B (t_House_calendar K E) (startD ["self"] ds) μ (fnE μ.length P) := by
  intro ds μ P PX h hm hc B E hE
  obtain ⟨ls, fs, rs, rfl, h⟩ := h
  have k1 := kh.cl; have k2 := kh.wheel
  show DS K B _ [some (hoD K ls fs rs)] μ _
  unfold t_House_calendar hoD
  wtm_at "A"
  exact ret_same0 (Nat.le_refl _) hm (by simp [calD, calF, intsD, D.cl, clF, cl_ints]) h
end
section
theorem hold0_cl {μ : Mu} {cs : List Int} (hm : MuCl μ μ.length) : MuCl (μ ++ [MO.lst (cs.map D.int), MO.lst [D.int 0, D.own μ.length]]) (μ ++ [MO.lst (cs.map D.int), MO.lst [D.int 0, D.own μ.length]]).length := by
  have h1 := hm.app (o := .lst (cs.map D.int)) (by simp only [MO.cl]; exact cl_ints _ _)
  have h2 := h1.app (o := MO.lst [D.int 0, D.own μ.length]) (by simp [MO.cl, clL, D.cl])
  rw [List.append_assoc] at h2
  exact h2
end
def c_law (K : PySem.W.Frag) : CT := fun ds μ P PX => ∃ ns : List Int, ds = [.rdl (ns.map D.int)] ∧ ns.length ≤ 63 ∧ ∀ μ', P (.bl true) μ'
theorem txt_shp {ls : List Int} {fs : List FeT} {rs : List RwT} (h : GHo ls fs rs) : (D.lst ((textsH ls fs rs).map D.str)).shp 1 = true := by
  rw [D.shp]
  simp only [Bool.and_eq_true, decide_eq_true_eq]
  exact ⟨by decide, ws_shp (texts_wok h) 0⟩
theorem ixN_in {n : Nat} {i : Int} (h0 : 0 ≤ i) (h1 : i < n) : ixN n i = some i.toNat := by
  obtain ⟨j, rfl⟩ : ∃ j : Nat, i = j := ⟨i.toNat, by omega⟩
  unfold ixN
  simp
  omega
def t_law (K : PySem.W.Frag) (E : XK) : TS :=
    (tSeq (tAsg (tLst (tCons (tC (.int 0)) (tCons (tIf (tTest (tOp (rNeD K) (tVar 0) (tLst tNil))) (tCB (rListOf K) (tCons (tVar 0) tNil)) (tLst (tCons (tC (.int 0)) tNil))) tNil))) (gName 1))
      (tSeq (tFor (iRng1 (tCons (tCB (rMaxA K) (tCons (tC (.int 1)) (tCons (tCB (rMinA K) (tCons (tC (.int 3)) (tCons (tCB (rLen K) (tCons (tVar 0) tNil)) tNil))) tNil))) tNil)) (gName 2) (tSeq (tAsg (tCall (spD K (c_law_parts K)) [] E (tCons (tVar 1) tNil)) (gName 3))
      (tSeq (tAsg (tLc (iAny K (tOp (rIx K) (tVar 3) (tC (.int 1)))) (gName 5) tYes (tCall (spD K (c_law_feast_made K)) [] E0 (tCons (tVar 5) tNil)) [5]) (gName 4))
      (tSeq (tAsg (tLc (iAny K (tOp (rIx K) (tVar 3) (tC (.int 2)))) (gName 7) tYes (tCall (spD K (c_law_line_made K)) [] E0 (tCons (tVar 7) tNil)) [7]) (gName 6))
      (tSeq (tAsg (tMake (He.ga K "House") (spD K (c_House_init K)) [] E (tCons (tMake (He.ga K "Calendar") (spD K (c_Calendar_init K)) [] E (tCons (tCB (rListOf K) (tCons (tOp (rIx K) (tVar 3) (tC (.int 0))) tNil)) tNil)) (tCons (tVar 4) (tCons (tVar 6) tNil)))) (gName 8))
      (tSeq (tDrop (tBM0 K "list" rClear (tVar 4)))
      (tSeq (tDrop (tBM0 K "list" rReverse (tVar 6)))
      (tFor (iRng1 (tCons (tC (.int 2)) tNil)) (gName 9) (tSeq (tAsg (tCall (spD K (c_house_text K)) [] E (tCons (tVar 8) tNil)) (gName 10))
      (tSeq (tIfS (tOr (tNot (tTruth K (tCB (rIsi K) (tCons (tVar 10) (tCons (tC (.ty "list")) tNil))))) (tTest (tOp (rNeD K) (tVar 10) (tCall (spD K (c_law_texts K)) [] E (tCons (tVar 3) tNil))))) (tRet (tC (.bl false))) tNext)
      (tSeq (tAsg (tC (.str "calendar 7")) (gSub (tVar 10) (tCall (spD K (c_law_draw K)) [] E (tCons (tVar 1) (tCons (tCB (rLen K) (tCons (tVar 10) tNil)) tNil))) rSetL))
      (tDrop (tBM K "list" rAppend (tVar 10) (tCons (tC (.str "going mist 3 1 0")) tNil))))))))))))))
      (tRet (tC (.bl true)))))
section
variable {K : PySem.W.Frag}
theorem d_law : ∀ ds μ P PX, c_law K ds μ P PX → MuCl μ μ.length → clL ds μ.length = true → ∀ B E, XAg K B (RetX μ.length PX) E → DS K B (t_law K E) (startD ["_law_script", "_law_hold", "_law_k", "_law_house", "_law_feasts", "_law_some", "_law_lines", "_law_line_here", "_law_made", "_law_turn", "_law_found"] ds) μ (fnE μ.length P) := by
  intro ds μ P PX h hm hc B E hE
  obtain ⟨ns, rfl, hl, h⟩ := h
  show DS K B _ [some (.rdl (ns.map D.int)), none, none, none, none, none, none, none, none, none, none] μ _
  unfold t_law
  wtm_at "dS"
  refine de_hold0 rfl hl fun cs hd0 => ?_
  have hm0 := hold0_cl (cs := cs) hm
  have hle : μ.length ≤ (μ ++ [MO.lst (cs.map D.int), MO.lst [D.int 0, D.own μ.length]]).length := by simp
  have hfin : ∀ (c : Int) (cs' : List Int) (ext : Mu), ∃ ext', hold (μ ++ [MO.lst (cs.map D.int), MO.lst [D.int 0, D.own μ.length]]) (μ.length + 1) μ.length c cs' ++ ext = μ ++ ext' := fun c cs' ext => by
    unfold hold
    rw [List.set_append_right _ _ (by omega), List.set_append_right _ _ (by omega), List.append_assoc]
    exact ⟨_, rfl⟩
  generalize μ ++ [MO.lst (cs.map D.int), MO.lst [D.int 0, D.own μ.length]] = μ0 at hd0 hm0 hle hfin ⊢
  generalize μ.length + 1 = k at hd0 hfin ⊢
  generalize hk2 : μ.length = k2 at hd0 hfin
  refine q_for ?_
  wtm_at "E"
  refine ⟨by rw [List.length_map]; omega, by rw [List.length_map]; omega, fun i ρ μ' => ∃ (y2 y3 y4 y5 y6 y7 y8 y9 y10 : Option D) (c : Int) (cs' : List Int) (ext : Mu), ρ = [some (.rdl (ns.map D.int)), some (.own k), y2, y3, y4, y5, y6, y7, y8, y9, y10] ∧ μ' = hold μ0 k k2 c cs' ++ ext ∧ 0 ≤ c ∧ c ≤ 4000 * i ∧ cs'.length = cs.length,
    ⟨none, none, none, none, none, none, none, none, none, 0, cs, [], rfl, by rw [hold_same hd0]; simp, by omega, by omega, rfl⟩, fun _ _ _ _ _ => trivial, ?_, ?_⟩
  · rintro i d ρ μ' hd ⟨y2, y3, y4, y5, y6, y7, y8, y9, y10, c, cs', ext, rfl, rfl, hc0', hc1', hn'⟩
    obtain ⟨hi, rfl⟩ := rangeD_some hd
    have hi63 : i < 63 := by rw [List.length_map] at hi; omega
    have hd1 := hd0.hold (c' := c) (ns' := cs') hc0' hn'
    refine dg_name ?_
    refine q_set ?_
    wtm_at "E"
    refine ⟨k, k2, c, cs', rfl, hd1.app _, by omega, fun ls fs rs c2 cs2 hs hc2 hc2' hn2 => ?_⟩
    rw [hold_app hd1, hold_hold hd0.ne]
    have hd2 := hd0.hold (c' := c2) (ns' := cs2) (by omega) (by omega)
    have h8 := hs.few; have h4 := hs.r4
    have hcl2 : ∃ μ1, μ1 = hold μ0 k k2 c2 cs2 ++ ext := ⟨_, rfl⟩
    obtain ⟨μ1, hμ1⟩ := hcl2
    rw [← hμ1]
    have hsh := txt_shp hs.toGHo
    have htl := texts_len ls fs rs
    refine q_set (lc_each fs feLT (feD K) (gw_name (by simp)) ?_)
    refine di_any ?_
    unfold partsH
    wtm_at "E"
    refine ro_ixL (.lst _) (at_natT (j := 1) rfl) ?_
    refine ⟨_, _, .lst _, trivial, rfl, by omega, fun j f hf => ?_, .inr ?_⟩
    · refine dg_name ⟨rfl, de_call XAg.none ?_⟩
      wtm_at "E"
      exact ⟨f, rfl, hs.fe f (List.mem_of_getElem? hf), rfl, rfl⟩
    refine q_set (lc_each rs lineL (rowD K) (gw_name (by simp)) ?_)
    refine di_any ?_
    wtm_at "E"
    refine ro_ixL (.lst _) (at_natT (j := 2) rfl) ?_
    refine ⟨_, _, .lst _, trivial, rfl, by omega, fun j r hr => ?_, .inr ?_⟩
    · refine dg_name ⟨rfl, de_call XAg.none ?_⟩
      wtm_at "E"
      exact ⟨r, rfl, hs.rw r (List.mem_of_getElem? hr), rfl, rfl⟩
    obtain ⟨ν, hν⟩ : ∃ ν, ν = μ1 ++ [MO.lst (fs.map (feD K))] ++ [MO.lst (rs.map (rowD K))] := ⟨_, rfl⟩
    have hνf : ν[μ1.length]? = some (.lst (fs.map (feD K))) := by rw [hν]; exact mu_old mu_last
    have hνr : ν[(μ1 ++ [MO.lst (fs.map (feD K))]).length]? = some (.lst (rs.map (rowD K))) := by rw [hν]; exact mu_last
    rw [← hν]
    obtain ⟨jr, hjr⟩ : ∃ jr, jr = (μ1 ++ [MO.lst (fs.map (feD K))]).length := ⟨_, rfl⟩
    rw [← hjr] at hνr ⊢
    have hjr2 : jr ≠ μ1.length := by rw [hjr]; simp
    refine q_set (de_house hE ?_)
    refine da_cons (de_calT hE (da_cons ?_))
    wtm_at "E"
    refine ro_ixL (.lst _) (at_natT (j := 0) rfl) ?_
    unfold intsD
    wtm_at "E"
    refine ⟨_, ls, rfl, .id _, hs.cal, ?_⟩
    wtm_at "E"
    refine ⟨ls, fs, rs, _, _, rfl, hs, .own hνf, .own hνr, by simp only [tyD, hνf], by simp only [tyD, hνr], ?_⟩
    refine q_drop (de_bm0 ?_)
    wtm_at "E"
    refine ⟨ty_list (.own hνf), rm_clear hνf ?_⟩
    have hνr2 : (ν.set μ1.length (MO.lst []))[jr]? = some (.lst (rs.map (rowD K))) := by rw [List.getElem?_set_ne (Ne.symm hjr2)]; exact hνr
    refine q_drop (de_bm0 ?_)
    wtm_at "E"
    refine ⟨ty_list (.own hνr2), rm_reverse hνr2 ?_⟩
    have hμ3 : ∃ ext3, (ν.set μ1.length (MO.lst [])).set jr (MO.lst (rs.map (rowD K)).reverse) = hold μ0 k k2 c2 cs2 ++ ext3 := by
      rw [hν, hjr]
      refine ⟨ext ++ [.lst []] ++ [.lst (rs.map (rowD K)).reverse], ?_⟩
      rw [List.set_append_left _ _ (by simp), set_last]
      have e : (μ1 ++ [MO.lst (fs.map (feD K))]).length = (μ1 ++ [MO.lst []]).length := by simp
      rw [e, set_last, hμ1]
      simp
    obtain ⟨ext3, hμ3⟩ := hμ3
    rw [hμ3]
    obtain ⟨T, hT⟩ : ∃ T : D, T = partsH ls fs rs := ⟨_, rfl⟩
    refine ds_for ?_
    wtm_at "E"
    refine ⟨by omega, by omega, fun j ρ μ' => ∃ (y9 y10 : Option D) (c3 : Int) (cs3 : List Int) (ext4 : Mu), ρ = [some (.rdl (ns.map D.int)), some (.own k), some (.int (0 + (i : Int))), some (partsH ls fs rs), some (.own μ1.length), y5, some (.own jr), y7, some (hoD K ls fs rs), y9, y10] ∧ μ' = hold μ0 k k2 c3 cs3 ++ ext4 ∧ c2 ≤ c3 ∧ c3 ≤ c2 + j ∧ cs3.length = cs.length,
      ⟨_, _, c2, cs2, ext3, rfl, rfl, by omega, by omega, by omega⟩, fun _ _ _ _ _ => trivial, ?_, ?_⟩
    · rintro j d ρ μ' hd ⟨y9, y10, c3, cs3, ext4, rfl, rfl, hc3, hc3', hn3⟩
      obtain ⟨hj, rfl⟩ := rangeD_some hd
      have hj2 : j < 2 := by simpa using hj
      have hd3 := hd0.hold (c' := c3) (ns' := cs3) (by omega) hn3
      refine dg_name ?_
      refine q_set ?_
      wtm_at "E"
      refine ⟨ls, fs, rs, rfl, hs, .inr ?_⟩
      have hk0 : (hold μ0 k k2 c3 cs3 ++ ext4 ++ [MO.lst ((textsH ls fs rs).map D.str)])[(hold μ0 k k2 c3 cs3 ++ ext4).length]? = some (.lst ((textsH ls fs rs).map D.str)) := mu_last
      refine q_when (dt_or (dt_not (dt_truth (de_cb ?_))))
      wtm_at "E"
      refine rc_isiB (n := "list") (by simp only [tyD, hk0]) (by rfl) ?_
      wtm_at "E"
      refine ⟨ls, fs, rs, rfl, hs, .inl ?_⟩
      refine ro_neD (n := 1) (m := 1) (.own hk0) (.id _) hsh hsh ?_
      rw [eqvD_refl hsh]
      wtm_at "E"
      refine q_asg ?_
      wtm_at "E"
      rw [List.length_map, htl, List.append_assoc]
      refine ⟨k, k2, _, cs3, ((1 + fs.length + rs.length : Nat) : Int), rfl, hd3.app _, by omega, by omega, by omega, fun q cs4 hq0 hq1 hn4 => ?_⟩
      rw [hold_app hd3, hold_hold hd0.ne]
      have elen : (hold μ0 k k2 c3 cs3 ++ ext4).length = (hold μ0 k k2 (c3 + 1) cs4 ++ ext4).length := by
        rw [List.length_append, List.length_append, hold_len, hold_len]
      rw [elen, ← List.append_assoc]
      refine rset_lst mu_last (ixN_in hq0 (by rw [List.length_map, htl]; exact hq1)) ?_
      rw [set_last]
      refine ds_drop ?_
      wtm_at "E"
      refine ⟨ty_list (.own mu_last), ?_⟩
      wtm_at "E"
      refine rm_app mu_last (by simp; omega) ?_
      rw [set_last]
      exact ⟨_, _, c3 + 1, cs4, _, rfl, by rw [List.append_assoc], by omega, by omega, by omega⟩
    · rintro ρ μ' ⟨y9, y10, c3, cs3, ext4, rfl, rfl, hc3, hc3', hn3⟩
      rw [rangeD_length] at hc3'
      exact ⟨_, _, _, _, _, _, _, _, _, c3, cs3, ext4, rfl, rfl, by omega, by omega, hn3⟩
  · rintro ρ μ' ⟨y2, y3, y4, y5, y6, y7, y8, y9, y10, c, cs', ext, rfl, rfl, hc0', hc1', hn'⟩
    obtain ⟨ext', e⟩ := hfin c cs' ext
    rw [e]
    refine ds_ret ?_
    wtm_at "E"
    exact ret_same (by omega) hm rfl (h _)
end
local macro_rules | `(tactic| wtm_at "ln") => `(tactic| (intro ds μ P PX h; first | (obtain ⟨_, e, _⟩ := h; exact congrArg List.length e) | (obtain ⟨_, _, e, _⟩ := h; exact congrArg List.length e) | (obtain ⟨_, _, _, e, _⟩ := h; exact congrArg List.length e) | (obtain ⟨_, _, _, _, e, _⟩ := h; exact congrArg List.length e) | (obtain ⟨_, _, _, _, _, e, _⟩ := h; exact congrArg List.length e) | (obtain ⟨_, _, _, _, _, _, e, _⟩ := h; exact congrArg List.length e) | (obtain ⟨_, _, _, _, _, _, _, e, _⟩ := h; exact congrArg List.length e) | (obtain ⟨_, _, _, _, _, _, _, _, e, _⟩ := h; exact congrArg List.length e) | (obtain ⟨_, _, _, _, _, _, _, _, _, e, _⟩ := h; exact congrArg List.length e) | (obtain ⟨_, _, _, _, _, _, _, _, _, _, e, _⟩ := h; exact congrArg List.length e) | (obtain ⟨_, _, _, _, _, _, _, _, _, _, _, e, _⟩ := h; exact congrArg List.length e) | (obtain ⟨_, _, _, _, _, _, _, _, _, _, _, _, e, _⟩ := h; exact congrArg List.length e) | (obtain ⟨_, _, _, _, _, _, _, _, _, _, _, _, _, e, _⟩ := h; exact congrArg List.length e) | (obtain ⟨_, _, _, _, _, _, _, _, _, _, _, _, _, _, e, _⟩ := h; exact congrArg List.length e)))
local macro_rules | `(tactic| wtm_at "oi") => `(tactic| first | exact Or.inl rfl | exact Or.inr rfl)
structure FQ (P : Program) (w : World) (K : PySem.W.Frag) (mg : Str → Option Value) (base : Heap) (n : Nat) (f : Addr) (fd : FuncData) (ps : List Str) (C : CT) : Prop where
  F : FnOk P w K mg base (L2.CX P w) n f fd ps (spD K C)
  B : Binds K fd ps []
structure FG (P : Program) (w : World) (K : PySem.W.Frag) (mg : Str → Option Value) (base : Heap) (n : Nat) (f : Addr) (fd : FuncData) (ps : List Str) (C : CT) (x : Str) : Prop extends FQ P w K mg base n f fd ps C where
  m : mg x = some (.ref f)
  k : PySem.W.keepIn K (.ref f) = true
abbrev GD (K : PySem.W.Frag) (a b : Str) (s : Stmt) (f : Addr) (fd : FuncData) : Prop := FunD K a b (defArgs s) (defBody s) (defScope s) [] [] f fd
section
variable {P : Program} {w : World} {K : PySem.W.Frag} {mg : Str → Option Value} {base : Heap}
set_option maxHeartbeats 1000000
local macro_rules | `(tactic| wtm_at "pk") => `(tactic| exact passes_call (takes_of rfl rfl rfl rfl) (fun _ _ _ _ h => h))
local macro_rules | `(tactic| wtm_at "sn") => `(tactic| exact ⟨rfl, rfl, rfl, by decide +kernel, rfl, by decide +kernel, by decide +kernel⟩)
/-! ### the text, def by def -/
abbrev N_law_draw : List Str := ["_law_hold", "_law_many", "_law_spot", "_law_cell", "_law_mark"]
theorem sc_law_draw : FnScope N_law_draw ["_law_hold", "_law_many"] (defScope s_law_draw) := by wtm_at "sn"
theorem ok_law_draw {f : Addr} {fd : FuncData} (F : GD K "_law_draw" "_law_draw" s_law_draw f fd) (n_len : mg "len" = none) :
    FnOk P w K mg base (L2.CX P w) 1 f fd ["_law_hold", "_law_many"] (spD K (c_law_draw K)) :=
  fn_DD (t := t_law_draw K) F sc_law_draw (by wtm_at "ln") (by decide)
    (fun cdv A outer s H E hr => by exact
      (pss_cons (ps_set (i := 2) sc_law_draw.nd rfl (by wtm_at "oi") (pe_op op_modA (pe_ix ix_seq (pv 0) pe_int (fun _ _ => rfl)) (pe_callB call_len (by rfl) n_len (by decide +kernel) (pa_cons (pe_ix ix_seq (pv 0) pe_int (fun _ _ => rfl)) pa_nil))))
      (pss_cons (ps_set (i := 3) sc_law_draw.nd rfl (by wtm_at "oi") (pe_ix ix_seq (pe_ix ix_seq (pv 0) pe_int (fun _ _ => rfl)) (pv 2) (fun _ _ => rfl)))
      (pss_cons (ps_augS (pv 0) pe_int get_list pe_int ip_add set_list)
      (pss_cons (ps_if (pt_cmpR op_ge (pv 3) pe_int (nomark _)) (pss_cons (ps_asg (pe_op op_fdivA (pv 3) (pv 1)) (pg_sub (pe_ix ix_seq (pv 0) pe_int (fun _ _ => rfl)) (pv 2) set_list))
      (pss_one (ps_ret (pe_op op_modA (pv 3) (pv 1))))) pss_nil)
      (pss_cons (ps_set (i := 4) sc_law_draw.nd rfl (by wtm_at "oi") (pe_op op_modA (pe_op op_addA (pe_op op_modA (pv 3) pe_int) (pe_op op_mulA pe_int (pe_ix ix_seq (pv 0) pe_int (fun _ _ => rfl)))) pe_int))
      (pss_cons (ps_set (i := 4) sc_law_draw.nd rfl (by wtm_at "oi") (pe_op op_modA (pe_op op_mulA (pe_op op_modA (pe_op op_pow (pv 4) pe_int) pe_int) pe_int) pe_int))
      (pss_one (ps_ret (pe_op op_modA (pe_op op_fdivA (pe_op op_modA (pe_op op_pow (pe_op op_addA (pv 4) (pe_op op_mulA (pe_op op_modA (pv 3) pe_int) (pe_ix ix_seq (pv 0) pe_int (fun _ _ => rfl)))) pe_int) pe_int) pe_int) (pv 1)))))))))))
    (d_law_draw)
abbrev N_law_lengths : List Str := ["_law_hold", "_law_most", "_law_many", "_law_way", "_law_some", "_law_k"]
theorem sc_law_lengths : FnScope N_law_lengths ["_law_hold", "_law_most", "_law_many"] (defScope s_law_lengths) := by wtm_at "sn"
theorem ok_law_lengths {f : Addr} {fd : FuncData} {f_law_draw : Addr} {fd_law_draw : FuncData} (F : GD K "_law_lengths" "_law_lengths" s_law_lengths f fd) (F_law_draw : FG P w K mg base 1 f_law_draw fd_law_draw ["_law_hold", "_law_many"] (c_law_draw K) "_law_draw") (n_range : mg "range" = none) :
    FnOk P w K mg base (L2.CX P w) 2 f fd ["_law_hold", "_law_most", "_law_many"] (spD K (c_law_lengths K)) :=
  fn_DD (t := t_law_lengths K) F sc_law_lengths (by wtm_at "ln") (by decide)
    (fun cdv A outer s H E hr => by exact
      (pss_cons (ps_set (i := 3) sc_law_lengths.nd rfl (by wtm_at "oi") (pe_call F_law_draw.F (hr.mono (by decide)) (by rfl) F_law_draw.m F_law_draw.k F_law_draw.B .nil (by wtm_at "pk") (pa_cons (pv 0) (pa_cons pe_int pa_nil))))
      (pss_cons (ps_if (pt_cmpR (op_eqD hr.units) (pv 3) pe_int (nomark _)) (pss_one (ps_ret (pe_op op_mulA (pe_lst (pa_cons (pv 1) pa_nil)) (pv 2)))) pss_nil)
      (pss_cons (ps_set (i := 4) sc_law_lengths.nd rfl (by wtm_at "oi") (pe_ix ix_seq (pe_lst (pa_cons pe_int (pa_cons pe_int (pa_cons pe_int (pa_cons (pv 1) (pa_cons (pv 1) (pa_cons (pv 1) (pa_cons (pv 1) pa_nil)))))))) (pe_op op_sub (pv 3) pe_int) (fun _ _ => rfl)))
      (pss_one (ps_ret (pe_lc (own := [("_law_k", 5)]) (g := (gName 5)) (tt := tYes) (te := (tOp (rAddA K) (tC (.int 1)) (tCall (spD K (c_law_draw K)) [] E0 (tCons (tVar 0) (tCons (tVar 4) tNil))))) (by rfl) sc_law_lengths.nd (pi_range1 (by rfl) n_range (pa_cons (pe_op op_addA pe_int (pe_call F_law_draw.F (hr.mono (by decide)) (by rfl) F_law_draw.m F_law_draw.k F_law_draw.B .nil (by wtm_at "pk") (pa_cons (pv 0) (pa_cons (pv 2) pa_nil)))) pa_nil)) (blkOk_by (own := [("_law_k", 5)]) (N := N_law_lengths) (sc := defScope s_law_lengths) (by decide +kernel)) (fun _ _ _ _ _ => by exact (pg_name (i := 5) sc_law_lengths.nd rfl (by wtm_at "oi"))) (fun _ _ _ _ _ => by exact pts_nil) (fun _ _ _ _ _ => by exact (pe_op op_addA pe_int (pe_call F_law_draw.F (hr.mono (by decide)) (by rfl) F_law_draw.m F_law_draw.k F_law_draw.B .nil passL (pa_cons (pv 0) (pa_cons (pv 4) pa_nil))))))))))))
    (d_law_lengths)
abbrev N_law_name : List Str := ["_law_hold", "_law_words", "_law_way", "_law_letters", "_law_k"]
theorem sc_law_name : FnScope N_law_name ["_law_hold"] (defScope s_law_name) := by wtm_at "sn"
theorem ok_law_name {f : Addr} {fd : FuncData} {f_law_draw : Addr} {fd_law_draw : FuncData} (F : GD K "_law_name" "_law_name" s_law_name f fd) (F_law_draw : FG P w K mg base 1 f_law_draw fd_law_draw ["_law_hold", "_law_many"] (c_law_draw K) "_law_draw") (n_range : mg "range" = none) :
    FnOk P w K mg base (L2.CX P w) 2 f fd ["_law_hold"] (spD K (c_law_name K)) :=
  fn_DD (t := t_law_name K) F sc_law_name (by wtm_at "ln") (by decide)
    (fun cdv A outer s H E hr => by exact
      (pss_cons (ps_set (i := 1) sc_law_name.nd rfl (by wtm_at "oi") (pe_lst (pa_cons pe_str (pa_cons pe_str (pa_cons pe_str (pa_cons pe_str (pa_cons pe_str (pa_cons pe_str (pa_cons pe_str (pa_cons pe_str (pa_cons pe_str (pa_cons pe_str (pa_cons pe_str (pa_cons pe_str (pa_cons pe_str pa_nil)))))))))))))))
      (pss_cons (ps_set (i := 2) sc_law_name.nd rfl (by wtm_at "oi") (pe_call F_law_draw.F (hr.mono (by decide)) (by rfl) F_law_draw.m F_law_draw.k F_law_draw.B .nil (by wtm_at "pk") (pa_cons (pv 0) (pa_cons pe_int pa_nil))))
      (pss_cons (ps_if (pt_cmpR op_lt (pv 2) pe_int (nomark _)) (pss_one (ps_ret (pe_ix ix_seq (pv 1) (pv 2) (fun _ _ => rfl)))) pss_nil)
      (pss_cons (ps_set (i := 3) sc_law_name.nd rfl (by wtm_at "oi") pe_str)
      (pss_one (ps_ret (pe_bm PySem.F.plainAttrs_str PySem.F.slot_str_join PySem.F.type_str_join mt_join pe_str (pa_cons (pe_lc (own := [("_law_k", 4)]) (g := (gName 4)) (tt := tYes) (te := (tOp (rIx K) (tVar 3) (tCall (spD K (c_law_draw K)) [] E0 (tCons (tVar 0) (tCons (tC (.int 26)) tNil))))) (by rfl) sc_law_name.nd (pi_range1 (by rfl) n_range (pa_cons (pe_op op_addA pe_int (pe_call F_law_draw.F (hr.mono (by decide)) (by rfl) F_law_draw.m F_law_draw.k F_law_draw.B .nil (by wtm_at "pk") (pa_cons (pv 0) (pa_cons pe_int pa_nil)))) pa_nil)) (blkOk_by (own := [("_law_k", 4)]) (N := N_law_name) (sc := defScope s_law_name) (by decide +kernel)) (fun _ _ _ _ _ => by exact (pg_name (i := 4) sc_law_name.nd rfl (by wtm_at "oi"))) (fun _ _ _ _ _ => by exact pts_nil) (fun _ _ _ _ _ => by exact (pe_ix ix_seq (pv 3) (pe_call F_law_draw.F (hr.mono (by decide)) (by rfl) F_law_draw.m F_law_draw.k F_law_draw.B .nil passL (pa_cons (pv 0) (pa_cons pe_int pa_nil))) (fun _ _ => rfl)))) pa_nil)))))))))
    (d_law_name)
abbrev N_law_names : List Str := ["_law_hold", "_law_many", "_law_found", "_law_k", "_law_word", "_law_one"]
theorem sc_law_names : FnScope N_law_names ["_law_hold", "_law_many"] (defScope s_law_names) := by wtm_at "sn"
theorem ok_law_names {f : Addr} {fd : FuncData} {f_law_name : Addr} {fd_law_name : FuncData} (F : GD K "_law_names" "_law_names" s_law_names f fd) (F_law_name : FG P w K mg base 2 f_law_name fd_law_name ["_law_hold"] (c_law_name K) "_law_name") (n_range : mg "range" = none) :
    FnOk P w K mg base (L2.CX P w) 3 f fd ["_law_hold", "_law_many"] (spD K (c_law_names K)) :=
  fn_DD (t := t_law_names K) F sc_law_names (by wtm_at "ln") (by decide)
    (fun cdv A outer s H E hr => by exact
      (pss_cons (ps_set (i := 2) sc_law_names.nd rfl (by wtm_at "oi") (pe_lst pa_nil))
      (pss_cons (ps_for (passes_of rfl) rfl (pi_range1 (by rfl) n_range (pa_cons (pv 1) pa_nil)) (pg_name (i := 3) sc_law_names.nd rfl (by wtm_at "oi")) (pss_cons (ps_set (i := 4) sc_law_names.nd rfl (by wtm_at "oi") (pe_call F_law_name.F (hr.mono (by decide)) (by rfl) F_law_name.m F_law_name.k F_law_name.B .nil (by wtm_at "pk") (pa_cons (pv 0) pa_nil)))
      (pss_cons (ps_if (pt_cmpR op_inA (pv 4) (pv 2) (by rfl)) (pss_one (ps_set (i := 4) sc_law_names.nd rfl (by wtm_at "oi") (pe_ix ix_seq (pe_lc (own := [("_law_one", 5)]) (g := (gName 5)) (tt := (tTest (tOp (rNotInA K) (tVar 5) (tVar 2)))) (te := (tVar 5)) (by rfl) sc_law_names.nd (pi_any (pe_lst (pa_cons pe_str (pa_cons pe_str (pa_cons pe_str (pa_cons pe_str (pa_cons pe_str (pa_cons pe_str (pa_cons pe_str (pa_cons pe_str (pa_cons pe_str pa_nil))))))))))) (blkOk_by (own := [("_law_one", 5)]) (N := N_law_names) (sc := defScope s_law_names) (by decide +kernel)) (fun _ _ _ _ _ => by exact (pg_name (i := 5) sc_law_names.nd rfl (by wtm_at "oi"))) (fun _ _ _ _ _ => by exact (pts_one (pt_cmpR op_notInA (pv 5) (pv 2) (by rfl)))) (fun _ _ _ _ _ => by exact (pv 5))) pe_int (fun _ _ => rfl)))) pss_nil)
      (pss_one (ps_expr (pe_bm PySem.F.plainAttrs_list PySem.F.slot_list_append PySem.F.type_list_append mt_append (pv 2) (pa_cons (pv 4) pa_nil)))))))
      (pss_one (ps_ret (pv 2))))))
    (d_law_names)
abbrev N_law_feast : List Str := ["_law_hold", "_law_name_here", "_law_lengths_here", "_law_words", "_law_way", "_law_far", "_law_near", "_law_spot", "_law_lasts", "_law_one", "_law_kept", "_law_number", "_law_left", "_law_acts", "_law_k"]
theorem sc_law_feast : FnScope N_law_feast ["_law_hold", "_law_name_here", "_law_lengths_here", "_law_words"] (defScope s_law_feast) := by wtm_at "sn"
theorem ok_law_feast {f : Addr} {fd : FuncData} {f_law_draw : Addr} {fd_law_draw : FuncData} (F : GD K "_law_feast" "_law_feast" s_law_feast f fd) (F_law_draw : FG P w K mg base 1 f_law_draw fd_law_draw ["_law_hold", "_law_many"] (c_law_draw K) "_law_draw") (n_max : mg "max" = none) (n_len : mg "len" = none) (n_range : mg "range" = none) (n_list : mg "list" = none) :
    FnOk P w K mg base (L2.CX P w) 2 f fd ["_law_hold", "_law_name_here", "_law_lengths_here", "_law_words"] (spD K (c_law_feast K)) :=
  fn_DD (t := t_law_feast K) F sc_law_feast (by wtm_at "ln") (by decide)
    (fun cdv A outer s H E hr => by exact
      (pss_cons (ps_set (i := 4) sc_law_feast.nd rfl (by wtm_at "oi") (pe_call F_law_draw.F (hr.mono (by decide)) (by rfl) F_law_draw.m F_law_draw.k F_law_draw.B .nil (by wtm_at "pk") (pa_cons (pv 0) (pa_cons pe_int pa_nil))))
      (pss_cons (ps_par (i := 5) (j := 6) (by rfl) sc_law_feast.nd rfl rfl (by decide) rfl rfl (pa_cons (pe_call F_law_draw.F (hr.mono (by decide)) (by rfl) F_law_draw.m F_law_draw.k F_law_draw.B .nil (by wtm_at "pk") (pa_cons (pv 0) (pa_cons pe_int pa_nil))) (pa_cons (pe_call F_law_draw.F (hr.mono (by decide)) (by rfl) F_law_draw.m F_law_draw.k F_law_draw.B .nil (by wtm_at "pk") (pa_cons (pv 0) (pa_cons (pe_callB (call_maxA rfl) (by rfl) n_max (by decide +kernel) (pa_cons (pv 2) pa_nil)) pa_nil))) pa_nil)) (by rfl))
      (pss_cons (ps_set (i := 7) sc_law_feast.nd rfl (by wtm_at "oi") (pe_ix ix_seq (pe_lst (pa_cons (pv 5) (pa_cons (pv 6) (pa_cons (pe_op op_sub (pe_un un_neg pe_int) (pv 5)) (pa_cons (pe_op op_sub (pe_un un_neg pe_int) (pv 6)) (pa_cons pe_int (pa_cons (pe_un un_neg pe_int) pa_nil))))))) (pv 4) (fun _ _ => rfl)))
      (pss_cons (ps_set (i := 8) sc_law_feast.nd rfl (by wtm_at "oi") (pe_op op_addA pe_int (pe_call F_law_draw.F (hr.mono (by decide)) (by rfl) F_law_draw.m F_law_draw.k F_law_draw.B .nil (by wtm_at "pk") (pa_cons (pv 0) (pa_cons (pe_ix ix_seq (pe_lst (pa_cons pe_int (pa_cons pe_int (pa_cons pe_int (pa_cons pe_int pa_nil))))) (pe_call F_law_draw.F (hr.mono (by decide)) (by rfl) F_law_draw.m F_law_draw.k F_law_draw.B .nil (by wtm_at "pk") (pa_cons (pv 0) (pa_cons pe_int pa_nil))) (fun _ _ => rfl)) pa_nil)))))
      (pss_cons (ps_set (i := 9) sc_law_feast.nd rfl (by wtm_at "oi") (pe_call F_law_draw.F (hr.mono (by decide)) (by rfl) F_law_draw.m F_law_draw.k F_law_draw.B .nil (by wtm_at "pk") (pa_cons (pv 0) (pa_cons (pe_callB call_len (by rfl) n_len (by decide +kernel) (pa_cons (pv 2) pa_nil)) pa_nil))))
      (pss_cons (by first | exact ps_setLc (i := 10) (own := [("_law_number", 11)]) (g := (gName 11)) (tt := (tOr (tTest (tOp (rEqD K) (tVar 11) (tVar 9))) (tTest (tOp (rEqD K) (tCall (spD K (c_law_draw K)) [] E0 (tCons (tVar 0) (tCons (tC (.int 2)) tNil))) (tC (.int 0)))))) (te := (tVar 11)) (by rfl) sc_law_feast.nd rfl rfl (sw_true rfl rfl rfl (by decide +kernel)) (pi_range1 (by rfl) n_range (pa_cons (pe_callB call_len (by rfl) n_len (by decide +kernel) (pa_cons (pv 2) pa_nil)) pa_nil)) (blkOk_by (own := [("_law_number", 11)]) (N := N_law_feast) (sc := defScope s_law_feast) (by decide +kernel)) (fun _ _ _ _ _ => by exact (pg_name (i := 11) sc_law_feast.nd rfl (by wtm_at "oi"))) (fun _ _ _ _ _ => by exact (pts_one (PW.pt (pw_or (pt_cmpR (op_eqD hr.units) (pv 11) (pv 9) (nomark _)) (pw_or1 (pt_cmpR (op_eqD hr.units) (pe_call F_law_draw.F (hr.mono (by decide)) (by rfl) F_law_draw.m F_law_draw.k F_law_draw.B .nil passL (pa_cons (pv 0) (pa_cons pe_int pa_nil))) pe_int (nomark _))))))) (fun _ _ _ _ _ => by exact (pv 11)) | exact ps_set (i := 10) sc_law_feast.nd rfl (by wtm_at "oi") (pe_lc (own := [("_law_number", 11)]) (g := (gName 11)) (tt := (tOr (tTest (tOp (rEqD K) (tVar 11) (tVar 9))) (tTest (tOp (rEqD K) (tCall (spD K (c_law_draw K)) [] E0 (tCons (tVar 0) (tCons (tC (.int 2)) tNil))) (tC (.int 0)))))) (te := (tVar 11)) (by rfl) sc_law_feast.nd (pi_range1 (by rfl) n_range (pa_cons (pe_callB call_len (by rfl) n_len (by decide +kernel) (pa_cons (pv 2) pa_nil)) pa_nil)) (blkOk_by (own := [("_law_number", 11)]) (N := N_law_feast) (sc := defScope s_law_feast) (by decide +kernel)) (fun _ _ _ _ _ => by exact (pg_name (i := 11) sc_law_feast.nd rfl (by wtm_at "oi"))) (fun _ _ _ _ _ => by exact (pts_one (PW.pt (pw_or (pt_cmpR (op_eqD hr.units) (pv 11) (pv 9) (nomark _)) (pw_or1 (pt_cmpR (op_eqD hr.units) (pe_call F_law_draw.F (hr.mono (by decide)) (by rfl) F_law_draw.m F_law_draw.k F_law_draw.B .nil passL (pa_cons (pv 0) (pa_cons pe_int pa_nil))) pe_int (nomark _))))))) (fun _ _ _ _ _ => by exact (pv 11))))
      (pss_cons (ps_set (i := 10) sc_law_feast.nd rfl (by wtm_at "oi") (pe_ix ix_seq (pe_lst (pa_cons pe_non (pa_cons (pv 10) (pa_cons (pe_lst (pa_cons (pv 9) pa_nil)) (pa_cons (pe_listRg rfl (by rfl) n_list (prg_1 (by rfl) n_range (pe_callB call_len (by rfl) n_len (by decide +kernel) (pa_cons (pv 2) pa_nil)))) pa_nil))))) (pe_call F_law_draw.F (hr.mono (by decide)) (by rfl) F_law_draw.m F_law_draw.k F_law_draw.B .nil (by wtm_at "pk") (pa_cons (pv 0) (pa_cons pe_int pa_nil))) (fun _ _ => rfl)))
      (pss_cons (ps_set (i := 12) sc_law_feast.nd rfl (by wtm_at "oi") (pe_callTy call_list_of (by rfl) n_list (by decide +kernel) (pa_cons (pv 3) pa_nil)))
      (pss_cons (ps_set (i := 13) sc_law_feast.nd rfl (by wtm_at "oi") (pe_lst pa_nil))
      (pss_cons (ps_for (passes_of rfl) rfl (pi_range1 (by rfl) n_range (pa_cons (pe_call F_law_draw.F (hr.mono (by decide)) (by rfl) F_law_draw.m F_law_draw.k F_law_draw.B .nil (by wtm_at "pk") (pa_cons (pv 0) (pa_cons (pe_op op_addA (pe_callB call_len (by rfl) n_len (by decide +kernel) (pa_cons (pv 3) pa_nil)) pe_int) pa_nil))) pa_nil)) (pg_name (i := 14) sc_law_feast.nd rfl (by wtm_at "oi")) (pss_one (ps_expr (pe_bm PySem.F.plainAttrs_list PySem.F.slot_list_append PySem.F.type_list_append mt_append (pv 13) (pa_cons (pe_tup (pa_cons (pe_bm PySem.F.plainAttrs_list PySem.F.slot_list_pop PySem.F.type_list_pop mt_popAt (pv 12) (pa_cons (pe_call F_law_draw.F (hr.mono (by decide)) (by rfl) F_law_draw.m F_law_draw.k F_law_draw.B .nil (by wtm_at "pk") (pa_cons (pv 0) (pa_cons (pe_callB call_len (by rfl) n_len (by decide +kernel) (pa_cons (pv 12) pa_nil)) pa_nil))) pa_nil)) (pa_cons (pe_ix ix_seq (pe_lst (pa_cons pe_str (pa_cons pe_str pa_nil))) (pe_call F_law_draw.F (hr.mono (by decide)) (by rfl) F_law_draw.m F_law_draw.k F_law_draw.B .nil (by wtm_at "pk") (pa_cons (pv 0) (pa_cons pe_int pa_nil))) (fun _ _ => rfl)) pa_nil))) pa_nil)))))
      (pss_one (ps_ret (pe_lst (pa_cons (pv 1) (pa_cons (pv 7) (pa_cons (pv 8) (pa_cons (pv 10) (pa_cons (pv 13) pa_nil)))))))))))))))))))
    (d_law_feast)
abbrev N_law_line : List Str := ["_law_hold", "_law_word", "_law_lengths_here", "_law_tales", "_law_many", "_law_most", "_law_less", "_law_name_here", "_law_spot", "_law_lasts", "_law_kept", "_law_acts", "_law_one", "_law_sort"]
theorem sc_law_line : FnScope N_law_line ["_law_hold", "_law_word", "_law_lengths_here", "_law_tales"] (defScope s_law_line) := by wtm_at "sn"
theorem ok_law_line {f : Addr} {fd : FuncData} {f_law_draw : Addr} {fd_law_draw : FuncData} (F : GD K "_law_line" "_law_line" s_law_line f fd) (F_law_draw : FG P w K mg base 1 f_law_draw fd_law_draw ["_law_hold", "_law_many"] (c_law_draw K) "_law_draw") (n_len : mg "len" = none) (n_sum : mg "sum" = none) :
    FnOk P w K mg base (L2.CX P w) 2 f fd ["_law_hold", "_law_word", "_law_lengths_here", "_law_tales"] (spD K (c_law_line K)) :=
  fn_DD (t := t_law_line K) F sc_law_line (by wtm_at "ln") (by decide)
    (fun cdv A outer s H E hr => by exact
      (pss_cons (ps_set (i := 4) sc_law_line.nd rfl (by wtm_at "oi") (pe_op op_addA pe_int (pe_call F_law_draw.F (hr.mono (by decide)) (by rfl) F_law_draw.m F_law_draw.k F_law_draw.B .nil (by wtm_at "pk") (pa_cons (pv 0) (pa_cons (pe_ix ix_seq (pe_lst (pa_cons pe_int (pa_cons pe_int (pa_cons pe_int (pa_cons pe_int pa_nil))))) (pe_call F_law_draw.F (hr.mono (by decide)) (by rfl) F_law_draw.m F_law_draw.k F_law_draw.B .nil (by wtm_at "pk") (pa_cons (pv 0) (pa_cons pe_int pa_nil))) (fun _ _ => rfl)) pa_nil)))))
      (pss_cons (ps_set (i := 4) sc_law_line.nd rfl (by wtm_at "oi") (pe_ix ix_seq (pe_lst (pa_cons (pv 4) (pa_cons (pv 4) (pa_cons (pv 4) (pa_cons pe_int pa_nil))))) (pe_call F_law_draw.F (hr.mono (by decide)) (by rfl) F_law_draw.m F_law_draw.k F_law_draw.B .nil (by wtm_at "pk") (pa_cons (pv 0) (pa_cons pe_int pa_nil))) (fun _ _ => rfl)))
      (pss_cons (ps_set (i := 5) sc_law_line.nd rfl (by wtm_at "oi") (pe_op op_addA pe_int (pe_call F_law_draw.F (hr.mono (by decide)) (by rfl) F_law_draw.m F_law_draw.k F_law_draw.B .nil (by wtm_at "pk") (pa_cons (pv 0) (pa_cons pe_int pa_nil)))))
      (pss_cons (ps_set (i := 6) sc_law_line.nd rfl (by wtm_at "oi") pe_int)
      (pss_cons (ps_for (passes_of rfl) rfl (pi_any (pv 3)) (pg_unl rfl (pgs_cons (pg_name (i := 7) sc_law_line.nd rfl (by wtm_at "oi")) (pgs_cons (pg_name (i := 8) sc_law_line.nd rfl (by wtm_at "oi")) (pgs_cons (pg_name (i := 9) sc_law_line.nd rfl (by wtm_at "oi")) (pgs_cons (pg_name (i := 10) sc_law_line.nd rfl (by wtm_at "oi")) (pgs_cons (pg_name (i := 11) sc_law_line.nd rfl (by wtm_at "oi")) pgs_nil)))))) (pss_one (ps_if (pt_cmpR op_inA (pv 1) (pe_lc (own := [("_law_one", 12), ("_law_sort", 13)]) (g := (gTup K 2 (gCons (gName 12) (gCons (gName 13) gNil)))) (tt := tYes) (te := (tVar 12)) (by rfl) sc_law_line.nd (pi_any (pv 11)) (blkOk_by (own := [("_law_one", 12), ("_law_sort", 13)]) (N := N_law_line) (sc := defScope s_law_line) (by decide +kernel)) (fun _ _ _ _ _ => by exact (pg_tup rfl (pgs_cons (pg_name (i := 12) sc_law_line.nd rfl (by wtm_at "oi")) (pgs_cons (pg_name (i := 13) sc_law_line.nd rfl (by wtm_at "oi")) pgs_nil)))) (fun _ _ _ _ _ => by exact pts_nil) (fun _ _ _ _ _ => by exact (pv 12))) (by rfl)) (pss_one (ps_aug (i := 6) sc_law_line.nd rfl (by wtm_at "oi") (pe_op op_mulA (pv 9) (pe_ifExp (pt_cmp (pc_isN (pv 10)) rfl) (pe_callB call_len (by rfl) n_len (by decide +kernel) (pa_cons (pv 2) pa_nil)) (pe_callB call_len (by rfl) n_len (by decide +kernel) (pa_cons (pv 10) pa_nil)))) ip_add)) pss_nil)))
      (pss_cons (ps_if (PW.pt (pw_and (pt_cmpR op_gt (pe_call F_law_draw.F (hr.mono (by decide)) (by rfl) F_law_draw.m F_law_draw.k F_law_draw.B .nil (by wtm_at "pk") (pa_cons (pv 0) (pa_cons pe_int pa_nil))) pe_int (nomark _)) (pw_and1 (pt_cmpR op_le (pe_callB (cr_sum rfl) (by rfl) n_sum (by decide +kernel) (pa_cons (pv 2) pa_nil)) (pe_op op_mulA (pv 5) (pe_op op_sub (pe_callB (cr_sum rfl) (by rfl) n_sum (by decide +kernel) (pa_cons (pv 2) pa_nil)) (pv 6))) (nomark _))))) (pss_one (ps_ret (pe_lst (pa_cons pe_str (pa_cons (pv 1) (pa_cons (pv 4) (pa_cons (pv 5) (pa_cons (pe_ix ix_seq (pe_lst (pa_cons pe_int (pa_cons (pe_op op_sub (pv 4) pe_int) (pa_cons (pe_call F_law_draw.F (hr.mono (by decide)) (by rfl) F_law_draw.m F_law_draw.k F_law_draw.B .nil (by wtm_at "pk") (pa_cons (pv 0) (pa_cons (pv 4) pa_nil))) pa_nil)))) (pe_call F_law_draw.F (hr.mono (by decide)) (by rfl) F_law_draw.m F_law_draw.k F_law_draw.B .nil (by wtm_at "pk") (pa_cons (pv 0) (pa_cons pe_int pa_nil))) (fun _ _ => rfl)) pa_nil)))))))) pss_nil)
      (pss_one (ps_ret (pe_lst (pa_cons pe_str (pa_cons (pv 1) (pa_cons (pv 4) (pa_cons (pv 5) pa_nil))))))))))))))
    (d_law_line)
abbrev N_law_parts : List Str := ["_law_hold", "_law_way", "_law_lengths_here", "_law_words", "_law_titles", "_law_tales", "_law_title", "_law_word"]
theorem sc_law_parts : FnScope N_law_parts ["_law_hold"] (defScope s_law_parts) := by wtm_at "sn"
theorem ok_law_parts {f : Addr} {fd : FuncData} {f_law_draw f_law_lengths f_law_names f_law_feast f_law_line : Addr} {fd_law_draw fd_law_lengths fd_law_names fd_law_feast fd_law_line : FuncData} (F : GD K "_law_parts" "_law_parts" s_law_parts f fd) (F_law_draw : FG P w K mg base 1 f_law_draw fd_law_draw ["_law_hold", "_law_many"] (c_law_draw K) "_law_draw") (F_law_lengths : FG P w K mg base 2 f_law_lengths fd_law_lengths ["_law_hold", "_law_most", "_law_many"] (c_law_lengths K) "_law_lengths") (F_law_names : FG P w K mg base 3 f_law_names fd_law_names ["_law_hold", "_law_many"] (c_law_names K) "_law_names") (F_law_feast : FG P w K mg base 2 f_law_feast fd_law_feast ["_law_hold", "_law_name_here", "_law_lengths_here", "_law_words"] (c_law_feast K) "_law_feast") (F_law_line : FG P w K mg base 2 f_law_line fd_law_line ["_law_hold", "_law_word", "_law_lengths_here", "_law_tales"] (c_law_line K) "_law_line") :
    FnOk P w K mg base (L2.CX P w) 4 f fd ["_law_hold"] (spD K (c_law_parts K)) :=
  fn_DD (t := t_law_parts K) F sc_law_parts (by wtm_at "ln") (by decide)
    (fun cdv A outer s H E hr => by exact
      (pss_cons (ps_set (i := 1) sc_law_parts.nd rfl (by wtm_at "oi") (pe_call F_law_draw.F (hr.mono (by decide)) (by rfl) F_law_draw.m F_law_draw.k F_law_draw.B .nil (by wtm_at "pk") (pa_cons (pv 0) (pa_cons pe_int pa_nil))))
      (pss_cons (ps_set (i := 2) sc_law_parts.nd rfl (by wtm_at "oi") (pe_call F_law_lengths.F (hr.mono (by decide)) (by rfl) F_law_lengths.m F_law_lengths.k F_law_lengths.B .nil (by wtm_at "pk") (pa_cons (pv 0) (pa_cons pe_int (pa_cons pe_int pa_nil)))))
      (pss_cons (ps_set (i := 3) sc_law_parts.nd rfl (by wtm_at "oi") (pe_call F_law_names.F (hr.mono (by decide)) (by rfl) F_law_names.m F_law_names.k F_law_names.B .nil (by wtm_at "pk") (pa_cons (pv 0) (pa_cons (pe_ifExp (pt_cmpR (op_eqD hr.units) (pv 1) pe_int (nomark _)) pe_int (pe_op op_addA pe_int (pe_call F_law_draw.F (hr.mono (by decide)) (by rfl) F_law_draw.m F_law_draw.k F_law_draw.B .nil (by wtm_at "pk") (pa_cons (pv 0) (pa_cons pe_int pa_nil))))) pa_nil))))
      (pss_cons (ps_set (i := 4) sc_law_parts.nd rfl (by wtm_at "oi") (pe_call F_law_names.F (hr.mono (by decide)) (by rfl) F_law_names.m F_law_names.k F_law_names.B .nil (by wtm_at "pk") (pa_cons (pv 0) (pa_cons (pe_ifExp (pt_cmpR op_lt (pv 1) pe_int (nomark _)) pe_int (pe_call F_law_draw.F (hr.mono (by decide)) (by rfl) F_law_draw.m F_law_draw.k F_law_draw.B .nil (by wtm_at "pk") (pa_cons (pv 0) (pa_cons pe_int pa_nil)))) pa_nil))))
      (pss_cons (by first | exact ps_setLc (i := 5) (own := [("_law_title", 6)]) (g := (gName 6)) (tt := tYes) (te := (tCall (spD K (c_law_feast K)) [] E0 (tCons (tVar 0) (tCons (tVar 6) (tCons (tVar 2) (tCons (tVar 3) tNil)))))) (by rfl) sc_law_parts.nd rfl rfl (sw_true rfl rfl rfl (by decide +kernel)) (pi_any (pv 4)) (blkOk_by (own := [("_law_title", 6)]) (N := N_law_parts) (sc := defScope s_law_parts) (by decide +kernel)) (fun _ _ _ _ _ => by exact (pg_name (i := 6) sc_law_parts.nd rfl (by wtm_at "oi"))) (fun _ _ _ _ _ => by exact pts_nil) (fun _ _ _ _ _ => by exact (pe_call F_law_feast.F (hr.mono (by decide)) (by rfl) F_law_feast.m F_law_feast.k F_law_feast.B .nil passL (pa_cons (pv 0) (pa_cons (pv 6) (pa_cons (pv 2) (pa_cons (pv 3) pa_nil)))))) | exact ps_set (i := 5) sc_law_parts.nd rfl (by wtm_at "oi") (pe_lc (own := [("_law_title", 6)]) (g := (gName 6)) (tt := tYes) (te := (tCall (spD K (c_law_feast K)) [] E0 (tCons (tVar 0) (tCons (tVar 6) (tCons (tVar 2) (tCons (tVar 3) tNil)))))) (by rfl) sc_law_parts.nd (pi_any (pv 4)) (blkOk_by (own := [("_law_title", 6)]) (N := N_law_parts) (sc := defScope s_law_parts) (by decide +kernel)) (fun _ _ _ _ _ => by exact (pg_name (i := 6) sc_law_parts.nd rfl (by wtm_at "oi"))) (fun _ _ _ _ _ => by exact pts_nil) (fun _ _ _ _ _ => by exact (pe_call F_law_feast.F (hr.mono (by decide)) (by rfl) F_law_feast.m F_law_feast.k F_law_feast.B .nil passL (pa_cons (pv 0) (pa_cons (pv 6) (pa_cons (pv 2) (pa_cons (pv 3) pa_nil))))))))
      (pss_one (ps_ret (pe_lst (pa_cons (pv 2) (pa_cons (pv 5) (pa_cons (pe_lc (own := [("_law_word", 7)]) (g := (gName 7)) (tt := tYes) (te := (tCall (spD K (c_law_line K)) [] E0 (tCons (tVar 0) (tCons (tVar 7) (tCons (tVar 2) (tCons (tVar 5) tNil)))))) (by rfl) sc_law_parts.nd (pi_any (pv 3)) (blkOk_by (own := [("_law_word", 7)]) (N := N_law_parts) (sc := defScope s_law_parts) (by decide +kernel)) (fun _ _ _ _ _ => by exact (pg_name (i := 7) sc_law_parts.nd rfl (by wtm_at "oi"))) (fun _ _ _ _ _ => by exact pts_nil) (fun _ _ _ _ _ => by exact (pe_call F_law_line.F (hr.mono (by decide)) (by rfl) F_law_line.m F_law_line.k F_law_line.B .nil passL (pa_cons (pv 0) (pa_cons (pv 7) (pa_cons (pv 2) (pa_cons (pv 5) pa_nil))))))) pa_nil))))))))))))
    (d_law_parts)
abbrev N_is_name : List Str := ["thing", "sign"]
theorem sc_is_name : FnScope N_is_name ["thing"] (defScope s_is_name) := by wtm_at "sn"
theorem ok_is_name {f : Addr} {fd : FuncData} (F : GD K "is_name" "is_name" s_is_name f fd) (n_str : mg "str" = none) (n_isinstance : mg "isinstance" = none) (n_len : mg "len" = none) (k_LETTERS : ∃ t, mg "LETTERS" = some (.str "abcdefghijklmnopqrstuvwxyz" t)) (n_all : mg "all" = none) :
    FnOk P w K mg base (L2.CX P w) 1 f fd ["thing"] (spD K (c_is_name K)) :=
  fn_DD (t := t_is_name K) F sc_is_name (by wtm_at "ln") (by decide)
    (fun cdv A outer s H E hr => by exact
      (pss_cons (ps_if (PW.pt (pw_or (pt_not (pt_truth (pe_callB call_isi (by rfl) n_isinstance (by decide +kernel) (pa_cons (pv 0) (pa_cons (pe_bltn (v := .ty "str") (by rfl) n_str (by decide +kernel) rfl) pa_nil))) (by intro _; rfl))) (pw_or1 (pt_not (pt_chain op_le op_le pe_int (pe_callB call_len (by rfl) n_len (by decide +kernel) (pa_cons (pv 0) pa_nil)) pe_int))))) (pss_one (ps_ret pe_bl)) pss_nil)
      (pss_one (ps_ret (pe_callB (cr_all rfl) (by rfl) n_all (by decide +kernel) (pa_cons (pe_lc (own := [("sign", 1)]) (g := (gName 1)) (tt := tYes) (te := (tOp (rInA K) (tVar 1) (tC (.str "abcdefghijklmnopqrstuvwxyz")))) (by rfl) sc_is_name.nd (pi_any (pv 0)) (blkOk_by (own := [("sign", 1)]) (N := N_is_name) (sc := defScope s_is_name) (by decide +kernel)) (fun _ _ _ _ _ => by exact (pg_name (i := 1) sc_is_name.nd rfl (by wtm_at "oi"))) (fun _ _ _ _ _ => by exact pts_nil) (fun _ _ _ _ _ => by exact (pe_cmpR op_inA (pv 1) (pe_glob (v := .str "abcdefghijklmnopqrstuvwxyz") (by rfl) k_LETTERS.choose_spec ⟨_, rfl⟩) (by rfl)))) pa_nil))))))
    (d_is_name)
abbrev N_is_number : List Str := ["thing", "least", "most"]
theorem sc_is_number : FnScope N_is_number ["thing", "least", "most"] (defScope s_is_number) := by wtm_at "sn"
theorem ok_is_number {f : Addr} {fd : FuncData} (F : GD K "is_number" "is_number" s_is_number f fd) (n_int : mg "int" = none) (n_isinstance : mg "isinstance" = none) (n_bool : mg "bool" = none) :
    FnOk P w K mg base (L2.CX P w) 1 f fd ["thing", "least", "most"] (spD K (c_is_number K)) :=
  fn_DD (t := t_is_number K) F sc_is_number (by wtm_at "ln") (by decide)
    (fun cdv A outer s H E hr => by exact
      (pss_one (ps_ret (pe_and (pe_callB call_isi (by rfl) n_isinstance (by decide +kernel) (pa_cons (pv 0) (pa_cons (pe_bltn (v := .ty "int") (by rfl) n_int (by decide +kernel) rfl) pa_nil))) (pe_and (pe_not (pe_callB call_isi (by rfl) n_isinstance (by decide +kernel) (pa_cons (pv 0) (pa_cons (pe_bltn (v := .ty "bool") (by rfl) n_bool (by decide +kernel) rfl) pa_nil)))) (pe_one (pe_chain op_le op_le (pv 1) (pv 0) (pv 2))))))))
    (d_is_number)
abbrev N_are_numbers : List Str := ["thing", "long", "least", "most", "one"]
theorem sc_are_numbers : FnScope N_are_numbers ["thing", "long", "least", "most"] (defScope s_are_numbers) := by wtm_at "sn"
theorem ok_are_numbers {f : Addr} {fd : FuncData} {f_is_number : Addr} {fd_is_number : FuncData} (F : GD K "are_numbers" "are_numbers" s_are_numbers f fd) (F_is_number : FG P w K mg base 1 f_is_number fd_is_number ["thing", "least", "most"] (c_is_number K) "is_number") (n_list : mg "list" = none) (n_isinstance : mg "isinstance" = none) (n_len : mg "len" = none) (n_all : mg "all" = none) :
    FnOk P w K mg base (L2.CX P w) 2 f fd ["thing", "long", "least", "most"] (spD K (c_are_numbers K)) :=
  fn_DD (t := t_are_numbers K) F sc_are_numbers (by wtm_at "ln") (by decide)
    (fun cdv A outer s H E hr => by exact
      (pss_cons (ps_if (PW.pt (pw_or (pt_not (pt_truth (pe_callB call_isi (by rfl) n_isinstance (by decide +kernel) (pa_cons (pv 0) (pa_cons (pe_bltn (v := .ty "list") (by rfl) n_list (by decide +kernel) rfl) pa_nil))) (by intro _; rfl))) (pw_or1 (pt_not (pt_chain op_le op_le pe_int (pe_callB call_len (by rfl) n_len (by decide +kernel) (pa_cons (pv 0) pa_nil)) (pv 1)))))) (pss_one (ps_ret pe_bl)) pss_nil)
      (pss_one (ps_ret (pe_callB (cr_all rfl) (by rfl) n_all (by decide +kernel) (pa_cons (pe_lc (own := [("one", 4)]) (g := (gName 4)) (tt := tYes) (te := (tCall (spD K (c_is_number K)) [] E0 (tCons (tVar 4) (tCons (tVar 2) (tCons (tVar 3) tNil))))) (by rfl) sc_are_numbers.nd (pi_any (pv 0)) (blkOk_by (own := [("one", 4)]) (N := N_are_numbers) (sc := defScope s_are_numbers) (by decide +kernel)) (fun _ _ _ _ _ => by exact (pg_name (i := 4) sc_are_numbers.nd rfl (by wtm_at "oi"))) (fun _ _ _ _ _ => by exact pts_nil) (fun _ _ _ _ _ => by exact (pe_call F_is_number.F (hr.mono (by decide)) (by rfl) F_is_number.m F_is_number.k F_is_number.B .nil passL (pa_cons (pv 4) (pa_cons (pv 2) (pa_cons (pv 3) pa_nil)))))) pa_nil))))))
    (d_are_numbers)
abbrev N_good_years : List Str := ["years", "k"]
theorem sc_good_years : FnScope N_good_years ["years"] (defScope s_good_years) := by wtm_at "sn"
theorem ok_good_years {f : Addr} {fd : FuncData} {f_are_numbers : Addr} {fd_are_numbers : FuncData} (F : GD K "good_years" "good_years" s_good_years f fd) (F_are_numbers : FG P w K mg base 2 f_are_numbers fd_are_numbers ["thing", "long", "least", "most"] (c_are_numbers K) "are_numbers") (n_len : mg "len" = none) (n_range : mg "range" = none) (n_all : mg "all" = none) :
    FnOk P w K mg base (L2.CX P w) 3 f fd ["years"] (spD K (c_good_years K)) :=
  fn_DD (t := t_good_years K) F sc_good_years (by wtm_at "ln") (by decide)
    (fun cdv A outer s H E hr => by exact
      (pss_cons (ps_if (pt_cmp (pc_isN (pv 0)) rfl) (pss_one (ps_ret pe_bl)) pss_nil)
      (pss_one (ps_ret (pe_and (pe_call F_are_numbers.F (hr.mono (by decide)) (by rfl) F_are_numbers.m F_are_numbers.k F_are_numbers.B .nil (by wtm_at "pk") (pa_cons (pv 0) (pa_cons pe_int (pa_cons pe_int (pa_cons pe_int pa_nil))))) (pe_one (pe_callB (cr_all rfl) (by rfl) n_all (by decide +kernel) (pa_cons (pe_lc (own := [("k", 1)]) (g := (gName 1)) (tt := tYes) (te := (tOp (rI0 fun i j => .bl (decide (i < j))) (tOp (rIx K) (tVar 0) (tVar 1)) (tOp (rIx K) (tVar 0) (tOp (rAddA K) (tVar 1) (tC (.int 1)))))) (by rfl) sc_good_years.nd (pi_range1 (by rfl) n_range (pa_cons (pe_op op_sub (pe_callB call_len (by rfl) n_len (by decide +kernel) (pa_cons (pv 0) pa_nil)) pe_int) pa_nil)) (blkOk_by (own := [("k", 1)]) (N := N_good_years) (sc := defScope s_good_years) (by decide +kernel)) (fun _ _ _ _ _ => by exact (pg_name (i := 1) sc_good_years.nd rfl (by wtm_at "oi"))) (fun _ _ _ _ _ => by exact pts_nil) (fun _ _ _ _ _ => by exact (pe_cmpR op_lt (pe_ix ix_seq (pv 0) (pv 1) (fun _ _ => rfl)) (pe_ix ix_seq (pv 0) (pe_op op_addA (pv 1) pe_int) (fun _ _ => rfl)) (nomark _)))) pa_nil))))))))
    (d_good_years)
abbrev N_is_put : List Str := ["pair"]
theorem sc_is_put : FnScope N_is_put ["pair"] (defScope s_is_put) := by wtm_at "sn"
theorem ok_is_put {f : Addr} {fd : FuncData} {f_is_name : Addr} {fd_is_name : FuncData} (F : GD K "is_put" "is_put" s_is_put f fd) (F_is_name : FG P w K mg base 1 f_is_name fd_is_name ["thing"] (c_is_name K) "is_name") (n_tuple : mg "tuple" = none) (n_isinstance : mg "isinstance" = none) (n_len : mg "len" = none) :
    FnOk P w K mg base (L2.CX P w) 2 f fd ["pair"] (spD K (c_is_put K)) :=
  fn_DD (t := t_is_put K) F sc_is_put (by wtm_at "ln") (by decide)
    (fun cdv A outer s H E hr => by exact
      (pss_one (ps_ret (pe_and (pe_callB call_isi (by rfl) n_isinstance (by decide +kernel) (pa_cons (pv 0) (pa_cons (pe_bltn (v := .ty "tuple") (by rfl) n_tuple (by decide +kernel) rfl) pa_nil))) (pe_and (pe_cmpR (op_eqD hr.units) (pe_callB call_len (by rfl) n_len (by decide +kernel) (pa_cons (pv 0) pa_nil)) pe_int (nomark _)) (pe_and (pe_call F_is_name.F (hr.mono (by decide)) (by rfl) F_is_name.m F_is_name.k F_is_name.B .nil (by wtm_at "pk") (pa_cons (pe_ix ix_seq (pv 0) pe_int (fun _ _ => rfl)) pa_nil)) (pe_one (pe_cmpR op_inA (pe_ix ix_seq (pv 0) pe_int (fun _ _ => rfl)) (pe_tup (pa_cons pe_str (pa_cons pe_str pa_nil))) (by rfl)))))))))
    (d_is_put)
abbrev N_good_puts : List Str := ["puts", "pair", "name", "sort"]
theorem sc_good_puts : FnScope N_good_puts ["puts"] (defScope s_good_puts) := by wtm_at "sn"
theorem ok_good_puts {f : Addr} {fd : FuncData} {f_is_put : Addr} {fd_is_put : FuncData} (F : GD K "good_puts" "good_puts" s_good_puts f fd) (F_is_put : FG P w K mg base 2 f_is_put fd_is_put ["pair"] (c_is_put K) "is_put") (n_list : mg "list" = none) (n_isinstance : mg "isinstance" = none) (n_len : mg "len" = none) (n_all : mg "all" = none) (n_set : mg "set" = none) :
    FnOk P w K mg base (L2.CX P w) 3 f fd ["puts"] (spD K (c_good_puts K)) :=
  fn_DD (t := t_good_puts K) F sc_good_puts (by wtm_at "ln") (by decide)
    (fun cdv A outer s H E hr => by exact
      (pss_cons (ps_if (pt_cmp (pc_isN (pv 0)) rfl) (pss_one (ps_ret pe_bl)) pss_nil)
      (pss_cons (ps_if (PW.pt (pw_or (pt_not (pt_truth (pe_callB call_isi (by rfl) n_isinstance (by decide +kernel) (pa_cons (pv 0) (pa_cons (pe_bltn (v := .ty "list") (by rfl) n_list (by decide +kernel) rfl) pa_nil))) (by intro _; rfl))) (pw_or (pt_cmpR op_gt (pe_callB call_len (by rfl) n_len (by decide +kernel) (pa_cons (pv 0) pa_nil)) pe_int (nomark _)) (pw_or1 (pt_not (pt_truth (pe_callB (cr_all rfl) (by rfl) n_all (by decide +kernel) (pa_cons (pe_lc (own := [("pair", 1)]) (g := (gName 1)) (tt := tYes) (te := (tCall (spD K (c_is_put K)) [] E0 (tCons (tVar 1) tNil))) (by rfl) sc_good_puts.nd (pi_any (pv 0)) (blkOk_by (own := [("pair", 1)]) (N := N_good_puts) (sc := defScope s_good_puts) (by decide +kernel)) (fun _ _ _ _ _ => by exact (pg_name (i := 1) sc_good_puts.nd rfl (by wtm_at "oi"))) (fun _ _ _ _ _ => by exact pts_nil) (fun _ _ _ _ _ => by exact (pe_call F_is_put.F (hr.mono (by decide)) (by rfl) F_is_put.m F_is_put.k F_is_put.B .nil passL (pa_cons (pv 1) pa_nil)))) pa_nil)) (by intro _; rfl))))))) (pss_one (ps_ret pe_bl)) pss_nil)
      (pss_one (ps_ret (pe_cmpR (op_eqD hr.units) (pe_lenSetS (by rfl) n_len (by rfl) n_set (pe_lc (own := [("name", 2), ("sort", 3)]) (g := (gTup K 2 (gCons (gName 2) (gCons (gName 3) gNil)))) (tt := tYes) (te := (tVar 2)) (by rfl) sc_good_puts.nd (pi_any (pv 0)) (blkOk_by (own := [("name", 2), ("sort", 3)]) (N := N_good_puts) (sc := defScope s_good_puts) (by decide +kernel)) (fun _ _ _ _ _ => by exact (pg_tup rfl (pgs_cons (pg_name (i := 2) sc_good_puts.nd rfl (by wtm_at "oi")) (pgs_cons (pg_name (i := 3) sc_good_puts.nd rfl (by wtm_at "oi")) pgs_nil)))) (fun _ _ _ _ _ => by exact pts_nil) (fun _ _ _ _ _ => by exact (pv 2)))) (pe_callB call_len (by rfl) n_len (by decide +kernel) (pa_cons (pv 0) pa_nil)) (nomark _)))))))
    (d_good_puts)
abbrev N_Feast_init : List Str := ["self", "name", "place", "days", "years", "puts"]
theorem sc_Feast_init : FnScope N_Feast_init ["self", "name", "place", "days", "years", "puts"] (defScope s_Feast_init) := by wtm_at "sn"
theorem ok_Feast_init {f : Addr} {fd : FuncData} {f_is_name f_is_number f_good_years f_good_puts : Addr} {fd_is_name fd_is_number fd_good_years fd_good_puts : FuncData} (F : FunD K "__init__" "Feast.__init__" (defArgs s_Feast_init) (defBody s_Feast_init) (defScope s_Feast_init) [.int (1), .non, .non] [] f fd) (F_is_name : FG P w K mg base 1 f_is_name fd_is_name ["thing"] (c_is_name K) "is_name") (F_is_number : FG P w K mg base 1 f_is_number fd_is_number ["thing", "least", "most"] (c_is_number K) "is_number") (F_good_years : FG P w K mg base 3 f_good_years fd_good_years ["years"] (c_good_years K) "good_years") (F_good_puts : FG P w K mg base 3 f_good_puts fd_good_puts ["puts"] (c_good_puts K) "good_puts") (x_BadFeast : ExC K mg "BadFeast") (n_list : mg "list" = none) (kf : KFe K) :
    FnOk P w K mg base (L2.CX P w) 4 f fd ["self", "name", "place", "days", "years", "puts"] (spD K (c_Feast_init K)) :=
  fn_DD (t := t_Feast_init K) F sc_Feast_init (by wtm_at "ln") (by decide)
    (fun cdv A outer s H E hr => by exact
      (pss_cons (ps_if (PW.pt (pw_or (pt_not (pt_truth (pe_call F_is_name.F (hr.mono (by decide)) (by rfl) F_is_name.m F_is_name.k F_is_name.B .nil (by wtm_at "pk") (pa_cons (pv 1) pa_nil)) (by intro _; rfl))) (pw_or (pt_not (pt_truth (pe_call F_is_number.F (hr.mono (by decide)) (by rfl) F_is_number.m F_is_number.k F_is_number.B .nil (by wtm_at "pk") (pa_cons (pv 2) (pa_cons (pe_un un_neg pe_int) (pa_cons pe_int pa_nil)))) (by intro _; rfl))) (pw_or1 (pt_not (pt_truth (pe_call F_is_number.F (hr.mono (by decide)) (by rfl) F_is_number.m F_is_number.k F_is_number.B .nil (by wtm_at "pk") (pa_cons (pv 3) (pa_cons pe_int (pa_cons pe_int pa_nil)))) (by intro _; rfl))))))) (pss_one (ps_raise rfl (takes_of rfl rfl rfl rfl) (pmk_own PySem.F.excBase_ValueError x_BadFeast.xc x_BadFeast.gc x_BadFeast.kc (raises_own x_BadFeast.bc x_BadFeast.tc) (by rfl)))) pss_nil)
      (pss_cons (ps_if (PW.pt (pw_or (pt_not (pt_truth (pe_call F_good_years.F (hr.mono (by decide)) (by rfl) F_good_years.m F_good_years.k F_good_years.B .nil (by wtm_at "pk") (pa_cons (pv 4) pa_nil)) (by intro _; rfl))) (pw_or1 (pt_not (pt_truth (pe_call F_good_puts.F (hr.mono (by decide)) (by rfl) F_good_puts.m F_good_puts.k F_good_puts.B .nil (by wtm_at "pk") (pa_cons (pv 5) pa_nil)) (by intro _; rfl)))))) (pss_one (ps_raise rfl (takes_of rfl rfl rfl rfl) (pmk_own PySem.F.excBase_ValueError x_BadFeast.xc x_BadFeast.gc x_BadFeast.kc (raises_own x_BadFeast.bc x_BadFeast.tc) (by rfl)))) pss_nil)
      (pss_cons (ps_fld (pv 0) (pv 1) rfl)
      (pss_cons (ps_fld (pv 0) (pv 2) rfl)
      (pss_cons (ps_fld (pv 0) (pv 3) rfl)
      (pss_cons (ps_fld (pv 0) (pe_ifExp (pt_cmp (pc_isN (pv 4)) rfl) pe_non (pe_callTy call_list_of (by rfl) n_list (by decide +kernel) (pa_cons (pv 4) pa_nil))) rfl)
      (pss_one (ps_fld (pv 0) (pe_ifExp (pt_cmp (pc_isN (pv 5)) rfl) (pe_lst pa_nil) (pe_callTy call_list_of (by rfl) n_list (by decide +kernel) (pa_cons (pv 5) pa_nil))) rfl)))))))))
    (d_Feast_init kf)
abbrev N_law_feast_made : List Str := ["_law_some"]
theorem sc_law_feast_made : FnScope N_law_feast_made ["_law_some"] (defScope s_law_feast_made) := by wtm_at "sn"
theorem ok_law_feast_made {f : Addr} {fd : FuncData} {f_Feast_init : Addr} {fd_Feast_init : FuncData} (F : GD K "_law_feast_made" "_law_feast_made" s_law_feast_made f fd) (F_Feast_init : FQ P w K mg base 4 f_Feast_init fd_Feast_init ["self", "name", "place", "days", "years", "puts"] (c_Feast_init K)) (M_Feast : Mk K (He.ga K "Feast") f_Feast_init) (n_list : mg "list" = none) (g_Feast : mg "Feast" = some (.ref (He.ga K "Feast"))) :
    FnOk P w K mg base (L2.CX P w) 6 f fd ["_law_some"] (spD K (c_law_feast_made K)) :=
  fn_DD (t := t_law_feast_made K) F sc_law_feast_made (by wtm_at "ln") (by decide)
    (fun cdv A outer s H E hr => by exact
      (pss_one (ps_ret (pe_make M_Feast F_Feast_init.F (hr.mono (by decide)) (by rfl) g_Feast F_Feast_init.B .nil (by wtm_at "pk") (pa_cons (pe_ix ix_seq (pv 0) pe_int (fun _ _ => rfl)) (pa_cons (pe_ix ix_seq (pv 0) pe_int (fun _ _ => rfl)) (pa_cons (pe_ix ix_seq (pv 0) pe_int (fun _ _ => rfl)) (pa_cons (pe_ifExp (pt_cmp (pc_isN (pe_ix ix_seq (pv 0) pe_int (fun _ _ => rfl))) rfl) pe_non (pe_callTy call_list_of (by rfl) n_list (by decide +kernel) (pa_cons (pe_ix ix_seq (pv 0) pe_int (fun _ _ => rfl)) pa_nil))) (pa_cons (pe_callTy call_list_of (by rfl) n_list (by decide +kernel) (pa_cons (pe_ix ix_seq (pv 0) pe_int (fun _ _ => rfl)) pa_nil)) pa_nil)))))))))
    (d_law_feast_made)
abbrev N_Row_init : List Str := ["self", "name", "pieces", "most"]
theorem sc_Row_init : FnScope N_Row_init ["self", "name", "pieces", "most"] (defScope s_Row_init) := by wtm_at "sn"
theorem ok_Row_init {f : Addr} {fd : FuncData} {f_is_name f_is_number : Addr} {fd_is_name fd_is_number : FuncData} (F : GD K "__init__" "Row.__init__" s_Row_init f fd) (F_is_name : FG P w K mg base 1 f_is_name fd_is_name ["thing"] (c_is_name K) "is_name") (F_is_number : FG P w K mg base 1 f_is_number fd_is_number ["thing", "least", "most"] (c_is_number K) "is_number") (x_BadRow : ExC K mg "BadRow") (kr : KRw K) :
    FnOk P w K mg base (L2.CX P w) 2 f fd ["self", "name", "pieces", "most"] (spD K (c_Row_init K)) :=
  fn_DD (t := t_Row_init K) F sc_Row_init (by wtm_at "ln") (by decide)
    (fun cdv A outer s H E hr => by exact
      (pss_cons (ps_if (PW.pt (pw_or (pt_not (pt_truth (pe_call F_is_name.F (hr.mono (by decide)) (by rfl) F_is_name.m F_is_name.k F_is_name.B .nil (by wtm_at "pk") (pa_cons (pv 1) pa_nil)) (by intro _; rfl))) (pw_or (pt_not (pt_truth (pe_call F_is_number.F (hr.mono (by decide)) (by rfl) F_is_number.m F_is_number.k F_is_number.B .nil (by wtm_at "pk") (pa_cons (pv 2) (pa_cons pe_int (pa_cons pe_int pa_nil)))) (by intro _; rfl))) (pw_or1 (pt_not (pt_truth (pe_call F_is_number.F (hr.mono (by decide)) (by rfl) F_is_number.m F_is_number.k F_is_number.B .nil (by wtm_at "pk") (pa_cons (pv 3) (pa_cons pe_int (pa_cons pe_int pa_nil)))) (by intro _; rfl))))))) (pss_one (ps_raise rfl (takes_of rfl rfl rfl rfl) (pmk_own PySem.F.excBase_ValueError x_BadRow.xc x_BadRow.gc x_BadRow.kc (raises_own x_BadRow.bc x_BadRow.tc) (by rfl)))) pss_nil)
      (pss_cons (ps_fld (pv 0) (pv 1) rfl)
      (pss_cons (ps_fld (pv 0) (pv 2) rfl)
      (pss_one (ps_fld (pv 0) (pv 3) rfl))))))
    (d_Row_init kr)
abbrev N_Going_init : List Str := ["self", "name", "many", "most", "begin"]
theorem sc_Going_init : FnScope N_Going_init ["self", "name", "many", "most", "begin"] (defScope s_Going_init) := by wtm_at "sn"
theorem ok_Going_init {f : Addr} {fd : FuncData} {f_Row_init f_is_number : Addr} {fd_Row_init fd_is_number : FuncData} (F : FunD K "__init__" "Going.__init__" (defArgs s_Going_init) (defBody s_Going_init) (defScope s_Going_init) [.int (0)] [] f fd) (F_Row_init : FQ P w K mg base 2 f_Row_init fd_Row_init ["self", "name", "pieces", "most"] (c_Row_init K)) (F_is_number : FG P w K mg base 1 f_is_number fd_is_number ["thing", "least", "most"] (c_is_number K) "is_number") (g_Row : mg "Row" = some (.ref (He.ga K "Row"))) (cf_Row_init : ClsFn K (He.ga K "Row") "__init__" f_Row_init) (x_BadRow : ExC K mg "BadRow") (kr : KRw K) :
    FnOk P w K mg base (L2.CX P w) 3 f fd ["self", "name", "many", "most", "begin"] (spD K (c_Going_init K)) :=
  fn_DD (t := t_Going_init K) F sc_Going_init (by wtm_at "ln") (by decide)
    (fun cdv A outer s H E hr => by exact
      (pss_cons (ps_expr (pe_clsCall (pe_glob (v := .ref (He.ga K "Row")) (by rfl) g_Row rfl) cf_Row_init F_Row_init.F (hr.mono (by decide)) F_Row_init.B .nil (by wtm_at "pk") (pa_cons (pv 0) (pa_cons (pv 1) (pa_cons (pv 2) (pa_cons (pv 3) pa_nil))))))
      (pss_cons (ps_if (pt_not (pt_truth (pe_call F_is_number.F (hr.mono (by decide)) (by rfl) F_is_number.m F_is_number.k F_is_number.B .nil (by wtm_at "pk") (pa_cons (pv 4) (pa_cons pe_int (pa_cons (pe_op op_sub (pv 2) pe_int) pa_nil)))) (by intro _; rfl))) (pss_one (ps_raise rfl (takes_of rfl rfl rfl rfl) (pmk_own PySem.F.excBase_ValueError x_BadRow.xc x_BadRow.gc x_BadRow.kc (raises_own x_BadRow.bc x_BadRow.tc) (by rfl)))) pss_nil)
      (pss_one (ps_fld (pv 0) (pv 4) rfl)))))
    (d_Going_init kr)
abbrev N_Yearly_init : List Str := ["self", "name", "many", "most"]
theorem sc_Yearly_init : FnScope N_Yearly_init ["self", "name", "many", "most"] (defScope s_Yearly_init) := by wtm_at "sn"
theorem ok_Yearly_init {f : Addr} {fd : FuncData} {f_Row_init : Addr} {fd_Row_init : FuncData} (F : GD K "__init__" "Yearly.__init__" s_Yearly_init f fd) (F_Row_init : FQ P w K mg base 2 f_Row_init fd_Row_init ["self", "name", "pieces", "most"] (c_Row_init K)) (g_Row : mg "Row" = some (.ref (He.ga K "Row"))) (cf_Row_init : ClsFn K (He.ga K "Row") "__init__" f_Row_init) (kr : KRw K) :
    FnOk P w K mg base (L2.CX P w) 3 f fd ["self", "name", "many", "most"] (spD K (c_Yearly_init K)) :=
  fn_DD (t := t_Yearly_init K) F sc_Yearly_init (by wtm_at "ln") (by decide)
    (fun cdv A outer s H E hr => by exact
      (pss_one (ps_expr (pe_clsCall (pe_glob (v := .ref (He.ga K "Row")) (by rfl) g_Row rfl) cf_Row_init F_Row_init.F (hr.mono (by decide)) F_Row_init.B .nil (by wtm_at "pk") (pa_cons (pv 0) (pa_cons (pv 1) (pa_cons (pv 2) (pa_cons (pv 3) pa_nil))))))))
    (d_Yearly_init kr)
abbrev N_law_line_made : List Str := ["_law_line_here"]
theorem sc_law_line_made : FnScope N_law_line_made ["_law_line_here"] (defScope s_law_line_made) := by wtm_at "sn"
theorem ok_law_line_made {f : Addr} {fd : FuncData} {f_Going_init f_Yearly_init : Addr} {fd_Going_init fd_Yearly_init : FuncData} (F : GD K "_law_line_made" "_law_line_made" s_law_line_made f fd) (F_Going_init : FQ P w K mg base 3 f_Going_init fd_Going_init ["self", "name", "many", "most", "begin"] (c_Going_init K)) (M_Going : Mk K (He.ga K "Going") f_Going_init) (F_Yearly_init : FQ P w K mg base 3 f_Yearly_init fd_Yearly_init ["self", "name", "many", "most"] (c_Yearly_init K)) (M_Yearly : Mk K (He.ga K "Yearly") f_Yearly_init) (g_Going : mg "Going" = some (.ref (He.ga K "Going"))) (g_Yearly : mg "Yearly" = some (.ref (He.ga K "Yearly"))) :
    FnOk P w K mg base (L2.CX P w) 5 f fd ["_law_line_here"] (spD K (c_law_line_made K)) :=
  fn_DD (t := t_law_line_made K) F sc_law_line_made (by wtm_at "ln") (by decide)
    (fun cdv A outer s H E hr => by exact
      (pss_cons (ps_if (pt_cmpR (op_eqD hr.units) (pe_ix ix_seq (pv 0) pe_int (fun _ _ => rfl)) pe_str (nomark _)) (pss_one (ps_ret (pe_make M_Going F_Going_init.F (hr.mono (by decide)) (by rfl) g_Going F_Going_init.B .nil (by wtm_at "pk") (pa_cons (pe_ix ix_seq (pv 0) pe_int (fun _ _ => rfl)) (pa_cons (pe_ix ix_seq (pv 0) pe_int (fun _ _ => rfl)) (pa_cons (pe_ix ix_seq (pv 0) pe_int (fun _ _ => rfl)) (pa_cons (pe_ix ix_seq (pv 0) pe_int (fun _ _ => rfl)) pa_nil))))))) pss_nil)
      (pss_one (ps_ret (pe_make M_Yearly F_Yearly_init.F (hr.mono (by decide)) (by rfl) g_Yearly F_Yearly_init.B .nil (by wtm_at "pk") (pa_cons (pe_ix ix_seq (pv 0) pe_int (fun _ _ => rfl)) (pa_cons (pe_ix ix_seq (pv 0) pe_int (fun _ _ => rfl)) (pa_cons (pe_ix ix_seq (pv 0) pe_int (fun _ _ => rfl)) pa_nil))))))))
    (d_law_line_made)
abbrev N_are_unlike : List Str := ["names"]
theorem sc_are_unlike : FnScope N_are_unlike ["names"] (defScope s_are_unlike) := by wtm_at "sn"
theorem ok_are_unlike {f : Addr} {fd : FuncData} (F : GD K "are_unlike" "are_unlike" s_are_unlike f fd) (n_len : mg "len" = none) (n_set : mg "set" = none) :
    FnOk P w K mg base (L2.CX P w) 1 f fd ["names"] (spD K (c_are_unlike K)) :=
  fn_DD (t := t_are_unlike K) F sc_are_unlike (by wtm_at "ln") (by decide)
    (fun cdv A outer s H E hr => by exact
      (pss_one (ps_ret (pe_cmpR (op_eqD hr.units) (pe_lenSetS (by rfl) n_len (by rfl) n_set (pv 0)) (pe_callB call_len (by rfl) n_len (by decide +kernel) (pa_cons (pv 0) pa_nil)) (nomark _)))))
    (d_are_unlike)
abbrev N_Feast_told : List Str := ["self", "kept"]
theorem sc_Feast_told : FnScope N_Feast_told ["self"] (defScope s_Feast_told) := by wtm_at "sn"
theorem ok_Feast_told {f : Addr} {fd : FuncData} (F : GD K "told" "Feast.told" s_Feast_told f fd) (n_list : mg "list" = none) (kf : KFe K) :
    FnOk P w K mg base (L2.CX P w) 1 f fd ["self"] (spD K (c_Feast_told K)) :=
  fn_DD (t := t_Feast_told K) F sc_Feast_told (by wtm_at "ln") (by decide)
    (fun cdv A outer s H E hr => by exact
      (pss_cons (ps_set (i := 1) sc_Feast_told.nd rfl (by wtm_at "oi") (pe_ifExp (pt_cmp (pc_isN (pe_fld (pv 0) rfl)) rfl) pe_non (pe_callTy call_list_of (by rfl) n_list (by decide +kernel) (pa_cons (pe_fld (pv 0) rfl) pa_nil))))
      (pss_one (ps_ret (pe_tup (pa_cons (pe_fld (pv 0) rfl) (pa_cons (pe_fld (pv 0) rfl) (pa_cons (pe_fld (pv 0) rfl) (pa_cons (pv 1) (pa_cons (pe_callTy call_list_of (by rfl) n_list (by decide +kernel) (pa_cons (pe_fld (pv 0) rfl) pa_nil)) pa_nil))))))))))
    (d_Feast_told kf)
abbrev N_Calendar_years : List Str := ["self"]
theorem sc_Calendar_years : FnScope N_Calendar_years ["self"] (defScope s_Calendar_years) := by wtm_at "sn"
theorem ok_Calendar_years {f : Addr} {fd : FuncData} (F : GD K "years" "Calendar.years" s_Calendar_years f fd) (n_list : mg "list" = none) (kc : KCal K) :
    FnOk P w K mg base (L2.CX P w) 1 f fd ["self"] (spD K (c_Calendar_years K)) :=
  fn_DD (t := t_Calendar_years K) F sc_Calendar_years (by wtm_at "ln") (by decide)
    (fun cdv A outer s H E hr => by exact
      (pss_one (ps_ret (pe_callTy call_list_of (by rfl) n_list (by decide +kernel) (pa_cons (pe_fld (pv 0) rfl) pa_nil)))))
    (d_Calendar_years kc)
abbrev N_is_house : List Str := ["calendar", "feasts", "rows", "feast", "row", "names", "many", "years", "puts", "name", "sort"]
theorem sc_is_house : FnScope N_is_house ["calendar", "feasts", "rows"] (defScope s_is_house) := by wtm_at "sn"
theorem ok_is_house {f : Addr} {fd : FuncData} {f_are_unlike f_Feast_told f_Calendar_years : Addr} {fd_are_unlike fd_Feast_told fd_Calendar_years : FuncData} (F : GD K "is_house" "is_house" s_is_house f fd) (F_are_unlike : FG P w K mg base 1 f_are_unlike fd_are_unlike ["names"] (c_are_unlike K) "are_unlike") (F_Feast_told : FQ P w K mg base 1 f_Feast_told fd_Feast_told ["self"] (c_Feast_told K)) (F_Calendar_years : FQ P w K mg base 1 f_Calendar_years fd_Calendar_years ["self"] (c_Calendar_years K)) (g_Calendar : mg "Calendar" = some (.ref (He.ga K "Calendar"))) (n_isinstance : mg "isinstance" = none) (n_list : mg "list" = none) (n_len : mg "len" = none) (g_Feast : mg "Feast" = some (.ref (He.ga K "Feast"))) (n_all : mg "all" = none) (g_Row : mg "Row" = some (.ref (He.ga K "Row"))) (cl_Feast : Cls K (He.ga K "Feast")) (mm_Feast_told : Meth K (He.ga K "Feast") "told" f_Feast_told) (cl_Calendar : Cls K (He.ga K "Calendar")) (mm_Calendar_years : Meth K (He.ga K "Calendar") "years" f_Calendar_years) (kr : KRw K) (kih : KIsH K) :
    FnOk P w K mg base (L2.CX P w) 2 f fd ["calendar", "feasts", "rows"] (spD K (c_is_house K)) :=
  fn_DD (t := t_is_house K) F sc_is_house (by wtm_at "ln") (by decide)
    (fun cdv A outer s H E hr => by exact
      (pss_cons (ps_if (PW.pt (pw_or (pt_not (pt_truth (pe_callB call_isi (by rfl) n_isinstance (by decide +kernel) (pa_cons (pv 0) (pa_cons (pe_glob (v := .ref (He.ga K "Calendar")) (by rfl) g_Calendar rfl) pa_nil))) (by intro _; rfl))) (pw_or (pt_not (pt_truth (pe_callB call_isi (by rfl) n_isinstance (by decide +kernel) (pa_cons (pv 1) (pa_cons (pe_bltn (v := .ty "list") (by rfl) n_list (by decide +kernel) rfl) pa_nil))) (by intro _; rfl))) (pw_or1 (pt_not (pt_truth (pe_callB call_isi (by rfl) n_isinstance (by decide +kernel) (pa_cons (pv 2) (pa_cons (pe_bltn (v := .ty "list") (by rfl) n_list (by decide +kernel) rfl) pa_nil))) (by intro _; rfl))))))) (pss_one (ps_ret pe_bl)) pss_nil)
      (pss_cons (ps_if (PW.pt (pw_or (pt_cmpR op_gt (pe_callB call_len (by rfl) n_len (by decide +kernel) (pa_cons (pv 1) pa_nil)) pe_int (nomark _)) (pw_or1 (pt_not (pt_chain op_le op_le pe_int (pe_callB call_len (by rfl) n_len (by decide +kernel) (pa_cons (pv 2) pa_nil)) pe_int))))) (pss_one (ps_ret pe_bl)) pss_nil)
      (pss_cons (ps_if (PW.pt (pw_or (pt_not (pt_truth (pe_callB (cr_all rfl) (by rfl) n_all (by decide +kernel) (pa_cons (pe_lc (own := [("feast", 3)]) (g := (gName 3)) (tt := tYes) (te := (tCB (rIsi K) (tCons (tVar 3) (tCons (tC (.ref (He.ga K "Feast"))) tNil)))) (by rfl) sc_is_house.nd (pi_any (pv 1)) (blkOk_by (own := [("feast", 3)]) (N := N_is_house) (sc := defScope s_is_house) (by decide +kernel)) (fun _ _ _ _ _ => by exact (pg_name (i := 3) sc_is_house.nd rfl (by wtm_at "oi"))) (fun _ _ _ _ _ => by exact pts_nil) (fun _ _ _ _ _ => by exact (pe_callB call_isi (by rfl) n_isinstance (by decide +kernel) (pa_cons (pv 3) (pa_cons (pe_glob (v := .ref (He.ga K "Feast")) (by rfl) g_Feast rfl) pa_nil))))) pa_nil)) (by intro _; rfl))) (pw_or1 (pt_not (pt_truth (pe_callB (cr_all rfl) (by rfl) n_all (by decide +kernel) (pa_cons (pe_lc (own := [("row", 4)]) (g := (gName 4)) (tt := tYes) (te := (tCB (rIsi K) (tCons (tVar 4) (tCons (tC (.ref (He.ga K "Row"))) tNil)))) (by rfl) sc_is_house.nd (pi_any (pv 2)) (blkOk_by (own := [("row", 4)]) (N := N_is_house) (sc := defScope s_is_house) (by decide +kernel)) (fun _ _ _ _ _ => by exact (pg_name (i := 4) sc_is_house.nd rfl (by wtm_at "oi"))) (fun _ _ _ _ _ => by exact pts_nil) (fun _ _ _ _ _ => by exact (pe_callB call_isi (by rfl) n_isinstance (by decide +kernel) (pa_cons (pv 4) (pa_cons (pe_glob (v := .ref (He.ga K "Row")) (by rfl) g_Row rfl) pa_nil))))) pa_nil)) (by intro _; rfl)))))) (pss_one (ps_ret pe_bl)) pss_nil)
      (pss_cons (by first | exact ps_setLc (i := 5) (own := [("row", 4)]) (g := (gName 4)) (tt := tYes) (te := (tFld K (tVar 4) "name")) (by rfl) sc_is_house.nd rfl rfl (sw_true rfl rfl rfl (by decide +kernel)) (pi_any (pv 2)) (blkOk_by (own := [("row", 4)]) (N := N_is_house) (sc := defScope s_is_house) (by decide +kernel)) (fun _ _ _ _ _ => by exact (pg_name (i := 4) sc_is_house.nd rfl (by wtm_at "oi"))) (fun _ _ _ _ _ => by exact pts_nil) (fun _ _ _ _ _ => by exact (pe_fld (pv 4) rfl)) | exact ps_set (i := 5) sc_is_house.nd rfl (by wtm_at "oi") (pe_lc (own := [("row", 4)]) (g := (gName 4)) (tt := tYes) (te := (tFld K (tVar 4) "name")) (by rfl) sc_is_house.nd (pi_any (pv 2)) (blkOk_by (own := [("row", 4)]) (N := N_is_house) (sc := defScope s_is_house) (by decide +kernel)) (fun _ _ _ _ _ => by exact (pg_name (i := 4) sc_is_house.nd rfl (by wtm_at "oi"))) (fun _ _ _ _ _ => by exact pts_nil) (fun _ _ _ _ _ => by exact (pe_fld (pv 4) rfl))))
      (pss_cons (ps_if (PW.pt (pw_or (pt_not (pt_truth (pe_call F_are_unlike.F (hr.mono (by decide)) (by rfl) F_are_unlike.m F_are_unlike.k F_are_unlike.B .nil (by wtm_at "pk") (pa_cons (pv 5) pa_nil)) (by intro _; rfl))) (pw_or1 (pt_not (pt_truth (pe_call F_are_unlike.F (hr.mono (by decide)) (by rfl) F_are_unlike.m F_are_unlike.k F_are_unlike.B .nil (by wtm_at "pk") (pa_cons (pe_lc (own := [("feast", 3)]) (g := (gName 3)) (tt := tYes) (te := (tOp (rIx K) (tMeth (He.ga K "Feast") "told" (spD K (c_Feast_told K)) [] E0 (tVar 3) tNil) (tC (.int 0)))) (by rfl) sc_is_house.nd (pi_any (pv 1)) (blkOk_by (own := [("feast", 3)]) (N := N_is_house) (sc := defScope s_is_house) (by decide +kernel)) (fun _ _ _ _ _ => by exact (pg_name (i := 3) sc_is_house.nd rfl (by wtm_at "oi"))) (fun _ _ _ _ _ => by exact pts_nil) (fun _ _ _ _ _ => by exact (pe_ix ix_seq (pe_meth0 (pv 3) cl_Feast mm_Feast_told F_Feast_told.F (hr.mono (by decide)) F_Feast_told.B .nil passL) pe_int (fun _ _ => rfl)))) pa_nil)) (by intro _; rfl)))))) (pss_one (ps_ret pe_bl)) pss_nil)
      (pss_cons (ps_set (i := 6) sc_is_house.nd rfl (by wtm_at "oi") (pe_callB call_len (by rfl) n_len (by decide +kernel) (pa_cons (pe_meth0 (pv 0) cl_Calendar mm_Calendar_years F_Calendar_years.F (hr.mono (by decide)) F_Calendar_years.B .nil (by wtm_at "pk")) pa_nil)))
      (pss_cons (ps_for (passes_of rfl) rfl (pi_any (pv 1)) (pg_name (i := 3) sc_is_house.nd rfl (by wtm_at "oi")) (pss_cons (ps_asg (pe_slice sl_any (pe_meth0 (pv 3) cl_Feast mm_Feast_told F_Feast_told.F (hr.mono (by decide)) F_Feast_told.B .nil (by wtm_at "pk")) (po_some pe_int) po_none) (pg_tup rfl (pgs_cons (pg_name (i := 7) sc_is_house.nd rfl (by wtm_at "oi")) (pgs_cons (pg_name (i := 8) sc_is_house.nd rfl (by wtm_at "oi")) pgs_nil))))
      (pss_cons (ps_if (PW.pt (pw_and (pt_cmp (pc_notN (pv 7)) rfl) (pw_and1 (pt_cmpR op_ge (pe_ix ix_seq (pv 7) (pe_un un_neg pe_int) (fun _ _ => rfl)) (pv 6) (nomark _))))) (pss_one (ps_ret pe_bl)) pss_nil)
      (pss_one (ps_if (pt_not (pt_truth (pe_callB (cr_all rfl) (by rfl) n_all (by decide +kernel) (pa_cons (pe_lc (own := [("name", 9), ("sort", 10)]) (g := (gTup K 2 (gCons (gName 9) (gCons (gName 10) gNil)))) (tt := tYes) (te := (tOp (rInA K) (tVar 9) (tVar 5))) (by rfl) sc_is_house.nd (pi_any (pv 8)) (blkOk_by (own := [("name", 9), ("sort", 10)]) (N := N_is_house) (sc := defScope s_is_house) (by decide +kernel)) (fun _ _ _ _ _ => by exact (pg_tup rfl (pgs_cons (pg_name (i := 9) sc_is_house.nd rfl (by wtm_at "oi")) (pgs_cons (pg_name (i := 10) sc_is_house.nd rfl (by wtm_at "oi")) pgs_nil)))) (fun _ _ _ _ _ => by exact pts_nil) (fun _ _ _ _ _ => by exact (pe_cmpR op_inA (pv 9) (pv 5) (by rfl)))) pa_nil)) (by intro _; rfl))) (pss_one (ps_ret pe_bl)) pss_nil)))))
      (pss_one (ps_ret pe_bl))))))))))
    (d_is_house kr kih)
abbrev N_need_day : List Str := ["number"]
theorem sc_need_day : FnScope N_need_day ["number"] (defScope s_need_day) := by wtm_at "sn"
theorem ok_need_day {f : Addr} {fd : FuncData} (F : GD K "need_day" "need_day" s_need_day f fd) (x_NoDay : ExC K mg "NoDay") :
    FnOk P w K mg base (L2.CX P w) 1 f fd ["number"] (spD K (c_need_day K)) :=
  fn_DD (t := t_need_day K) F sc_need_day (by wtm_at "ln") (by decide)
    (fun cdv A outer s H E hr => by exact
      (pss_one (ps_if (pt_cmpR op_lt (pv 0) pe_int (nomark _)) (pss_one (ps_raise rfl (takes_of rfl rfl rfl rfl) (pmk_own PySem.F.excBase_ValueError x_NoDay.xc x_NoDay.gc x_NoDay.kc (raises_own x_NoDay.bc x_NoDay.tc) (by rfl)))) pss_nil)))
    (d_need_day)
abbrev N_Calendar_first : List Str := ["self", "year", "turns", "place"]
theorem sc_Calendar_first : FnScope N_Calendar_first ["self", "year"] (defScope s_Calendar_first) := by wtm_at "sn"
theorem ok_Calendar_first {f : Addr} {fd : FuncData} {f_need_day : Addr} {fd_need_day : FuncData} (F : GD K "first" "Calendar.first" s_Calendar_first f fd) (F_need_day : FG P w K mg base 1 f_need_day fd_need_day ["number"] (c_need_day K) "need_day") (n_len : mg "len" = none) (n_divmod : mg "divmod" = none) (kc : KCal K) :
    FnOk P w K mg base (L2.CX P w) 2 f fd ["self", "year"] (spD K (c_Calendar_first K)) :=
  fn_DD (t := t_Calendar_first K) F sc_Calendar_first (by wtm_at "ln") (by decide)
    (fun cdv A outer s H E hr => by exact
      (pss_cons (ps_expr (pe_call F_need_day.F (hr.mono (by decide)) (by rfl) F_need_day.m F_need_day.k F_need_day.B .nil (by wtm_at "pk") (pa_cons (pv 1) pa_nil)))
      (pss_cons (ps_asg (pe_callB call_divmod (by rfl) n_divmod (by decide +kernel) (pa_cons (pv 1) (pa_cons (pe_callB call_len (by rfl) n_len (by decide +kernel) (pa_cons (pe_fld (pv 0) rfl) pa_nil)) pa_nil))) (pg_tup rfl (pgs_cons (pg_name (i := 2) sc_Calendar_first.nd rfl (by wtm_at "oi")) (pgs_cons (pg_name (i := 3) sc_Calendar_first.nd rfl (by wtm_at "oi")) pgs_nil))))
      (pss_one (ps_ret (pe_op op_addA (pe_op op_mulA (pv 2) (pe_fld (pv 0) rfl)) (pe_ix ix_seq (pe_fld (pv 0) rfl) (pv 3) (fun _ _ => rfl))))))))
    (d_Calendar_first kc)
abbrev N_Calendar_long : List Str := ["self", "year"]
theorem sc_Calendar_long : FnScope N_Calendar_long ["self", "year"] (defScope s_Calendar_long) := by wtm_at "sn"
theorem ok_Calendar_long {f : Addr} {fd : FuncData} {f_need_day : Addr} {fd_need_day : FuncData} (F : GD K "long" "Calendar.long" s_Calendar_long f fd) (F_need_day : FG P w K mg base 1 f_need_day fd_need_day ["number"] (c_need_day K) "need_day") (n_len : mg "len" = none) (kc : KCal K) :
    FnOk P w K mg base (L2.CX P w) 2 f fd ["self", "year"] (spD K (c_Calendar_long K)) :=
  fn_DD (t := t_Calendar_long K) F sc_Calendar_long (by wtm_at "ln") (by decide)
    (fun cdv A outer s H E hr => by exact
      (pss_cons (ps_expr (pe_call F_need_day.F (hr.mono (by decide)) (by rfl) F_need_day.m F_need_day.k F_need_day.B .nil (by wtm_at "pk") (pa_cons (pv 1) pa_nil)))
      (pss_one (ps_ret (pe_ix ix_seq (pe_fld (pv 0) rfl) (pe_op op_modA (pv 1) (pe_callB call_len (by rfl) n_len (by decide +kernel) (pa_cons (pe_fld (pv 0) rfl) pa_nil))) (fun _ _ => rfl))))))
    (d_Calendar_long kc)
abbrev N_Feast_span : List Str := ["self", "calendar", "year", "days", "place", "first"]
theorem sc_Feast_span : FnScope N_Feast_span ["self", "calendar", "year"] (defScope s_Feast_span) := by wtm_at "sn"
theorem ok_Feast_span {f : Addr} {fd : FuncData} {f_need_day f_Calendar_years f_Calendar_long f_Calendar_first : Addr} {fd_need_day fd_Calendar_years fd_Calendar_long fd_Calendar_first : FuncData} (F : GD K "span" "Feast.span" s_Feast_span f fd) (F_need_day : FG P w K mg base 1 f_need_day fd_need_day ["number"] (c_need_day K) "need_day") (F_Calendar_years : FQ P w K mg base 1 f_Calendar_years fd_Calendar_years ["self"] (c_Calendar_years K)) (F_Calendar_long : FQ P w K mg base 2 f_Calendar_long fd_Calendar_long ["self", "year"] (c_Calendar_long K)) (F_Calendar_first : FQ P w K mg base 2 f_Calendar_first fd_Calendar_first ["self", "year"] (c_Calendar_first K)) (cl_Calendar : Cls K (He.ga K "Calendar")) (mm_Calendar_years : Meth K (He.ga K "Calendar") "years" f_Calendar_years) (n_len : mg "len" = none) (mm_Calendar_long : Meth K (He.ga K "Calendar") "long" f_Calendar_long) (mm_Calendar_first : Meth K (He.ga K "Calendar") "first" f_Calendar_first) (n_min : mg "min" = none) (kf : KFe K) :
    FnOk P w K mg base (L2.CX P w) 3 f fd ["self", "calendar", "year"] (spD K (c_Feast_span K)) :=
  fn_DD (t := t_Feast_span K) F sc_Feast_span (by wtm_at "ln") (by decide)
    (fun cdv A outer s H E hr => by exact
      (pss_cons (ps_expr (pe_call F_need_day.F (hr.mono (by decide)) (by rfl) F_need_day.m F_need_day.k F_need_day.B .nil (by wtm_at "pk") (pa_cons (pv 2) pa_nil)))
      (pss_cons (ps_if (PW.pt (pw_and (pt_cmp (pc_notN (pe_fld (pv 0) rfl)) rfl) (pw_and1 (pt_cmpR op_notInA (pe_op op_modA (pv 2) (pe_callB call_len (by rfl) n_len (by decide +kernel) (pa_cons (pe_meth0 (pv 1) cl_Calendar mm_Calendar_years F_Calendar_years.F (hr.mono (by decide)) F_Calendar_years.B .nil (by wtm_at "pk")) pa_nil))) (pe_fld (pv 0) rfl) (by rfl))))) (pss_one (ps_ret pe_non)) pss_nil)
      (pss_cons (ps_set (i := 3) sc_Feast_span.nd rfl (by wtm_at "oi") (pe_meth (pv 1) cl_Calendar mm_Calendar_long F_Calendar_long.F (hr.mono (by decide)) F_Calendar_long.B .nil (by wtm_at "pk") (pa_cons (pv 2) pa_nil)))
      (pss_cons (ps_set (i := 4) sc_Feast_span.nd rfl (by wtm_at "oi") (pe_ifExp (pt_cmpR op_ge (pe_fld (pv 0) rfl) pe_int (nomark _)) (pe_fld (pv 0) rfl) (pe_op op_addA (pv 3) (pe_fld (pv 0) rfl))))
      (pss_cons (ps_if (pt_not (pt_chain op_le op_lt pe_int (pv 4) (pv 3))) (pss_one (ps_ret pe_non)) pss_nil)
      (pss_cons (ps_set (i := 5) sc_Feast_span.nd rfl (by wtm_at "oi") (pe_meth (pv 1) cl_Calendar mm_Calendar_first F_Calendar_first.F (hr.mono (by decide)) F_Calendar_first.B .nil (by wtm_at "pk") (pa_cons (pv 2) pa_nil)))
      (pss_one (ps_ret (pe_tup (pa_cons (pe_op op_addA (pv 5) (pv 4)) (pa_cons (pe_op op_addA (pv 5) (pe_callB (call_minA rfl) (by rfl) n_min (by decide +kernel) (pa_cons (pe_op op_addA (pv 4) (pe_fld (pv 0) rfl)) (pa_cons (pv 3) pa_nil)))) pa_nil))))))))))))
    (d_Feast_span kf)
abbrev N_sort_at : List Str := ["spans", "place", "wanted", "start", "end", "sort", "feast"]
theorem sc_sort_at : FnScope N_sort_at ["spans", "place"] (defScope s_sort_at) := by wtm_at "sn"
theorem ok_sort_at {f : Addr} {fd : FuncData} (F : GD K "sort_at" "sort_at" s_sort_at f fd) :
    FnOk P w K mg base (L2.CX P w) 1 f fd ["spans", "place"] (spD K (c_sort_at K)) :=
  fn_DD (t := t_sort_at K) F sc_sort_at (by wtm_at "ln") (by decide)
    (fun cdv A outer s H E hr => by exact
      (pss_cons (ps_for (passes_of rfl) rfl (pi_any (pe_tup (pa_cons pe_str (pa_cons pe_str pa_nil)))) (pg_name (i := 2) sc_sort_at.nd rfl (by wtm_at "oi")) (pss_one (ps_for (passes_of rfl) rfl (pi_any (pv 0)) (pg_tup rfl (pgs_cons (pg_name (i := 3) sc_sort_at.nd rfl (by wtm_at "oi")) (pgs_cons (pg_name (i := 4) sc_sort_at.nd rfl (by wtm_at "oi")) (pgs_cons (pg_name (i := 5) sc_sort_at.nd rfl (by wtm_at "oi")) (pgs_cons (pg_name (i := 6) sc_sort_at.nd rfl (by wtm_at "oi")) pgs_nil))))) (pss_one (ps_if (PW.pt (pw_and (pt_cmpR (op_eqD hr.units) (pv 5) (pv 2) (nomark _)) (pw_and1 (pt_chain op_le op_lt (pv 3) (pv 1) (pv 4))))) (pss_one (ps_ret (pe_tup (pa_cons (pv 5) (pa_cons (pv 6) pa_nil))))) pss_nil)))))
      (pss_one (ps_ret (pe_tup (pa_cons pe_str (pa_cons pe_str pa_nil)))))))
    (d_sort_at)
abbrev N_year_chart : List Str := ["calendar", "feasts", "name", "year", "first", "spans", "feast", "span", "title", "place", "days", "years", "puts", "sort", "ends", "cuts", "start", "end"]
theorem sc_year_chart : FnScope N_year_chart ["calendar", "feasts", "name", "year"] (defScope s_year_chart) := by wtm_at "sn"
theorem ok_year_chart {f : Addr} {fd : FuncData} {f_Calendar_first f_Feast_span f_Feast_told f_Calendar_long f_sort_at : Addr} {fd_Calendar_first fd_Feast_span fd_Feast_told fd_Calendar_long fd_sort_at : FuncData} (F : GD K "year_chart" "year_chart" s_year_chart f fd) (F_Calendar_first : FQ P w K mg base 2 f_Calendar_first fd_Calendar_first ["self", "year"] (c_Calendar_first K)) (F_Feast_span : FQ P w K mg base 3 f_Feast_span fd_Feast_span ["self", "calendar", "year"] (c_Feast_span K)) (F_Feast_told : FQ P w K mg base 1 f_Feast_told fd_Feast_told ["self"] (c_Feast_told K)) (F_Calendar_long : FQ P w K mg base 2 f_Calendar_long fd_Calendar_long ["self", "year"] (c_Calendar_long K)) (F_sort_at : FG P w K mg base 1 f_sort_at fd_sort_at ["spans", "place"] (c_sort_at K) "sort_at") (cl_Calendar : Cls K (He.ga K "Calendar")) (mm_Calendar_first : Meth K (He.ga K "Calendar") "first" f_Calendar_first) (cl_Feast : Cls K (He.ga K "Feast")) (mm_Feast_span : Meth K (He.ga K "Feast") "span" f_Feast_span) (mm_Feast_told : Meth K (He.ga K "Feast") "told" f_Feast_told) (n_dict : mg "dict" = none) (mm_Calendar_long : Meth K (He.ga K "Calendar") "long" f_Calendar_long) (n_sorted : mg "sorted" = none) (n_set : mg "set" = none) (n_zip : mg "zip" = none) :
    FnOk P w K mg base (L2.CX P w) 4 f fd ["calendar", "feasts", "name", "year"] (spD K (c_year_chart K)) :=
  fn_DD (t := t_year_chart K) F sc_year_chart (by wtm_at "ln") (by decide)
    (fun cdv A outer s H E hr => by exact
      (pss_cons (ps_set (i := 4) sc_year_chart.nd rfl (by wtm_at "oi") (pe_meth (pv 0) cl_Calendar mm_Calendar_first F_Calendar_first.F (hr.mono (by decide)) F_Calendar_first.B .nil (by wtm_at "pk") (pa_cons (pv 3) pa_nil)))
      (pss_cons (ps_set (i := 5) sc_year_chart.nd rfl (by wtm_at "oi") (pe_lst pa_nil))
      (pss_cons (ps_for (passes_of rfl) rfl (pi_any (pv 1)) (pg_name (i := 6) sc_year_chart.nd rfl (by wtm_at "oi")) (pss_cons (ps_set (i := 7) sc_year_chart.nd rfl (by wtm_at "oi") (pe_meth (pv 6) cl_Feast mm_Feast_span F_Feast_span.F (hr.mono (by decide)) F_Feast_span.B .nil (by wtm_at "pk") (pa_cons (pv 0) (pa_cons (pv 3) pa_nil))))
      (pss_cons (ps_asg (pe_meth0 (pv 6) cl_Feast mm_Feast_told F_Feast_told.F (hr.mono (by decide)) F_Feast_told.B .nil (by wtm_at "pk")) (pg_tup rfl (pgs_cons (pg_name (i := 8) sc_year_chart.nd rfl (by wtm_at "oi")) (pgs_cons (pg_name (i := 9) sc_year_chart.nd rfl (by wtm_at "oi")) (pgs_cons (pg_name (i := 10) sc_year_chart.nd rfl (by wtm_at "oi")) (pgs_cons (pg_name (i := 11) sc_year_chart.nd rfl (by wtm_at "oi")) (pgs_cons (pg_name (i := 12) sc_year_chart.nd rfl (by wtm_at "oi")) pgs_nil)))))))
      (pss_cons (ps_set (i := 13) sc_year_chart.nd rfl (by wtm_at "oi") (pe_dget2 (hu_of hr) (pe_callTy (call_dictP rfl) (by rfl) n_dict (by decide +kernel) (pa_cons (pv 12) pa_nil)) (pv 2) pe_str ⟨by rfl, by rfl, by rfl, by rfl⟩))
      (pss_one (ps_if (PW.pt (pw_and (pt_cmp (pc_notN (pv 7)) rfl) (pw_and1 (pt_cmpR (op_neD hr.units) (pv 13) pe_str (nomark _))))) (pss_one (ps_expr (pe_bm PySem.F.plainAttrs_list PySem.F.slot_list_append PySem.F.type_list_append mt_append (pv 5) (pa_cons (pe_tup (pa_cons (pe_op op_sub (pe_ix ix_seq (pv 7) pe_int (fun _ _ => rfl)) (pv 4)) (pa_cons (pe_op op_sub (pe_ix ix_seq (pv 7) pe_int (fun _ _ => rfl)) (pv 4)) (pa_cons (pv 13) (pa_cons (pv 8) pa_nil))))) pa_nil)))) pss_nil))))))
      (pss_cons (ps_set (i := 14) sc_year_chart.nd rfl (by wtm_at "oi") (pe_op op_addA (pe_op op_addA (pe_lst (pa_cons pe_int (pa_cons (pe_meth (pv 0) cl_Calendar mm_Calendar_long F_Calendar_long.F (hr.mono (by decide)) F_Calendar_long.B .nil (by wtm_at "pk") (pa_cons (pv 3) pa_nil)) pa_nil))) (pe_lc (own := [("span", 7)]) (g := (gName 7)) (tt := tYes) (te := (tOp (rIx K) (tVar 7) (tC (.int 0)))) (by rfl) sc_year_chart.nd (pi_any (pv 5)) (blkOk_by (own := [("span", 7)]) (N := N_year_chart) (sc := defScope s_year_chart) (by decide +kernel)) (fun _ _ _ _ _ => by exact (pg_name (i := 7) sc_year_chart.nd rfl (by wtm_at "oi"))) (fun _ _ _ _ _ => by exact pts_nil) (fun _ _ _ _ _ => by exact (pe_ix ix_seq (pv 7) pe_int (fun _ _ => rfl))))) (pe_lc (own := [("span", 7)]) (g := (gName 7)) (tt := tYes) (te := (tOp (rIx K) (tVar 7) (tC (.int 1)))) (by rfl) sc_year_chart.nd (pi_any (pv 5)) (blkOk_by (own := [("span", 7)]) (N := N_year_chart) (sc := defScope s_year_chart) (by decide +kernel)) (fun _ _ _ _ _ => by exact (pg_name (i := 7) sc_year_chart.nd rfl (by wtm_at "oi"))) (fun _ _ _ _ _ => by exact pts_nil) (fun _ _ _ _ _ => by exact (pe_ix ix_seq (pv 7) pe_int (fun _ _ => rfl))))))
      (pss_cons (ps_set (i := 15) sc_year_chart.nd rfl (by wtm_at "oi") (pe_sortSet (by rfl) n_sorted (by rfl) n_set (pv 14)))
      (pss_one (ps_ret (pe_lc (own := [("start", 16), ("end", 17)]) (g := (gTup K 2 (gCons (gName 16) (gCons (gName 17) gNil)))) (tt := tYes) (te := (tOp (rAddA K) (tTup (tCons (tVar 16) (tCons (tVar 17) tNil))) (tCall (spD K (c_sort_at K)) [] E0 (tCons (tVar 5) (tCons (tVar 16) tNil))))) (by rfl) sc_year_chart.nd (pi_zip (by rfl) n_zip (pa_cons (pv 15) (pa_cons (pe_slice sl_any (pv 15) (po_some pe_int) po_none) pa_nil))) (blkOk_by (own := [("start", 16), ("end", 17)]) (N := N_year_chart) (sc := defScope s_year_chart) (by decide +kernel)) (fun _ _ _ _ _ => by exact (pg_tup rfl (pgs_cons (pg_name (i := 16) sc_year_chart.nd rfl (by wtm_at "oi")) (pgs_cons (pg_name (i := 17) sc_year_chart.nd rfl (by wtm_at "oi")) pgs_nil)))) (fun _ _ _ _ _ => by exact pts_nil) (fun _ _ _ _ _ => by exact (pe_op op_addA (pe_tup (pa_cons (pv 16) (pa_cons (pv 17) pa_nil))) (pe_call F_sort_at.F (hr.mono (by decide)) (by rfl) F_sort_at.m F_sort_at.k F_sort_at.B .nil passL (pa_cons (pv 5) (pa_cons (pv 16) pa_nil))))))))))))))
    (d_year_chart)
abbrev N_Row_begins_anew : List Str := ["self"]
theorem sc_Row_begins_anew : FnScope N_Row_begins_anew ["self"] (defScope s_Row_begins_anew) := by wtm_at "sn"
theorem ok_Row_begins_anew {f : Addr} {fd : FuncData} (F : GD K "begins_anew" "Row.begins_anew" s_Row_begins_anew f fd) :
    FnOk P w K mg base (L2.CX P w) 1 f fd ["self"] (spD K (c_Row_begins_anew K)) :=
  fn_DD (t := t_Row_begins_anew K) F sc_Row_begins_anew (by wtm_at "ln") (by decide)
    (fun cdv A outer s H E hr => by exact
      (pss_one (ps_ret pe_bl)))
    (d_Row_begins_anew)
abbrev N_Yearly_begins_anew : List Str := ["self"]
theorem sc_Yearly_begins_anew : FnScope N_Yearly_begins_anew ["self"] (defScope s_Yearly_begins_anew) := by wtm_at "sn"
theorem ok_Yearly_begins_anew {f : Addr} {fd : FuncData} (F : GD K "begins_anew" "Yearly.begins_anew" s_Yearly_begins_anew f fd) :
    FnOk P w K mg base (L2.CX P w) 1 f fd ["self"] (spD K (c_Yearly_begins_anew K)) :=
  fn_DD (t := t_Yearly_begins_anew K) F sc_Yearly_begins_anew (by wtm_at "ln") (by decide)
    (fun cdv A outer s H E hr => by exact
      (pss_one (ps_ret pe_bl)))
    (d_Yearly_begins_anew)
abbrev N_Row_coming : List Str := ["self", "due", "days"]
theorem sc_Row_coming : FnScope N_Row_coming ["self", "due", "days"] (defScope s_Row_coming) := by wtm_at "sn"
theorem ok_Row_coming {f : Addr} {fd : FuncData} (F : GD K "coming" "Row.coming" s_Row_coming f fd) :
    FnOk P w K mg base (L2.CX P w) 1 f fd ["self", "due", "days"] (spD K (c_Row_coming K)) :=
  fn_DD (t := t_Row_coming K) F sc_Row_coming (by wtm_at "ln") (by decide)
    (fun cdv A outer s H E hr => by exact
      (pss_one (ps_ret (pv 2))))
    (d_Row_coming)
abbrev N_Yearly_coming : List Str := ["self", "due", "days"]
theorem sc_Yearly_coming : FnScope N_Yearly_coming ["self", "due", "days"] (defScope s_Yearly_coming) := by wtm_at "sn"
theorem ok_Yearly_coming {f : Addr} {fd : FuncData} (F : GD K "coming" "Yearly.coming" s_Yearly_coming f fd) (n_min : mg "min" = none) (kr : KRw K) :
    FnOk P w K mg base (L2.CX P w) 1 f fd ["self", "due", "days"] (spD K (c_Yearly_coming K)) :=
  fn_DD (t := t_Yearly_coming K) F sc_Yearly_coming (by wtm_at "ln") (by decide)
    (fun cdv A outer s H E hr => by exact
      (pss_one (ps_ret (pe_callB (call_minA rfl) (by rfl) n_min (by decide +kernel) (pa_cons (pv 2) (pa_cons (pe_op op_sub (pe_fld (pv 0) rfl) (pv 1)) pa_nil))))))
    (d_Yearly_coming kr)
abbrev N_Row_over : List Str := ["self", "pair", "sort", "days", "due", "owed", "more"]
theorem sc_Row_over : FnScope N_Row_over ["self", "pair", "sort", "days"] (defScope s_Row_over) := by wtm_at "sn"
theorem ok_Row_over {f : Addr} {fd : FuncData} {f_Row_coming f_Yearly_coming : Addr} {fd_Row_coming fd_Yearly_coming : FuncData} (F : GD K "over" "Row.over" s_Row_over f fd) (F_Row_coming : FQ P w K mg base 1 f_Row_coming fd_Row_coming ["self", "due", "days"] (c_Row_coming K)) (F_Yearly_coming : FQ P w K mg base 1 f_Yearly_coming fd_Yearly_coming ["self", "due", "days"] (c_Yearly_coming K)) (cl_Going : Cls K (He.ga K "Going")) (mm_Going_coming : Meth K (He.ga K "Going") "coming" f_Row_coming) (cl_Yearly : Cls K (He.ga K "Yearly")) (mm_Yearly_coming : Meth K (He.ga K "Yearly") "coming" f_Yearly_coming) (n_max : mg "max" = none) (kr : KRw K) :
    FnOk P w K mg base (L2.CX P w) 2 f fd ["self", "pair", "sort", "days"] (spD K (c_Row_over K)) :=
  fn_DD (t := t_Row_over K) F sc_Row_over (by wtm_at "ln") (by decide)
    (fun cdv A outer s H E hr => by exact
      (pss_cons (ps_asg (pv 1) (pg_tup rfl (pgs_cons (pg_name (i := 4) sc_Row_over.nd rfl (by wtm_at "oi")) (pgs_cons (pg_name (i := 5) sc_Row_over.nd rfl (by wtm_at "oi")) pgs_nil))))
      (pss_cons (ps_if (pt_cmpR (op_eqD hr.units) (pv 2) pe_str (nomark _)) (pss_one (ps_ret (pe_tup (pa_cons (pv 4) (pa_cons (pv 5) pa_nil))))) pss_nil)
      (pss_cons (ps_set (i := 6) sc_Row_over.nd rfl (by wtm_at "oi") (PE.or (pe_meth (pv 0) cl_Going mm_Going_coming F_Row_coming.F (hr.mono (by decide)) F_Row_coming.B .nil (by wtm_at "pk") (pa_cons (pv 4) (pa_cons (pv 3) pa_nil))) (pe_meth (pv 0) cl_Yearly mm_Yearly_coming F_Yearly_coming.F (hr.mono (by decide)) F_Yearly_coming.B .nil (by wtm_at "pk") (pa_cons (pv 4) (pa_cons (pv 3) pa_nil)))))
      (pss_cons (ps_if (pt_cmpR (op_eqD hr.units) (pv 2) pe_str (nomark _)) (pss_one (ps_ret (pe_tup (pa_cons (pe_op op_addA (pv 4) (pv 6)) (pa_cons (pe_op op_addA (pv 5) (pv 6)) pa_nil))))) pss_nil)
      (pss_cons (ps_set (i := 5) sc_Row_over.nd rfl (by wtm_at "oi") (pe_callB (call_maxA rfl) (by rfl) n_max (by decide +kernel) (pa_cons (pe_op op_addA (pv 5) (pe_op op_mulA (pv 6) (pe_op op_sub pe_int (pe_fld (pv 0) rfl)))) (pa_cons pe_int pa_nil))))
      (pss_one (ps_ret (pe_tup (pa_cons (pe_op op_addA (pv 4) (pv 6)) (pa_cons (pe_callB (call_maxA rfl) (by rfl) n_max (by decide +kernel) (pa_cons (pe_op op_sub (pv 5) (pe_op op_mulA (pe_op op_sub (pv 3) (pv 6)) (pe_fld (pv 0) rfl))) (pa_cons pe_int pa_nil))) pa_nil)))))))))))
    (d_Row_over kr)
abbrev N_drift_of : List Str := ["line", "sort", "days"]
theorem sc_drift_of : FnScope N_drift_of ["line", "sort", "days"] (defScope s_drift_of) := by wtm_at "sn"
theorem ok_drift_of {f : Addr} {fd : FuncData} (F : GD K "drift_of" "drift_of" s_drift_of f fd) (kr : KRw K) :
    FnOk P w K mg base (L2.CX P w) 1 f fd ["line", "sort", "days"] (spD K (c_drift_of K)) :=
  fn_DD (t := t_drift_of K) F sc_drift_of (by wtm_at "ln") (by decide)
    (fun cdv A outer s H E hr => by exact
      (pss_cons (ps_if (pt_cmpR (op_eqD hr.units) (pv 1) pe_str (nomark _)) (pss_one (ps_ret pe_int)) pss_nil)
      (pss_one (ps_ret (pe_ifExp (pt_cmpR (op_eqD hr.units) (pv 1) pe_str (nomark _)) (pv 2) (pe_op op_mulA (pv 2) (pe_op op_sub pe_int (pe_fld (pv 0) rfl))))))))
    (d_drift_of kr)
abbrev N_Table_marks_from : List Str := ["self", "owed", "found", "pair", "drift", "chart", "marks", "start", "end", "sort", "feast"]
theorem sc_Table_marks_from : FnScope N_Table_marks_from ["self", "owed"] (defScope s_Table_marks_from) := by wtm_at "sn"
theorem ok_Table_marks_from {f : Addr} {fd : FuncData} {f_Row_begins_anew f_Yearly_begins_anew f_Row_over f_drift_of : Addr} {fd_Row_begins_anew fd_Yearly_begins_anew fd_Row_over fd_drift_of : FuncData} (F : GD K "marks_from" "Table.marks_from" s_Table_marks_from f fd) (F_Row_begins_anew : FQ P w K mg base 1 f_Row_begins_anew fd_Row_begins_anew ["self"] (c_Row_begins_anew K)) (F_Yearly_begins_anew : FQ P w K mg base 1 f_Yearly_begins_anew fd_Yearly_begins_anew ["self"] (c_Yearly_begins_anew K)) (F_Row_over : FQ P w K mg base 2 f_Row_over fd_Row_over ["self", "pair", "sort", "days"] (c_Row_over K)) (F_drift_of : FG P w K mg base 1 f_drift_of fd_drift_of ["line", "sort", "days"] (c_drift_of K) "drift_of") (cl_Going : Cls K (He.ga K "Going")) (mm_Going_begins_anew : Meth K (He.ga K "Going") "begins_anew" f_Row_begins_anew) (cl_Yearly : Cls K (He.ga K "Yearly")) (mm_Yearly_begins_anew : Meth K (He.ga K "Yearly") "begins_anew" f_Yearly_begins_anew) (mm_Going_over : Meth K (He.ga K "Going") "over" f_Row_over) (mm_Yearly_over : Meth K (He.ga K "Yearly") "over" f_Row_over) (kr : KRw K) (kt : KTa K) :
    FnOk P w K mg base (L2.CX P w) 3 f fd ["self", "owed"] (spD K (c_Table_marks_from K)) :=
  fn_DD (t := t_Table_marks_from K) F sc_Table_marks_from (by wtm_at "ln") (by decide)
    (fun cdv A outer s H E hr => by exact
      (pss_cons (ps_set (i := 2) sc_Table_marks_from.nd rfl (by wtm_at "oi") (pe_lst pa_nil))
      (pss_cons (ps_set (i := 3) sc_Table_marks_from.nd rfl (by wtm_at "oi") (pe_tup (pa_cons pe_int (pa_cons (pv 1) pa_nil))))
      (pss_cons (ps_set (i := 4) sc_Table_marks_from.nd rfl (by wtm_at "oi") pe_int)
      (pss_cons (ps_for (passes_of rfl) rfl (pi_any (pe_fld (pv 0) rfl)) (pg_name (i := 5) sc_Table_marks_from.nd rfl (by wtm_at "oi")) (pss_cons (ps_if (pt_truth (PE.or (pe_meth0 (pe_fld (pv 0) rfl) cl_Going mm_Going_begins_anew F_Row_begins_anew.F (hr.mono (by decide)) F_Row_begins_anew.B .nil (by wtm_at "pk")) (pe_meth0 (pe_fld (pv 0) rfl) cl_Yearly mm_Yearly_begins_anew F_Yearly_begins_anew.F (hr.mono (by decide)) F_Yearly_begins_anew.B .nil (by wtm_at "pk"))) (by intro _; rfl)) (pss_one (ps_set (i := 3) sc_Table_marks_from.nd rfl (by wtm_at "oi") (pe_tup (pa_cons pe_int (pa_cons pe_int pa_nil))))) pss_nil)
      (pss_cons (ps_set (i := 6) sc_Table_marks_from.nd rfl (by wtm_at "oi") (pe_lst pa_nil))
      (pss_cons (ps_for (passes_of rfl) rfl (pi_any (pv 5)) (pg_tup rfl (pgs_cons (pg_name (i := 7) sc_Table_marks_from.nd rfl (by wtm_at "oi")) (pgs_cons (pg_name (i := 8) sc_Table_marks_from.nd rfl (by wtm_at "oi")) (pgs_cons (pg_name (i := 9) sc_Table_marks_from.nd rfl (by wtm_at "oi")) (pgs_cons (pg_name (i := 10) sc_Table_marks_from.nd rfl (by wtm_at "oi")) pgs_nil))))) (pss_cons (ps_expr (pe_bm PySem.F.plainAttrs_list PySem.F.slot_list_append PySem.F.type_list_append mt_append (pv 6) (pa_cons (pe_tup (pa_cons (pe_ix ix_seq (pv 3) pe_int (fun _ _ => rfl)) (pa_cons (pv 4) (pa_cons (pe_ix ix_seq (pv 3) pe_int (fun _ _ => rfl)) pa_nil)))) pa_nil)))
      (pss_cons (ps_set (i := 3) sc_Table_marks_from.nd rfl (by wtm_at "oi") (PE.or (pe_meth (pe_fld (pv 0) rfl) cl_Going mm_Going_over F_Row_over.F (hr.mono (by decide)) F_Row_over.B .nil (by wtm_at "pk") (pa_cons (pv 3) (pa_cons (pv 9) (pa_cons (pe_op op_sub (pv 8) (pv 7)) pa_nil)))) (pe_meth (pe_fld (pv 0) rfl) cl_Yearly mm_Yearly_over F_Row_over.F (hr.mono (by decide)) F_Row_over.B .nil (by wtm_at "pk") (pa_cons (pv 3) (pa_cons (pv 9) (pa_cons (pe_op op_sub (pv 8) (pv 7)) pa_nil))))))
      (pss_one (ps_aug (i := 4) sc_Table_marks_from.nd rfl (by wtm_at "oi") (pe_call F_drift_of.F (hr.mono (by decide)) (by rfl) F_drift_of.m F_drift_of.k F_drift_of.B .nil (by wtm_at "pk") (pa_cons (pe_fld (pv 0) rfl) (pa_cons (pv 9) (pa_cons (pe_op op_sub (pv 8) (pv 7)) pa_nil)))) ip_add)))))
      (pss_one (ps_expr (pe_bm PySem.F.plainAttrs_list PySem.F.slot_list_append PySem.F.type_list_append mt_append (pv 2) (pa_cons (pv 6) pa_nil))))))))
      (pss_one (ps_ret (pe_tup (pa_cons (pv 2) (pa_cons (pe_tup (pa_cons (pe_ix ix_seq (pv 3) pe_int (fun _ _ => rfl)) (pa_cons (pv 4) (pa_cons (pe_ix ix_seq (pv 3) pe_int (fun _ _ => rfl)) pa_nil)))) pa_nil))))))))))
    (d_Table_marks_from kr kt)
abbrev N_Table_init : List Str := ["self", "calendar", "line", "charts", "early", "last"]
theorem sc_Table_init : FnScope N_Table_init ["self", "calendar", "line", "charts"] (defScope s_Table_init) := by wtm_at "sn"
theorem ok_Table_init {f : Addr} {fd : FuncData} {f_Table_marks_from f_Row_begins_anew f_Yearly_begins_anew : Addr} {fd_Table_marks_from fd_Row_begins_anew fd_Yearly_begins_anew : FuncData} (F : GD K "__init__" "Table.__init__" s_Table_init f fd) (F_Table_marks_from : FQ P w K mg base 3 f_Table_marks_from fd_Table_marks_from ["self", "owed"] (c_Table_marks_from K)) (F_Row_begins_anew : FQ P w K mg base 1 f_Row_begins_anew fd_Row_begins_anew ["self"] (c_Row_begins_anew K)) (F_Yearly_begins_anew : FQ P w K mg base 1 f_Yearly_begins_anew fd_Yearly_begins_anew ["self"] (c_Yearly_begins_anew K)) (cl_Table : Cls K (He.ga K "Table")) (mm_Table_marks_from : Meth K (He.ga K "Table") "marks_from" f_Table_marks_from) (cl_Going : Cls K (He.ga K "Going")) (mm_Going_begins_anew : Meth K (He.ga K "Going") "begins_anew" f_Row_begins_anew) (cl_Yearly : Cls K (He.ga K "Yearly")) (mm_Yearly_begins_anew : Meth K (He.ga K "Yearly") "begins_anew" f_Yearly_begins_anew) (kr : KRw K) (kt : KTa K) :
    FnOk P w K mg base (L2.CX P w) 4 f fd ["self", "calendar", "line", "charts"] (spD K (c_Table_init K)) :=
  fn_DD (t := t_Table_init K) F sc_Table_init (by wtm_at "ln") (by decide)
    (fun cdv A outer s H E hr => by exact
      (pss_cons (ps_fld (pv 0) (pv 1) rfl)
      (pss_cons (ps_fld (pv 0) (pv 2) rfl)
      (pss_cons (ps_fld (pv 0) (pv 3) rfl)
      (pss_cons (ps_asg (pe_meth (pv 0) cl_Table mm_Table_marks_from F_Table_marks_from.F (hr.mono (by decide)) F_Table_marks_from.B .nil (by wtm_at "pk") (pa_cons pe_int pa_nil)) (pg_tup rfl (pgs_cons (pg_name (i := 4) sc_Table_init.nd rfl (by wtm_at "oi")) (pgs_cons (pg_name (i := 5) sc_Table_init.nd rfl (by wtm_at "oi")) pgs_nil))))
      (pss_cons (ps_fld (pv 0) (pv 4) rfl)
      (pss_cons (ps_fld (pv 0) (pe_ix ix_seq (pe_meth (pv 0) cl_Table mm_Table_marks_from F_Table_marks_from.F (hr.mono (by decide)) F_Table_marks_from.B .nil (by wtm_at "pk") (pa_cons (pe_ix ix_seq (pv 5) pe_int (fun _ _ => rfl)) pa_nil)) pe_int (fun _ _ => rfl)) rfl)
      (pss_cons (ps_fld (pv 0) (pe_ifExp (pt_truth (PE.or (pe_meth0 (pv 2) cl_Going mm_Going_begins_anew F_Row_begins_anew.F (hr.mono (by decide)) F_Row_begins_anew.B .nil (by wtm_at "pk")) (pe_meth0 (pv 2) cl_Yearly mm_Yearly_begins_anew F_Yearly_begins_anew.F (hr.mono (by decide)) F_Yearly_begins_anew.B .nil (by wtm_at "pk"))) (by intro _; rfl)) pe_int (pe_ix ix_seq (pv 5) pe_int (fun _ _ => rfl))) rfl)
      (pss_one (ps_fld (pv 0) (pe_ix ix_seq (pv 5) pe_int (fun _ _ => rfl)) rfl))))))))))
    (d_Table_init kr kt)
abbrev N_House_row : List Str := ["self", "name", "line"]
theorem sc_House_row : FnScope N_House_row ["self", "name"] (defScope s_House_row) := by wtm_at "sn"
theorem ok_House_row {f : Addr} {fd : FuncData} (F : GD K "row" "House.row" s_House_row f fd) (x_NoRow : ExC K mg "NoRow") (kr : KRw K) (kh : KHo K) :
    FnOk P w K mg base (L2.CX P w) 1 f fd ["self", "name"] (spD K (c_House_row K)) :=
  fn_DD (t := t_House_row K) F sc_House_row (by wtm_at "ln") (by decide)
    (fun cdv A outer s H E hr => by exact
      (pss_cons (ps_for (passes_of rfl) rfl (pi_any (pe_fld (pv 0) rfl)) (pg_name (i := 2) sc_House_row.nd rfl (by wtm_at "oi")) (pss_one (ps_if (pt_cmpR (op_eqD hr.units) (pe_fld (pv 2) rfl) (pv 1) (nomark _)) (pss_one (ps_ret (pv 2))) pss_nil)))
      (pss_one (ps_raise rfl (takes_of rfl rfl rfl rfl) (pmk_own PySem.F.excBase_ValueError x_NoRow.xc x_NoRow.gc x_NoRow.kc (raises_own x_NoRow.bc x_NoRow.tc) (by rfl))))))
    (d_House_row kr kh)
abbrev N_House_sums : List Str := ["self", "name", "due", "free", "chart", "start", "end", "sort", "feast"]
theorem sc_House_sums : FnScope N_House_sums ["self", "name"] (defScope s_House_sums) := by wtm_at "sn"
theorem ok_House_sums {f : Addr} {fd : FuncData} {f_House_row : Addr} {fd_House_row : FuncData} (F : GD K "sums" "House.sums" s_House_sums f fd) (F_House_row : FQ P w K mg base 1 f_House_row fd_House_row ["self", "name"] (c_House_row K)) (n_sum : mg "sum" = none) (cl_House : Cls K (He.ga K "House")) (mm_House_row : Meth K (He.ga K "House") "row" f_House_row) (kr : KRw K) (kh : KHo K) :
    FnOk P w K mg base (L2.CX P w) 2 f fd ["self", "name"] (spD K (c_House_sums K)) :=
  fn_DD (t := t_House_sums K) F sc_House_sums (by wtm_at "ln") (by decide)
    (fun cdv A outer s H E hr => by exact
      (pss_cons (ps_set (i := 2) sc_House_sums.nd rfl (by wtm_at "oi") pe_int)
      (pss_cons (ps_set (i := 3) sc_House_sums.nd rfl (by wtm_at "oi") pe_int)
      (pss_cons (ps_for (passes_of rfl) rfl (pi_any (pe_dget (hu_of hr) (pe_fld (pv 0) rfl) (pv 1) (fun _ _ => rfl))) (pg_name (i := 4) sc_House_sums.nd rfl (by wtm_at "oi")) (pss_cons (ps_set (i := 2) sc_House_sums.nd rfl (by wtm_at "oi") (pe_op op_addA (pv 2) (pe_callB (cr_sum rfl) (by rfl) n_sum (by decide +kernel) (pa_cons (pe_lc (own := [("start", 5), ("end", 6), ("sort", 7), ("feast", 8)]) (g := (gTup K 4 (gCons (gName 5) (gCons (gName 6) (gCons (gName 7) (gCons (gName 8) gNil)))))) (tt := (tTest (tOp (rNeD K) (tVar 7) (tC (.str "rest"))))) (te := (tOp (rI0 fun i j => .int (i - j)) (tVar 6) (tVar 5))) (by rfl) sc_House_sums.nd (pi_any (pv 4)) (blkOk_by (own := [("start", 5), ("end", 6), ("sort", 7), ("feast", 8)]) (N := N_House_sums) (sc := defScope s_House_sums) (by decide +kernel)) (fun _ _ _ _ _ => by exact (pg_tup rfl (pgs_cons (pg_name (i := 5) sc_House_sums.nd rfl (by wtm_at "oi")) (pgs_cons (pg_name (i := 6) sc_House_sums.nd rfl (by wtm_at "oi")) (pgs_cons (pg_name (i := 7) sc_House_sums.nd rfl (by wtm_at "oi")) (pgs_cons (pg_name (i := 8) sc_House_sums.nd rfl (by wtm_at "oi")) pgs_nil)))))) (fun _ _ _ _ _ => by exact (pts_one (pt_cmpR (op_neD hr.units) (pv 7) pe_str (nomark _)))) (fun _ _ _ _ _ => by exact (pe_op op_sub (pv 6) (pv 5)))) pa_nil))))
      (pss_one (ps_set (i := 3) sc_House_sums.nd rfl (by wtm_at "oi") (pe_op op_addA (pv 3) (pe_callB (cr_sum rfl) (by rfl) n_sum (by decide +kernel) (pa_cons (pe_lc (own := [("start", 5), ("end", 6), ("sort", 7), ("feast", 8)]) (g := (gTup K 4 (gCons (gName 5) (gCons (gName 6) (gCons (gName 7) (gCons (gName 8) gNil)))))) (tt := (tTest (tOp (rEqD K) (tVar 7) (tC (.str "free"))))) (te := (tOp (rI0 fun i j => .int (i - j)) (tVar 6) (tVar 5))) (by rfl) sc_House_sums.nd (pi_any (pv 4)) (blkOk_by (own := [("start", 5), ("end", 6), ("sort", 7), ("feast", 8)]) (N := N_House_sums) (sc := defScope s_House_sums) (by decide +kernel)) (fun _ _ _ _ _ => by exact (pg_tup rfl (pgs_cons (pg_name (i := 5) sc_House_sums.nd rfl (by wtm_at "oi")) (pgs_cons (pg_name (i := 6) sc_House_sums.nd rfl (by wtm_at "oi")) (pgs_cons (pg_name (i := 7) sc_House_sums.nd rfl (by wtm_at "oi")) (pgs_cons (pg_name (i := 8) sc_House_sums.nd rfl (by wtm_at "oi")) pgs_nil)))))) (fun _ _ _ _ _ => by exact (pts_one (pt_cmpR (op_eqD hr.units) (pv 7) pe_str (nomark _)))) (fun _ _ _ _ _ => by exact (pe_op op_sub (pv 6) (pv 5)))) pa_nil)))))))
      (pss_one (ps_ret (pe_tup (pa_cons (pv 2) (pa_cons (pe_op op_mulA (pv 3) (pe_fld (pe_meth (pv 0) cl_House mm_House_row F_House_row.F (hr.mono (by decide)) F_House_row.B .nil (by wtm_at "pk") (pa_cons (pv 1) pa_nil)) rfl)) pa_nil)))))))))
    (d_House_sums kr kh)
abbrev N_NeverDone_init : List Str := ["self", "name", "due", "room"]
theorem sc_NeverDone_init : FnScope N_NeverDone_init ["self", "name", "due", "room"] (defScope s_NeverDone_init) := by wtm_at "sn"
theorem ok_NeverDone_init {f : Addr} {fd : FuncData} (F : GD K "__init__" "NeverDone.__init__" s_NeverDone_init f fd) (g_ReadError : mg "ReadError" = some (.ref (He.ga K "ReadError"))) (re_ReadError : ReI K (He.ga K "ReadError")) (kx_NeverDone : KXf K "NeverDone" ["name", "due", "room"]) :
    FnOk P w K mg base (L2.CX P w) 1 f fd ["self", "name", "due", "room"] (spX (He.ga K "NeverDone") ["name", "due", "room"]) :=
  fn_X3 F sc_NeverDone_init kx_NeverDone.ox (kx_NeverDone.no "name" (by simp)) (kx_NeverDone.no "due" (by simp)) (kx_NeverDone.no "room" (by simp)) (fun cdv A outer s H E hr => by exact
      (pss_cons (ps_expr (pe_reinit (pe_glob (v := .ref (He.ga K "ReadError")) (by rfl) g_ReadError rfl) re_ReadError (pa_cons (pv 0) (pa_cons pe_str pa_nil))))
      (pss_cons (ps_ost (pv 0) (pv 1))
      (pss_cons (ps_ost (pv 0) (pv 2))
      (pss_one (ps_ost (pv 0) (pv 3)))))))
abbrev N_House_init : List Str := ["self", "calendar", "feasts", "rows", "many", "line", "name", "year", "due", "room"]
theorem sc_House_init : FnScope N_House_init ["self", "calendar", "feasts", "rows"] (defScope s_House_init) := by wtm_at "sn"
theorem ok_House_init {f : Addr} {fd : FuncData} {f_is_house f_Calendar_years f_year_chart f_Table_init f_House_sums f_Row_begins_anew f_Yearly_begins_anew f_NeverDone_init : Addr} {fd_is_house fd_Calendar_years fd_year_chart fd_Table_init fd_House_sums fd_Row_begins_anew fd_Yearly_begins_anew fd_NeverDone_init : FuncData} (F : GD K "__init__" "House.__init__" s_House_init f fd) (F_is_house : FG P w K mg base 2 f_is_house fd_is_house ["calendar", "feasts", "rows"] (c_is_house K) "is_house") (F_Calendar_years : FQ P w K mg base 1 f_Calendar_years fd_Calendar_years ["self"] (c_Calendar_years K)) (F_year_chart : FG P w K mg base 4 f_year_chart fd_year_chart ["calendar", "feasts", "name", "year"] (c_year_chart K) "year_chart") (F_Table_init : FQ P w K mg base 4 f_Table_init fd_Table_init ["self", "calendar", "line", "charts"] (c_Table_init K)) (M_Table : Mk K (He.ga K "Table") f_Table_init) (F_House_sums : FQ P w K mg base 2 f_House_sums fd_House_sums ["self", "name"] (c_House_sums K)) (F_Row_begins_anew : FQ P w K mg base 1 f_Row_begins_anew fd_Row_begins_anew ["self"] (c_Row_begins_anew K)) (F_Yearly_begins_anew : FQ P w K mg base 1 f_Yearly_begins_anew fd_Yearly_begins_anew ["self"] (c_Yearly_begins_anew K)) (F_NeverDone_init : FnOk P w K mg base (L2.CX P w) 1 f_NeverDone_init fd_NeverDone_init ["self", "name", "due", "room"] (spX (He.ga K "NeverDone") ["name", "due", "room"])) (B_NeverDone_init : Binds K fd_NeverDone_init ["self", "name", "due", "room"] []) (x_BadHouse : ExC K mg "BadHouse") (n_list : mg "list" = none) (cl_Calendar : Cls K (He.ga K "Calendar")) (mm_Calendar_years : Meth K (He.ga K "Calendar") "years" f_Calendar_years) (n_len : mg "len" = none) (n_range : mg "range" = none) (g_Table : mg "Table" = some (.ref (He.ga K "Table"))) (cl_House : Cls K (He.ga K "House")) (mm_House_sums : Meth K (He.ga K "House") "sums" f_House_sums) (cl_Going : Cls K (He.ga K "Going")) (mm_Going_begins_anew : Meth K (He.ga K "Going") "begins_anew" f_Row_begins_anew) (cl_Yearly : Cls K (He.ga K "Yearly")) (mm_Yearly_begins_anew : Meth K (He.ga K "Yearly") "begins_anew" f_Yearly_begins_anew) (g_NeverDone : mg "NeverDone" = some (.ref (He.ga K "NeverDone"))) (kx_NeverDone : KXf K "NeverDone" ["name", "due", "room"]) (mm_NeverDone_init : Meth K (He.ga K "NeverDone") "__init__" f_NeverDone_init) (kr : KRw K) (kh : KHo K) :
    FnOk P w K mg base (L2.CX P w) 6 f fd ["self", "calendar", "feasts", "rows"] (spD K (c_House_init K)) :=
  fn_DD (t := t_House_init K) F sc_House_init (by wtm_at "ln") (by decide)
    (fun cdv A outer s H E hr => by exact
      (pss_cons (ps_if (pt_not (pt_truth (pe_call F_is_house.F (hr.mono (by decide)) (by rfl) F_is_house.m F_is_house.k F_is_house.B .nil (by wtm_at "pk") (pa_cons (pv 1) (pa_cons (pv 2) (pa_cons (pv 3) pa_nil)))) (by intro _; rfl))) (pss_one (ps_raise rfl (takes_of rfl rfl rfl rfl) (pmk_own PySem.F.excBase_ValueError x_BadHouse.xc x_BadHouse.gc x_BadHouse.kc (raises_own x_BadHouse.bc x_BadHouse.tc) (by rfl)))) pss_nil)
      (pss_cons (ps_fld (pv 0) (pv 1) rfl)
      (pss_cons (ps_fld (pv 0) (pe_callTy call_list_of (by rfl) n_list (by decide +kernel) (pa_cons (pv 2) pa_nil)) rfl)
      (pss_cons (ps_fld (pv 0) (pe_callTy call_list_of (by rfl) n_list (by decide +kernel) (pa_cons (pv 3) pa_nil)) rfl)
      (pss_cons (ps_fld (pv 0) pe_dnewK rfl)
      (pss_cons (ps_fld (pv 0) pe_dnewK rfl)
      (pss_cons (ps_set (i := 4) sc_House_init.nd rfl (by wtm_at "oi") (pe_callB call_len (by rfl) n_len (by decide +kernel) (pa_cons (pe_meth0 (pv 1) cl_Calendar mm_Calendar_years F_Calendar_years.F (hr.mono (by decide)) F_Calendar_years.B .nil (by wtm_at "pk")) pa_nil)))
      (pss_cons (ps_for (passes_of rfl) rfl (pi_any (pe_fld (pv 0) rfl)) (pg_name (i := 5) sc_House_init.nd rfl (by wtm_at "oi")) (pss_cons (ps_set (i := 6) sc_House_init.nd rfl (by wtm_at "oi") (pe_fld (pv 5) rfl))
      (pss_cons (ps_dput (hu_of hr) (pe_fld (pv 0) rfl) (pv 6) (pe_lc (own := [("year", 7)]) (g := (gName 7)) (tt := tYes) (te := (tCall (spD K (c_year_chart K)) [] E0 (tCons (tVar 1) (tCons (tFld K (tVar 0) "kept") (tCons (tVar 6) (tCons (tVar 7) tNil)))))) (by rfl) sc_House_init.nd (pi_range1 (by rfl) n_range (pa_cons (pv 4) pa_nil)) (blkOk_by (own := [("year", 7)]) (N := N_House_init) (sc := defScope s_House_init) (by decide +kernel)) (fun _ _ _ _ _ => by exact (pg_name (i := 7) sc_House_init.nd rfl (by wtm_at "oi"))) (fun _ _ _ _ _ => by exact pts_nil) (fun _ _ _ _ _ => by exact (pe_call F_year_chart.F (hr.mono (by decide)) (by rfl) F_year_chart.m F_year_chart.k F_year_chart.B .nil passL (pa_cons (pv 1) (pa_cons (pe_fld (pv 0) rfl) (pa_cons (pv 6) (pa_cons (pv 7) pa_nil))))))) rfl)
      (pss_one (ps_dput (hu_of hr) (pe_fld (pv 0) rfl) (pv 6) (pe_make M_Table F_Table_init.F (hr.mono (by decide)) (by rfl) g_Table F_Table_init.B .nil (by wtm_at "pk") (pa_cons (pv 1) (pa_cons (pv 5) (pa_cons (pe_dget (hu_of hr) (pe_fld (pv 0) rfl) (pv 6) (fun _ _ => rfl)) pa_nil)))) rfl)))))
      (pss_one (ps_for (passes_of rfl) rfl (pi_any (pe_fld (pv 0) rfl)) (pg_name (i := 5) sc_House_init.nd rfl (by wtm_at "oi")) (pss_cons (ps_asg (pe_meth (pv 0) cl_House mm_House_sums F_House_sums.F (hr.mono (by decide)) F_House_sums.B .nil (by wtm_at "pk") (pa_cons (pe_fld (pv 5) rfl) pa_nil)) (pg_tup rfl (pgs_cons (pg_name (i := 8) sc_House_init.nd rfl (by wtm_at "oi")) (pgs_cons (pg_name (i := 9) sc_House_init.nd rfl (by wtm_at "oi")) pgs_nil))))
      (pss_one (ps_if (PW.pt (pw_and (pt_not (pt_truth (PE.or (pe_meth0 (pv 5) cl_Going mm_Going_begins_anew F_Row_begins_anew.F (hr.mono (by decide)) F_Row_begins_anew.B .nil (by wtm_at "pk")) (pe_meth0 (pv 5) cl_Yearly mm_Yearly_begins_anew F_Yearly_begins_anew.F (hr.mono (by decide)) F_Yearly_begins_anew.B .nil (by wtm_at "pk"))) (by intro _; rfl))) (pw_and1 (pt_cmpR op_gt (pv 8) (pv 9) (nomark _))))) (pss_one (ps_raise rfl (takes_of rfl rfl rfl rfl) (pmk_oex kx_NeverDone.ox mm_NeverDone_init.at_ (fn_tyA mm_NeverDone_init.fn) F_NeverDone_init (hr.mono (by decide)) B_NeverDone_init .nil (passes_call (takes_of rfl rfl rfl rfl) (fun _ _ _ _ h => h.elim)) (by rfl) g_NeverDone (pa_cons (pe_fld (pv 5) rfl) (pa_cons (pv 8) (pa_cons (pv 9) pa_nil)))))) pss_nil))))))))))))))
    (d_House_init kr kh)
abbrev N_Calendar_init : List Str := ["self", "years", "days"]
theorem sc_Calendar_init : FnScope N_Calendar_init ["self", "years"] (defScope s_Calendar_init) := by wtm_at "sn"
theorem ok_Calendar_init {f : Addr} {fd : FuncData} {f_are_numbers : Addr} {fd_are_numbers : FuncData} (F : GD K "__init__" "Calendar.__init__" s_Calendar_init f fd) (F_are_numbers : FG P w K mg base 2 f_are_numbers fd_are_numbers ["thing", "long", "least", "most"] (c_are_numbers K) "are_numbers") (x_BadCalendar : ExC K mg "BadCalendar") (n_list : mg "list" = none) (kc : KCal K) :
    FnOk P w K mg base (L2.CX P w) 3 f fd ["self", "years"] (spD K (c_Calendar_init K)) :=
  fn_DD (t := t_Calendar_init K) F sc_Calendar_init (by wtm_at "ln") (by decide)
    (fun cdv A outer s H E hr => by exact
      (pss_cons (ps_if (pt_not (pt_truth (pe_call F_are_numbers.F (hr.mono (by decide)) (by rfl) F_are_numbers.m F_are_numbers.k F_are_numbers.B .nil (by wtm_at "pk") (pa_cons (pv 1) (pa_cons pe_int (pa_cons pe_int (pa_cons pe_int pa_nil))))) (by intro _; rfl))) (pss_one (ps_raise rfl (takes_of rfl rfl rfl rfl) (pmk_own PySem.F.excBase_ValueError x_BadCalendar.xc x_BadCalendar.gc x_BadCalendar.kc (raises_own x_BadCalendar.bc x_BadCalendar.tc) (by rfl)))) pss_nil)
      (pss_cons (ps_fld (pv 0) (pe_callTy call_list_of (by rfl) n_list (by decide +kernel) (pa_cons (pv 1) pa_nil)) rfl)
      (pss_cons (ps_fld (pv 0) (pe_lst pa_nil) rfl)
      (pss_cons (ps_fld (pv 0) pe_int rfl)
      (pss_one (ps_for (passes_of rfl) rfl (pi_any (pe_fld (pv 0) rfl)) (pg_name (i := 2) sc_Calendar_init.nd rfl (by wtm_at "oi")) (pss_cons (ps_expr (pe_bm PySem.F.plainAttrs_list PySem.F.slot_list_append PySem.F.type_list_append mt_append (pe_fld (pv 0) rfl) (pa_cons (pe_fld (pv 0) rfl) pa_nil)))
      (pss_one (ps_fldaug (pv 0) (pv 2) in_add))))))))))
    (d_Calendar_init kc)
abbrev N_House_calendar : List Str := ["self"]
theorem sc_House_calendar : FnScope N_House_calendar ["self"] (defScope s_House_calendar) := by wtm_at "sn"
theorem ok_House_calendar {f : Addr} {fd : FuncData} (F : GD K "calendar" "House.calendar" s_House_calendar f fd) (kh : KHo K) :
    FnOk P w K mg base (L2.CX P w) 1 f fd ["self"] (spD K (c_House_calendar K)) :=
  fn_DD (t := t_House_calendar K) F sc_House_calendar (by wtm_at "ln") (by decide)
    (fun cdv A outer s H E hr => by exact
      (pss_one (ps_ret (pe_fld (pv 0) rfl))))
    (d_House_calendar kh)
abbrev N_House_feasts : List Str := ["self"]
theorem sc_House_feasts : FnScope N_House_feasts ["self"] (defScope s_House_feasts) := by wtm_at "sn"
theorem ok_House_feasts {f : Addr} {fd : FuncData} (F : GD K "feasts" "House.feasts" s_House_feasts f fd) (n_list : mg "list" = none) (kh : KHo K) :
    FnOk P w K mg base (L2.CX P w) 1 f fd ["self"] (spD K (c_House_feasts K)) :=
  fn_DD (t := t_House_feasts K) F sc_House_feasts (by wtm_at "ln") (by decide)
    (fun cdv A outer s H E hr => by exact
      (pss_one (ps_ret (pe_callTy call_list_of (by rfl) n_list (by decide +kernel) (pa_cons (pe_fld (pv 0) rfl) pa_nil)))))
    (d_House_feasts kh)
abbrev N_feast_text : List Str := ["feast", "name", "place", "days", "years", "puts", "kept", "year", "words", "word", "sort"]
theorem sc_feast_text : FnScope N_feast_text ["feast"] (defScope s_feast_text) := by wtm_at "sn"
theorem ok_feast_text {f : Addr} {fd : FuncData} {f_Feast_told : Addr} {fd_Feast_told : FuncData} (F : GD K "feast_text" "feast_text" s_feast_text f fd) (F_Feast_told : FQ P w K mg base 1 f_Feast_told fd_Feast_told ["self"] (c_Feast_told K)) (cl_Feast : Cls K (He.ga K "Feast")) (mm_Feast_told : Meth K (He.ga K "Feast") "told" f_Feast_told) (n_str : mg "str" = none) (kf : KFe K) :
    FnOk P w K mg base (L2.CX P w) 2 f fd ["feast"] (spD K (c_feast_text K)) :=
  fn_DD (t := t_feast_text K) F sc_feast_text (by wtm_at "ln") (by decide)
    (fun cdv A outer s H E hr => by exact
      (pss_cons (ps_asg (pe_meth0 (pv 0) cl_Feast mm_Feast_told F_Feast_told.F (hr.mono (by decide)) F_Feast_told.B .nil (by wtm_at "pk")) (pg_tup rfl (pgs_cons (pg_name (i := 1) sc_feast_text.nd rfl (by wtm_at "oi")) (pgs_cons (pg_name (i := 2) sc_feast_text.nd rfl (by wtm_at "oi")) (pgs_cons (pg_name (i := 3) sc_feast_text.nd rfl (by wtm_at "oi")) (pgs_cons (pg_name (i := 4) sc_feast_text.nd rfl (by wtm_at "oi")) (pgs_cons (pg_name (i := 5) sc_feast_text.nd rfl (by wtm_at "oi")) pgs_nil)))))))
      (pss_cons (ps_set (i := 6) sc_feast_text.nd rfl (by wtm_at "oi") (pe_ifExp (pt_cmp (pc_isN (pv 4)) rfl) pe_str (pe_bm PySem.F.plainAttrs_str PySem.F.slot_str_join PySem.F.type_str_join mt_join pe_str (pa_cons (pe_lc (own := [("year", 7)]) (g := (gName 7)) (tt := tYes) (te := (tCB rStrI (tCons (tVar 7) tNil))) (by rfl) sc_feast_text.nd (pi_any (pv 4)) (blkOk_by (own := [("year", 7)]) (N := N_feast_text) (sc := defScope s_feast_text) (by decide +kernel)) (fun _ _ _ _ _ => by exact (pg_name (i := 7) sc_feast_text.nd rfl (by wtm_at "oi"))) (fun _ _ _ _ _ => by exact pts_nil) (fun _ _ _ _ _ => by exact (pe_callTy call_str_int (by rfl) n_str (by decide +kernel) (pa_cons (pv 7) pa_nil)))) pa_nil))))
      (pss_cons (ps_set (i := 8) sc_feast_text.nd rfl (by wtm_at "oi") (pe_lst (pa_cons pe_str (pa_cons (pv 1) (pa_cons (pe_callTy call_str_int (by rfl) n_str (by decide +kernel) (pa_cons (pv 2) pa_nil)) (pa_cons (pe_callTy call_str_int (by rfl) n_str (by decide +kernel) (pa_cons (pv 3) pa_nil)) (pa_cons (pv 6) pa_nil)))))))
      (pss_cons (ps_for (passes_of rfl) rfl (pi_any (pv 5)) (pg_tup rfl (pgs_cons (pg_name (i := 9) sc_feast_text.nd rfl (by wtm_at "oi")) (pgs_cons (pg_name (i := 10) sc_feast_text.nd rfl (by wtm_at "oi")) pgs_nil))) (pss_one (ps_set (i := 8) sc_feast_text.nd rfl (by wtm_at "oi") (pe_op op_addA (pv 8) (pe_lst (pa_cons (pv 10) (pa_cons (pv 9) pa_nil)))))))
      (pss_one (ps_ret (pe_bm PySem.F.plainAttrs_str PySem.F.slot_str_join PySem.F.type_str_join mt_join pe_str (pa_cons (pv 8) pa_nil)))))))))
    (d_feast_text kf)
abbrev N_House_rows : List Str := ["self"]
theorem sc_House_rows : FnScope N_House_rows ["self"] (defScope s_House_rows) := by wtm_at "sn"
theorem ok_House_rows {f : Addr} {fd : FuncData} (F : GD K "rows" "House.rows" s_House_rows f fd) (n_list : mg "list" = none) (kh : KHo K) :
    FnOk P w K mg base (L2.CX P w) 1 f fd ["self"] (spD K (c_House_rows K)) :=
  fn_DD (t := t_House_rows K) F sc_House_rows (by wtm_at "ln") (by decide)
    (fun cdv A outer s H E hr => by exact
      (pss_one (ps_ret (pe_callTy call_list_of (by rfl) n_list (by decide +kernel) (pa_cons (pe_fld (pv 0) rfl) pa_nil)))))
    (d_House_rows kh)
abbrev N_Going_told : List Str := ["self"]
theorem sc_Going_told : FnScope N_Going_told ["self"] (defScope s_Going_told) := by wtm_at "sn"
theorem ok_Going_told {f : Addr} {fd : FuncData} (F : GD K "told" "Going.told" s_Going_told f fd) (kr : KRw K) :
    FnOk P w K mg base (L2.CX P w) 1 f fd ["self"] (spD K (c_Going_told K)) :=
  fn_DD (t := t_Going_told K) F sc_Going_told (by wtm_at "ln") (by decide)
    (fun cdv A outer s H E hr => by exact
      (pss_one (ps_ret (pe_tup (pa_cons pe_str (pa_cons (pe_fld (pv 0) rfl) (pa_cons (pe_fld (pv 0) rfl) (pa_cons (pe_fld (pv 0) rfl) (pa_cons (pe_fld (pv 0) rfl) pa_nil)))))))))
    (d_Going_told kr)
abbrev N_Yearly_told : List Str := ["self"]
theorem sc_Yearly_told : FnScope N_Yearly_told ["self"] (defScope s_Yearly_told) := by wtm_at "sn"
theorem ok_Yearly_told {f : Addr} {fd : FuncData} (F : GD K "told" "Yearly.told" s_Yearly_told f fd) (kr : KRw K) :
    FnOk P w K mg base (L2.CX P w) 1 f fd ["self"] (spD K (c_Yearly_told K)) :=
  fn_DD (t := t_Yearly_told K) F sc_Yearly_told (by wtm_at "ln") (by decide)
    (fun cdv A outer s H E hr => by exact
      (pss_one (ps_ret (pe_tup (pa_cons pe_str (pa_cons (pe_fld (pv 0) rfl) (pa_cons (pe_fld (pv 0) rfl) (pa_cons (pe_fld (pv 0) rfl) pa_nil))))))))
    (d_Yearly_told kr)
abbrev N_house_text : List Str := ["house", "calendar", "days", "feasts", "feast", "part", "row"]
theorem sc_house_text : FnScope N_house_text ["house"] (defScope s_house_text) := by wtm_at "sn"
theorem ok_house_text {f : Addr} {fd : FuncData} {f_House_calendar f_Calendar_years f_House_feasts f_feast_text f_House_rows f_Going_told f_Yearly_told : Addr} {fd_House_calendar fd_Calendar_years fd_House_feasts fd_feast_text fd_House_rows fd_Going_told fd_Yearly_told : FuncData} (F : GD K "house_text" "house_text" s_house_text f fd) (F_House_calendar : FQ P w K mg base 1 f_House_calendar fd_House_calendar ["self"] (c_House_calendar K)) (F_Calendar_years : FQ P w K mg base 1 f_Calendar_years fd_Calendar_years ["self"] (c_Calendar_years K)) (F_House_feasts : FQ P w K mg base 1 f_House_feasts fd_House_feasts ["self"] (c_House_feasts K)) (F_feast_text : FG P w K mg base 2 f_feast_text fd_feast_text ["feast"] (c_feast_text K) "feast_text") (F_House_rows : FQ P w K mg base 1 f_House_rows fd_House_rows ["self"] (c_House_rows K)) (F_Going_told : FQ P w K mg base 1 f_Going_told fd_Going_told ["self"] (c_Going_told K)) (F_Yearly_told : FQ P w K mg base 1 f_Yearly_told fd_Yearly_told ["self"] (c_Yearly_told K)) (cl_House : Cls K (He.ga K "House")) (mm_House_calendar : Meth K (He.ga K "House") "calendar" f_House_calendar) (cl_Calendar : Cls K (He.ga K "Calendar")) (mm_Calendar_years : Meth K (He.ga K "Calendar") "years" f_Calendar_years) (n_str : mg "str" = none) (mm_House_feasts : Meth K (He.ga K "House") "feasts" f_House_feasts) (mm_House_rows : Meth K (He.ga K "House") "rows" f_House_rows) (cl_Going : Cls K (He.ga K "Going")) (mm_Going_told : Meth K (He.ga K "Going") "told" f_Going_told) (cl_Yearly : Cls K (He.ga K "Yearly")) (mm_Yearly_told : Meth K (He.ga K "Yearly") "told" f_Yearly_told) (kh : KHo K) :
    FnOk P w K mg base (L2.CX P w) 3 f fd ["house"] (spD K (c_house_text K)) :=
  fn_DD (t := t_house_text K) F sc_house_text (by wtm_at "ln") (by decide)
    (fun cdv A outer s H E hr => by exact
      (pss_cons (ps_set (i := 1) sc_house_text.nd rfl (by wtm_at "oi") (pe_bm PySem.F.plainAttrs_str PySem.F.slot_str_join PySem.F.type_str_join mt_join pe_str (pa_cons (pe_op op_addA (pe_lst (pa_cons pe_str pa_nil)) (pe_lc (own := [("days", 2)]) (g := (gName 2)) (tt := tYes) (te := (tCB rStrI (tCons (tVar 2) tNil))) (by rfl) sc_house_text.nd (pi_any (pe_meth0 (pe_meth0 (pv 0) cl_House mm_House_calendar F_House_calendar.F (hr.mono (by decide)) F_House_calendar.B .nil (by wtm_at "pk")) cl_Calendar mm_Calendar_years F_Calendar_years.F (hr.mono (by decide)) F_Calendar_years.B .nil (by wtm_at "pk"))) (blkOk_by (own := [("days", 2)]) (N := N_house_text) (sc := defScope s_house_text) (by decide +kernel)) (fun _ _ _ _ _ => by exact (pg_name (i := 2) sc_house_text.nd rfl (by wtm_at "oi"))) (fun _ _ _ _ _ => by exact pts_nil) (fun _ _ _ _ _ => by exact (pe_callTy call_str_int (by rfl) n_str (by decide +kernel) (pa_cons (pv 2) pa_nil))))) pa_nil)))
      (pss_cons (by first | exact ps_setLc (i := 3) (own := [("feast", 4)]) (g := (gName 4)) (tt := tYes) (te := (tCall (spD K (c_feast_text K)) [] E0 (tCons (tVar 4) tNil))) (by rfl) sc_house_text.nd rfl rfl (sw_true rfl rfl rfl (by decide +kernel)) (pi_any (pe_meth0 (pv 0) cl_House mm_House_feasts F_House_feasts.F (hr.mono (by decide)) F_House_feasts.B .nil (by wtm_at "pk"))) (blkOk_by (own := [("feast", 4)]) (N := N_house_text) (sc := defScope s_house_text) (by decide +kernel)) (fun _ _ _ _ _ => by exact (pg_name (i := 4) sc_house_text.nd rfl (by wtm_at "oi"))) (fun _ _ _ _ _ => by exact pts_nil) (fun _ _ _ _ _ => by exact (pe_call F_feast_text.F (hr.mono (by decide)) (by rfl) F_feast_text.m F_feast_text.k F_feast_text.B .nil passL (pa_cons (pv 4) pa_nil))) | exact ps_set (i := 3) sc_house_text.nd rfl (by wtm_at "oi") (pe_lc (own := [("feast", 4)]) (g := (gName 4)) (tt := tYes) (te := (tCall (spD K (c_feast_text K)) [] E0 (tCons (tVar 4) tNil))) (by rfl) sc_house_text.nd (pi_any (pe_meth0 (pv 0) cl_House mm_House_feasts F_House_feasts.F (hr.mono (by decide)) F_House_feasts.B .nil (by wtm_at "pk"))) (blkOk_by (own := [("feast", 4)]) (N := N_house_text) (sc := defScope s_house_text) (by decide +kernel)) (fun _ _ _ _ _ => by exact (pg_name (i := 4) sc_house_text.nd rfl (by wtm_at "oi"))) (fun _ _ _ _ _ => by exact pts_nil) (fun _ _ _ _ _ => by exact (pe_call F_feast_text.F (hr.mono (by decide)) (by rfl) F_feast_text.m F_feast_text.k F_feast_text.B .nil passL (pa_cons (pv 4) pa_nil)))))
      (pss_one (ps_ret (pe_op op_addA (pe_op op_addA (pe_lst (pa_cons (pv 1) pa_nil)) (pv 3)) (pe_lc (own := [("row", 6)]) (g := (gName 6)) (tt := tYes) (te := (tBM K "str" (rJoin K) (tC (.str " ")) (tCons (tLc (iAny K (tOrE (tMeth (He.ga K "Going") "told" (spD K (c_Going_told K)) [] E0 (tVar 6) tNil) (tMeth (He.ga K "Yearly") "told" (spD K (c_Yearly_told K)) [] E0 (tVar 6) tNil))) (gName 5) tYes (tCB rStrA (tCons (tVar 5) tNil)) [5]) tNil))) (by rfl) sc_house_text.nd (pi_any (pe_meth0 (pv 0) cl_House mm_House_rows F_House_rows.F (hr.mono (by decide)) F_House_rows.B .nil (by wtm_at "pk"))) (blkOk_by (own := [("row", 6)]) (N := N_house_text) (sc := defScope s_house_text) (by decide +kernel)) (fun _ _ _ _ _ => by exact (pg_name (i := 6) sc_house_text.nd rfl (by wtm_at "oi"))) (fun _ _ _ _ _ => by exact pts_nil) (fun _ _ _ _ _ => by exact (pe_bm PySem.F.plainAttrs_str PySem.F.slot_str_join PySem.F.type_str_join mt_join pe_str (pa_cons (pe_lc (own := [("part", 5)]) (g := (gName 5)) (tt := tYes) (te := (tCB rStrA (tCons (tVar 5) tNil))) (by rfl) sc_house_text.nd (pi_any (PE.or (pe_meth0 (pv 6) cl_Going mm_Going_told F_Going_told.F (hr.mono (by decide)) F_Going_told.B .nil passL) (pe_meth0 (pv 6) cl_Yearly mm_Yearly_told F_Yearly_told.F (hr.mono (by decide)) F_Yearly_told.B .nil passL))) (by exact blkOk_rl (own := [("part", 5)]) (N := N_house_text) (sc0 := defScope s_house_text) rfl (by decide +kernel)) (fun _ _ _ _ _ => by exact (pg_name (i := 5) sc_house_text.nd rfl (by wtm_at "oi"))) (fun _ _ _ _ _ => by exact pts_nil) (fun _ _ _ _ _ => by exact (pe_callTy call_strA (by rfl) n_str (by decide +kernel) (pa_cons (pv 5) pa_nil)))) pa_nil))))))))))
    (d_house_text kh)
abbrev N_law_texts : List Str := ["_law_house", "_law_found", "_law_days", "_law_name_here", "_law_spot", "_law_lasts", "_law_kept", "_law_acts", "_law_told", "_law_number", "_law_row", "_law_word", "_law_sort", "_law_part", "_law_line_here"]
theorem sc_law_texts : FnScope N_law_texts ["_law_house"] (defScope s_law_texts) := by wtm_at "sn"
theorem ok_law_texts {f : Addr} {fd : FuncData} (F : GD K "_law_texts" "_law_texts" s_law_texts f fd) (n_str : mg "str" = none) :
    FnOk P w K mg base (L2.CX P w) 1 f fd ["_law_house"] (spD K (c_law_texts K)) :=
  fn_DD (t := t_law_texts K) F sc_law_texts (by wtm_at "ln") (by decide)
    (fun cdv A outer s H E hr => by exact
      (pss_cons (ps_set (i := 1) sc_law_texts.nd rfl (by wtm_at "oi") (pe_lst (pa_cons (pe_bm PySem.F.plainAttrs_str PySem.F.slot_str_join PySem.F.type_str_join mt_join pe_str (pa_cons (pe_op op_addA (pe_lst (pa_cons pe_str pa_nil)) (pe_lc (own := [("_law_days", 2)]) (g := (gName 2)) (tt := tYes) (te := (tCB rStrI (tCons (tVar 2) tNil))) (by rfl) sc_law_texts.nd (pi_any (pe_ix ix_seq (pv 0) pe_int (fun _ _ => rfl))) (blkOk_by (own := [("_law_days", 2)]) (N := N_law_texts) (sc := defScope s_law_texts) (by decide +kernel)) (fun _ _ _ _ _ => by exact (pg_name (i := 2) sc_law_texts.nd rfl (by wtm_at "oi"))) (fun _ _ _ _ _ => by exact pts_nil) (fun _ _ _ _ _ => by exact (pe_callTy call_str_int (by rfl) n_str (by decide +kernel) (pa_cons (pv 2) pa_nil))))) pa_nil)) pa_nil)))
      (pss_cons (ps_for (passes_of rfl) rfl (pi_any (pe_ix ix_seq (pv 0) pe_int (fun _ _ => rfl))) (pg_unl rfl (pgs_cons (pg_name (i := 3) sc_law_texts.nd rfl (by wtm_at "oi")) (pgs_cons (pg_name (i := 4) sc_law_texts.nd rfl (by wtm_at "oi")) (pgs_cons (pg_name (i := 5) sc_law_texts.nd rfl (by wtm_at "oi")) (pgs_cons (pg_name (i := 6) sc_law_texts.nd rfl (by wtm_at "oi")) (pgs_cons (pg_name (i := 7) sc_law_texts.nd rfl (by wtm_at "oi")) pgs_nil)))))) (pss_cons (ps_set (i := 8) sc_law_texts.nd rfl (by wtm_at "oi") (pe_ifExp (pt_cmp (pc_isN (pv 6)) rfl) pe_str (pe_bm PySem.F.plainAttrs_str PySem.F.slot_str_join PySem.F.type_str_join mt_join pe_str (pa_cons (pe_lc (own := [("_law_number", 9)]) (g := (gName 9)) (tt := tYes) (te := (tCB rStrI (tCons (tVar 9) tNil))) (by rfl) sc_law_texts.nd (pi_any (pv 6)) (blkOk_by (own := [("_law_number", 9)]) (N := N_law_texts) (sc := defScope s_law_texts) (by decide +kernel)) (fun _ _ _ _ _ => by exact (pg_name (i := 9) sc_law_texts.nd rfl (by wtm_at "oi"))) (fun _ _ _ _ _ => by exact pts_nil) (fun _ _ _ _ _ => by exact (pe_callTy call_str_int (by rfl) n_str (by decide +kernel) (pa_cons (pv 9) pa_nil)))) pa_nil))))
      (pss_cons (ps_set (i := 10) sc_law_texts.nd rfl (by wtm_at "oi") (pe_op op_addA (pe_lst (pa_cons pe_str (pa_cons (pv 3) (pa_cons (pe_callTy call_str_int (by rfl) n_str (by decide +kernel) (pa_cons (pv 4) pa_nil)) (pa_cons (pe_callTy call_str_int (by rfl) n_str (by decide +kernel) (pa_cons (pv 5) pa_nil)) (pa_cons (pv 8) pa_nil)))))) (pe_lc (own := [("_law_word", 11), ("_law_sort", 12)]) (g := (gTup K 2 (gCons (gName 11) (gCons (gName 12) gNil)))) (tt := tYes) (te := (tOp (rAddA K) (tOp (rAddA K) (tVar 12) (tC (.str " "))) (tVar 11))) (by rfl) sc_law_texts.nd (pi_any (pv 7)) (blkOk_by (own := [("_law_word", 11), ("_law_sort", 12)]) (N := N_law_texts) (sc := defScope s_law_texts) (by decide +kernel)) (fun _ _ _ _ _ => by exact (pg_tup rfl (pgs_cons (pg_name (i := 11) sc_law_texts.nd rfl (by wtm_at "oi")) (pgs_cons (pg_name (i := 12) sc_law_texts.nd rfl (by wtm_at "oi")) pgs_nil)))) (fun _ _ _ _ _ => by exact pts_nil) (fun _ _ _ _ _ => by exact (pe_op op_addA (pe_op op_addA (pv 12) pe_str) (pv 11))))))
      (pss_one (ps_expr (pe_bm PySem.F.plainAttrs_list PySem.F.slot_list_append PySem.F.type_list_append mt_append (pv 1) (pa_cons (pe_bm PySem.F.plainAttrs_str PySem.F.slot_str_join PySem.F.type_str_join mt_join pe_str (pa_cons (pv 10) pa_nil)) pa_nil)))))))
      (pss_one (ps_ret (pe_op op_addA (pv 1) (pe_lc (own := [("_law_line_here", 14)]) (g := (gName 14)) (tt := tYes) (te := (tBM K "str" (rJoin K) (tC (.str " ")) (tCons (tLc (iAny K (tVar 14)) (gName 13) tYes (tCB rStrA (tCons (tVar 13) tNil)) [13]) tNil))) (by rfl) sc_law_texts.nd (pi_any (pe_ix ix_seq (pv 0) pe_int (fun _ _ => rfl))) (blkOk_by (own := [("_law_line_here", 14)]) (N := N_law_texts) (sc := defScope s_law_texts) (by decide +kernel)) (fun _ _ _ _ _ => by exact (pg_name (i := 14) sc_law_texts.nd rfl (by wtm_at "oi"))) (fun _ _ _ _ _ => by exact pts_nil) (fun _ _ _ _ _ => by exact (pe_bm PySem.F.plainAttrs_str PySem.F.slot_str_join PySem.F.type_str_join mt_join pe_str (pa_cons (pe_lc (own := [("_law_part", 13)]) (g := (gName 13)) (tt := tYes) (te := (tCB rStrA (tCons (tVar 13) tNil))) (by rfl) sc_law_texts.nd (pi_any (pv 14)) (by exact blkOk_rl (own := [("_law_part", 13)]) (N := N_law_texts) (sc0 := defScope s_law_texts) rfl (by decide +kernel)) (fun _ _ _ _ _ => by exact (pg_name (i := 13) sc_law_texts.nd rfl (by wtm_at "oi"))) (fun _ _ _ _ _ => by exact pts_nil) (fun _ _ _ _ _ => by exact (pe_callTy call_strA (by rfl) n_str (by decide +kernel) (pa_cons (pv 13) pa_nil)))) pa_nil))))))))))
    (d_law_texts)
abbrev N_law : List Str := ["_law_script", "_law_hold", "_law_k", "_law_house", "_law_feasts", "_law_some", "_law_lines", "_law_line_here", "_law_made", "_law_turn", "_law_found"]
theorem sc_law : FnScope N_law ["_law_script"] (defScope s_law) := by wtm_at "sn"
theorem ok_law {f : Addr} {fd : FuncData} {f_law_parts f_law_feast_made f_law_line_made f_House_init f_Calendar_init f_house_text f_law_texts f_law_draw : Addr} {fd_law_parts fd_law_feast_made fd_law_line_made fd_House_init fd_Calendar_init fd_house_text fd_law_texts fd_law_draw : FuncData} (F : GD K "law" "law" s_law f fd) (F_law_parts : FG P w K mg base 4 f_law_parts fd_law_parts ["_law_hold"] (c_law_parts K) "_law_parts") (F_law_feast_made : FG P w K mg base 6 f_law_feast_made fd_law_feast_made ["_law_some"] (c_law_feast_made K) "_law_feast_made") (F_law_line_made : FG P w K mg base 5 f_law_line_made fd_law_line_made ["_law_line_here"] (c_law_line_made K) "_law_line_made") (F_House_init : FQ P w K mg base 6 f_House_init fd_House_init ["self", "calendar", "feasts", "rows"] (c_House_init K)) (M_House : Mk K (He.ga K "House") f_House_init) (F_Calendar_init : FQ P w K mg base 3 f_Calendar_init fd_Calendar_init ["self", "years"] (c_Calendar_init K)) (M_Calendar : Mk K (He.ga K "Calendar") f_Calendar_init) (F_house_text : FG P w K mg base 3 f_house_text fd_house_text ["house"] (c_house_text K) "house_text") (F_law_texts : FG P w K mg base 1 f_law_texts fd_law_texts ["_law_house"] (c_law_texts K) "_law_texts") (F_law_draw : FG P w K mg base 1 f_law_draw fd_law_draw ["_law_hold", "_law_many"] (c_law_draw K) "_law_draw") (n_list : mg "list" = none) (n_len : mg "len" = none) (n_min : mg "min" = none) (n_max : mg "max" = none) (n_range : mg "range" = none) (g_Calendar : mg "Calendar" = some (.ref (He.ga K "Calendar"))) (g_House : mg "House" = some (.ref (He.ga K "House"))) (n_isinstance : mg "isinstance" = none) :
    FnOk P w K mg base (L2.CX P w) 8 f fd ["_law_script"] (spD K (c_law K)) :=
  fn_DD (t := t_law K) F sc_law (by wtm_at "ln") (by decide)
    (fun cdv A outer s H E hr => by exact
      (pss_cons (ps_set (i := 1) sc_law.nd rfl (by wtm_at "oi") (pe_lst (pa_cons pe_int (pa_cons (pe_ifExp (pt_cmpR (op_neD hr.units) (pv 0) (pe_lst pa_nil) (nomark _)) (pe_callTy call_list_of (by rfl) n_list (by decide +kernel) (pa_cons (pv 0) pa_nil)) (pe_lst (pa_cons pe_int pa_nil))) pa_nil))))
      (pss_cons (ps_for (passes_of rfl) rfl (pi_range1 (by rfl) n_range (pa_cons (pe_callB (call_maxA rfl) (by rfl) n_max (by decide +kernel) (pa_cons pe_int (pa_cons (pe_callB (call_minA rfl) (by rfl) n_min (by decide +kernel) (pa_cons pe_int (pa_cons (pe_callB call_len (by rfl) n_len (by decide +kernel) (pa_cons (pv 0) pa_nil)) pa_nil))) pa_nil))) pa_nil)) (pg_name (i := 2) sc_law.nd rfl (by wtm_at "oi")) (pss_cons (ps_set (i := 3) sc_law.nd rfl (by wtm_at "oi") (pe_call F_law_parts.F (hr.mono (by decide)) (by rfl) F_law_parts.m F_law_parts.k F_law_parts.B .nil (by wtm_at "pk") (pa_cons (pv 1) pa_nil)))
      (pss_cons (by first | exact ps_setLc (i := 4) (own := [("_law_some", 5)]) (g := (gName 5)) (tt := tYes) (te := (tCall (spD K (c_law_feast_made K)) [] E0 (tCons (tVar 5) tNil))) (by rfl) sc_law.nd rfl rfl (sw_true rfl rfl rfl (by decide +kernel)) (pi_any (pe_ix ix_seq (pv 3) pe_int (fun _ _ => rfl))) (blkOk_by (own := [("_law_some", 5)]) (N := N_law) (sc := defScope s_law) (by decide +kernel)) (fun _ _ _ _ _ => by exact (pg_name (i := 5) sc_law.nd rfl (by wtm_at "oi"))) (fun _ _ _ _ _ => by exact pts_nil) (fun _ _ _ _ _ => by exact (pe_call F_law_feast_made.F (hr.mono (by decide)) (by rfl) F_law_feast_made.m F_law_feast_made.k F_law_feast_made.B .nil passL (pa_cons (pv 5) pa_nil))) | exact ps_set (i := 4) sc_law.nd rfl (by wtm_at "oi") (pe_lc (own := [("_law_some", 5)]) (g := (gName 5)) (tt := tYes) (te := (tCall (spD K (c_law_feast_made K)) [] E0 (tCons (tVar 5) tNil))) (by rfl) sc_law.nd (pi_any (pe_ix ix_seq (pv 3) pe_int (fun _ _ => rfl))) (blkOk_by (own := [("_law_some", 5)]) (N := N_law) (sc := defScope s_law) (by decide +kernel)) (fun _ _ _ _ _ => by exact (pg_name (i := 5) sc_law.nd rfl (by wtm_at "oi"))) (fun _ _ _ _ _ => by exact pts_nil) (fun _ _ _ _ _ => by exact (pe_call F_law_feast_made.F (hr.mono (by decide)) (by rfl) F_law_feast_made.m F_law_feast_made.k F_law_feast_made.B .nil passL (pa_cons (pv 5) pa_nil)))))
      (pss_cons (by first | exact ps_setLc (i := 6) (own := [("_law_line_here", 7)]) (g := (gName 7)) (tt := tYes) (te := (tCall (spD K (c_law_line_made K)) [] E0 (tCons (tVar 7) tNil))) (by rfl) sc_law.nd rfl rfl (sw_true rfl rfl rfl (by decide +kernel)) (pi_any (pe_ix ix_seq (pv 3) pe_int (fun _ _ => rfl))) (blkOk_by (own := [("_law_line_here", 7)]) (N := N_law) (sc := defScope s_law) (by decide +kernel)) (fun _ _ _ _ _ => by exact (pg_name (i := 7) sc_law.nd rfl (by wtm_at "oi"))) (fun _ _ _ _ _ => by exact pts_nil) (fun _ _ _ _ _ => by exact (pe_call F_law_line_made.F (hr.mono (by decide)) (by rfl) F_law_line_made.m F_law_line_made.k F_law_line_made.B .nil passL (pa_cons (pv 7) pa_nil))) | exact ps_set (i := 6) sc_law.nd rfl (by wtm_at "oi") (pe_lc (own := [("_law_line_here", 7)]) (g := (gName 7)) (tt := tYes) (te := (tCall (spD K (c_law_line_made K)) [] E0 (tCons (tVar 7) tNil))) (by rfl) sc_law.nd (pi_any (pe_ix ix_seq (pv 3) pe_int (fun _ _ => rfl))) (blkOk_by (own := [("_law_line_here", 7)]) (N := N_law) (sc := defScope s_law) (by decide +kernel)) (fun _ _ _ _ _ => by exact (pg_name (i := 7) sc_law.nd rfl (by wtm_at "oi"))) (fun _ _ _ _ _ => by exact pts_nil) (fun _ _ _ _ _ => by exact (pe_call F_law_line_made.F (hr.mono (by decide)) (by rfl) F_law_line_made.m F_law_line_made.k F_law_line_made.B .nil passL (pa_cons (pv 7) pa_nil)))))
      (pss_cons (ps_set (i := 8) sc_law.nd rfl (by wtm_at "oi") (pe_make M_House F_House_init.F (hr.mono (by decide)) (by rfl) g_House F_House_init.B .nil (by wtm_at "pk") (pa_cons (pe_make M_Calendar F_Calendar_init.F (hr.mono (by decide)) (by rfl) g_Calendar F_Calendar_init.B .nil (by wtm_at "pk") (pa_cons (pe_callTy call_list_of (by rfl) n_list (by decide +kernel) (pa_cons (pe_ix ix_seq (pv 3) pe_int (fun _ _ => rfl)) pa_nil)) pa_nil)) (pa_cons (pv 4) (pa_cons (pv 6) pa_nil)))))
      (pss_cons (ps_expr (pe_bm0 PySem.F.plainAttrs_list PySem.F.slot_list_clear PySem.F.type_list_clear mt_clear (pv 4)))
      (pss_cons (ps_expr (pe_bm0 PySem.F.plainAttrs_list PySem.F.slot_list_reverse PySem.F.type_list_reverse mt_reverse (pv 6)))
      (pss_one (ps_for (passes_of rfl) rfl (pi_range1 (by rfl) n_range (pa_cons pe_int pa_nil)) (pg_name (i := 9) sc_law.nd rfl (by wtm_at "oi")) (pss_cons (ps_set (i := 10) sc_law.nd rfl (by wtm_at "oi") (pe_call F_house_text.F (hr.mono (by decide)) (by rfl) F_house_text.m F_house_text.k F_house_text.B .nil (by wtm_at "pk") (pa_cons (pv 8) pa_nil)))
      (pss_cons (ps_if (PW.pt (pw_or (pt_not (pt_truth (pe_callB call_isi (by rfl) n_isinstance (by decide +kernel) (pa_cons (pv 10) (pa_cons (pe_bltn (v := .ty "list") (by rfl) n_list (by decide +kernel) rfl) pa_nil))) (by intro _; rfl))) (pw_or1 (pt_cmpR (op_neD hr.units) (pv 10) (pe_call F_law_texts.F (hr.mono (by decide)) (by rfl) F_law_texts.m F_law_texts.k F_law_texts.B .nil (by wtm_at "pk") (pa_cons (pv 3) pa_nil)) (nomark _))))) (pss_one (ps_ret pe_bl)) pss_nil)
      (pss_cons (ps_asg pe_str (pg_sub (pv 10) (pe_call F_law_draw.F (hr.mono (by decide)) (by rfl) F_law_draw.m F_law_draw.k F_law_draw.B .nil (by wtm_at "pk") (pa_cons (pv 1) (pa_cons (pe_callB call_len (by rfl) n_len (by decide +kernel) (pa_cons (pv 10) pa_nil)) pa_nil))) set_list))
      (pss_one (ps_expr (pe_bm PySem.F.plainAttrs_list PySem.F.slot_list_append PySem.F.type_list_append mt_append (pv 10) (pa_cons pe_str pa_nil))))))))))))))))
      (pss_one (ps_ret pe_bl)))))
    (d_law)
end
/-! ### the end -/
set_option maxHeartbeats 0 in
theorem facts {P : Program} {w : World} {K : PySem.W.Frag} {h : Heap} {mg : Str → Option Value} {f : Addr} (X : K.In h) (G : h.Ns mainGlobals mg) (hfa : mg ("law" : Str) = some (.ref f)) (c : He.SaysD fas fns K) (cx : exAll exs K = true) :
    ∃ fd : FuncData, (∀ (s : Shared) (v : Value), BindsTo s fd ⟨[v], []⟩ [("_law_script", v)]) ∧ ∀ base : Heap, K.In base → base.Ns mainGlobals mg → FnOk P w K mg base (L2.CX P w) 8 f fd ["_law_script"] (spD K (c_law K)) := by
  have e := hfa.symm.trans (He.glo_ok X G (c.fact 122 (f := .glo "law") rfl))
  cases e
  have q0 := He.free_ok X G (c.fact 0 (f := .free "len") rfl)
  have q1 := He.glo_ok X G (c.fact 1 (f := .glo "_law_draw") rfl)
  have q2 := He.free_ok X G (c.fact 2 (f := .free "range") rfl)
  have q3 := He.free_ok X G (c.fact 4 (f := .free "max") rfl)
  have q4 := He.free_ok X G (c.fact 5 (f := .free "list") rfl)
  have q5 := He.free_ok X G (c.fact 6 (f := .free "sum") rfl)
  have q6 := He.free_ok X G (c.fact 11 (f := .free "str") rfl)
  have q7 := He.free_ok X G (c.fact 12 (f := .free "isinstance") rfl)
  have q8 := He.free_ok X G (c.fact 14 (f := .free "all") rfl)
  have q9 := He.glo_ok X G (c.fact 17 (f := .glo "is_number") rfl)
  have q10 := He.glo_ok X G (c.fact 18 (f := .glo "are_numbers") rfl)
  have q11 := He.glo_ok X G (c.fact 19 (f := .glo "is_name") rfl)
  have q12 := He.free_ok X G (c.fact 22 (f := .free "set") rfl)
  have q13 := He.exc_ok (c.fact 25 (f := .exc "BadFeast") rfl)
  have q14 := He.cls_ok (c.fact 27 (f := .cls "Feast") rfl)
  have q15 := He.noat_ok (c.fact 28 (f := .noat "Feast" "name") rfl)
  have q16 := He.noat_ok (c.fact 29 (f := .noat "Feast" "place") rfl)
  have q17 := He.noat_ok (c.fact 30 (f := .noat "Feast" "lasts") rfl)
  have q18 := He.noat_ok (c.fact 31 (f := .noat "Feast" "kept") rfl)
  have q19 := He.noat_ok (c.fact 32 (f := .noat "Feast" "acts") rfl)
  have q20 := He.glo_ok X G (c.fact 34 (f := .glo "Feast") rfl)
  have q21 := He.exc_ok (c.fact 35 (f := .exc "BadRow") rfl)
  have q22 := He.glo_ok X G (c.fact 36 (f := .glo "BadRow") rfl)
  have q23 := He.cls_ok (c.fact 37 (f := .cls "Going") rfl)
  have q24 := He.cls_ok (c.fact 38 (f := .cls "Yearly") rfl)
  have q25 := He.noat_ok (c.fact 39 (f := .noat "Going" "name") rfl)
  have q26 := He.noat_ok (c.fact 40 (f := .noat "Going" "pieces") rfl)
  have q27 := He.noat_ok (c.fact 41 (f := .noat "Going" "most") rfl)
  have q28 := He.noat_ok (c.fact 42 (f := .noat "Going" "begin") rfl)
  have q29 := He.noat_ok (c.fact 43 (f := .noat "Yearly" "name") rfl)
  have q30 := He.noat_ok (c.fact 44 (f := .noat "Yearly" "pieces") rfl)
  have q31 := He.noat_ok (c.fact 45 (f := .noat "Yearly" "most") rfl)
  have q32 := He.glo_ok X G (c.fact 46 (f := .glo "Row") rfl)
  have q33 := He.cls_ok (c.fact 51 (f := .cls "Calendar") rfl)
  have q34 := He.noat_ok (c.fact 52 (f := .noat "Calendar" "lengths") rfl)
  have q35 := He.noat_ok (c.fact 53 (f := .noat "Calendar" "begins") rfl)
  have q36 := He.noat_ok (c.fact 54 (f := .noat "Calendar" "whole") rfl)
  have q37 := He.glo_ok X G (c.fact 56 (f := .glo "Calendar") rfl)
  have q38 := He.meth_ok (c.fact 57 (f := .meth "Feast" "told") rfl)
  have q39 := He.meth_ok (c.fact 58 (f := .meth "Calendar" "years") rfl)
  have q40 := He.exc_ok (c.fact 59 (f := .exc "NoDay") rfl)
  have q41 := He.glo_ok X G (c.fact 61 (f := .glo "need_day") rfl)
  have q42 := He.meth_ok (c.fact 63 (f := .meth "Calendar" "long") rfl)
  have q43 := He.meth_ok (c.fact 64 (f := .meth "Calendar" "first") rfl)
  have q44 := He.free_ok X G (c.fact 65 (f := .free "min") rfl)
  have q45 := He.meth_ok (c.fact 74 (f := .meth "Going" "begins_anew") rfl)
  have q46 := He.meth_ok (c.fact 75 (f := .meth "Yearly" "begins_anew") rfl)
  have q47 := He.cls_ok (c.fact 78 (f := .cls "Table") rfl)
  have q48 := He.noat_ok (c.fact 79 (f := .noat "Table" "wheel") rfl)
  have q49 := He.noat_ok (c.fact 80 (f := .noat "Table" "line") rfl)
  have q50 := He.noat_ok (c.fact 81 (f := .noat "Table" "charts") rfl)
  have q51 := He.noat_ok (c.fact 82 (f := .noat "Table" "early") rfl)
  have q52 := He.noat_ok (c.fact 83 (f := .noat "Table" "later") rfl)
  have q53 := He.noat_ok (c.fact 84 (f := .noat "Table" "turn_due") rfl)
  have q54 := He.noat_ok (c.fact 85 (f := .noat "Table" "turn_drift") rfl)
  have q55 := He.exc_ok (c.fact 87 (f := .exc "NoRow") rfl)
  have q56 := He.cls_ok (c.fact 89 (f := .cls "House") rfl)
  have q57 := He.noat_ok (c.fact 90 (f := .noat "House" "wheel") rfl)
  have q58 := He.noat_ok (c.fact 91 (f := .noat "House" "kept") rfl)
  have q59 := He.noat_ok (c.fact 92 (f := .noat "House" "lines") rfl)
  have q60 := He.noat_ok (c.fact 93 (f := .noat "House" "charts") rfl)
  have q61 := He.noat_ok (c.fact 94 (f := .noat "House" "tables") rfl)
  have q62 := He.exc_ok (c.fact 100 (f := .exc "BadHouse") rfl)
  have q63 := He.exc_ok (c.fact 106 (f := .exc "BadCalendar") rfl)
  obtain ⟨fd_law_draw, G0_law_draw⟩ := c.def_ 0 (d := dd_law_draw) rfl
  have G_law_draw : GD K "_law_draw" "_law_draw" s_law_draw (He.ga K "_law_draw") fd_law_draw := G0_law_draw
  have B_law_draw : Binds K fd_law_draw ["_law_hold", "_law_many"] [] := G_law_draw.bindsN fun _ _ _ _ _ _ us hl => match us, hl with | [_, _], _ => rfl
  obtain ⟨fd_law_lengths, G0_law_lengths⟩ := c.def_ 1 (d := dd_law_lengths) rfl
  have G_law_lengths : GD K "_law_lengths" "_law_lengths" s_law_lengths (He.ga K "_law_lengths") fd_law_lengths := G0_law_lengths
  have B_law_lengths : Binds K fd_law_lengths ["_law_hold", "_law_most", "_law_many"] [] := G_law_lengths.bindsN fun _ _ _ _ _ _ us hl => match us, hl with | [_, _, _], _ => rfl
  obtain ⟨fd_law_name, G0_law_name⟩ := c.def_ 2 (d := dd_law_name) rfl
  have G_law_name : GD K "_law_name" "_law_name" s_law_name (He.ga K "_law_name") fd_law_name := G0_law_name
  have B_law_name : Binds K fd_law_name ["_law_hold"] [] := G_law_name.bindsN fun _ _ _ _ _ _ us hl => match us, hl with | [_], _ => rfl
  obtain ⟨fd_law_names, G0_law_names⟩ := c.def_ 3 (d := dd_law_names) rfl
  have G_law_names : GD K "_law_names" "_law_names" s_law_names (He.ga K "_law_names") fd_law_names := G0_law_names
  have B_law_names : Binds K fd_law_names ["_law_hold", "_law_many"] [] := G_law_names.bindsN fun _ _ _ _ _ _ us hl => match us, hl with | [_, _], _ => rfl
  obtain ⟨fd_law_feast, G0_law_feast⟩ := c.def_ 4 (d := dd_law_feast) rfl
  have G_law_feast : GD K "_law_feast" "_law_feast" s_law_feast (He.ga K "_law_feast") fd_law_feast := G0_law_feast
  have B_law_feast : Binds K fd_law_feast ["_law_hold", "_law_name_here", "_law_lengths_here", "_law_words"] [] := G_law_feast.bindsN fun _ _ _ _ _ _ us hl => match us, hl with | [_, _, _, _], _ => rfl
  obtain ⟨fd_law_line, G0_law_line⟩ := c.def_ 5 (d := dd_law_line) rfl
  have G_law_line : GD K "_law_line" "_law_line" s_law_line (He.ga K "_law_line") fd_law_line := G0_law_line
  have B_law_line : Binds K fd_law_line ["_law_hold", "_law_word", "_law_lengths_here", "_law_tales"] [] := G_law_line.bindsN fun _ _ _ _ _ _ us hl => match us, hl with | [_, _, _, _], _ => rfl
  obtain ⟨fd_law_parts, G0_law_parts⟩ := c.def_ 6 (d := dd_law_parts) rfl
  have G_law_parts : GD K "_law_parts" "_law_parts" s_law_parts (He.ga K "_law_parts") fd_law_parts := G0_law_parts
  have B_law_parts : Binds K fd_law_parts ["_law_hold"] [] := G_law_parts.bindsN fun _ _ _ _ _ _ us hl => match us, hl with | [_], _ => rfl
  obtain ⟨fd_is_name, G0_is_name⟩ := c.def_ 7 (d := dd_is_name) rfl
  have G_is_name : GD K "is_name" "is_name" s_is_name (He.ga K "is_name") fd_is_name := G0_is_name
  have B_is_name : Binds K fd_is_name ["thing"] [] := G_is_name.bindsN fun _ _ _ _ _ _ us hl => match us, hl with | [_], _ => rfl
  obtain ⟨fd_is_number, G0_is_number⟩ := c.def_ 8 (d := dd_is_number) rfl
  have G_is_number : GD K "is_number" "is_number" s_is_number (He.ga K "is_number") fd_is_number := G0_is_number
  have B_is_number : Binds K fd_is_number ["thing", "least", "most"] [] := G_is_number.bindsN fun _ _ _ _ _ _ us hl => match us, hl with | [_, _, _], _ => rfl
  obtain ⟨fd_are_numbers, G0_are_numbers⟩ := c.def_ 9 (d := dd_are_numbers) rfl
  have G_are_numbers : GD K "are_numbers" "are_numbers" s_are_numbers (He.ga K "are_numbers") fd_are_numbers := G0_are_numbers
  have B_are_numbers : Binds K fd_are_numbers ["thing", "long", "least", "most"] [] := G_are_numbers.bindsN fun _ _ _ _ _ _ us hl => match us, hl with | [_, _, _, _], _ => rfl
  obtain ⟨fd_good_years, G0_good_years⟩ := c.def_ 10 (d := dd_good_years) rfl
  have G_good_years : GD K "good_years" "good_years" s_good_years (He.ga K "good_years") fd_good_years := G0_good_years
  have B_good_years : Binds K fd_good_years ["years"] [] := G_good_years.bindsN fun _ _ _ _ _ _ us hl => match us, hl with | [_], _ => rfl
  obtain ⟨fd_is_put, G0_is_put⟩ := c.def_ 11 (d := dd_is_put) rfl
  have G_is_put : GD K "is_put" "is_put" s_is_put (He.ga K "is_put") fd_is_put := G0_is_put
  have B_is_put : Binds K fd_is_put ["pair"] [] := G_is_put.bindsN fun _ _ _ _ _ _ us hl => match us, hl with | [_], _ => rfl
  obtain ⟨fd_good_puts, G0_good_puts⟩ := c.def_ 12 (d := dd_good_puts) rfl
  have G_good_puts : GD K "good_puts" "good_puts" s_good_puts (He.ga K "good_puts") fd_good_puts := G0_good_puts
  have B_good_puts : Binds K fd_good_puts ["puts"] [] := G_good_puts.bindsN fun _ _ _ _ _ _ us hl => match us, hl with | [_], _ => rfl
  obtain ⟨fd_Feast_init, G0_Feast_init⟩ := c.def_ 13 (d := dd_Feast_init) rfl
  have G_Feast_init : FunD K "__init__" "Feast.__init__" (defArgs s_Feast_init) (defBody s_Feast_init) (defScope s_Feast_init) [.int (1), .non, .non] [] (He.ma K (He.ga K "Feast") "__init__") fd_Feast_init := G0_Feast_init
  obtain ⟨ds_Feast_init, V_Feast_init, B0_Feast_init⟩ := FunD.binds1 (ps := ["self", "name", "place", "days", "years", "puts"]) G_Feast_init 6 3 (by simp) (by decide) fun _ _ _ _ _ _ _ us its hu hi => match us, its, hu, hi with | [_, _, _, _, _, _], [_, _, _], _, _ => ⟨_, rfl, rfl⟩
  have B_Feast_init : Binds K fd_Feast_init ["self", "name", "place", "days", "years", "puts"] [] := by
    cases V_Feast_init
    exact B0_Feast_init
  obtain ⟨fd_law_feast_made, G0_law_feast_made⟩ := c.def_ 14 (d := dd_law_feast_made) rfl
  have G_law_feast_made : GD K "_law_feast_made" "_law_feast_made" s_law_feast_made (He.ga K "_law_feast_made") fd_law_feast_made := G0_law_feast_made
  have B_law_feast_made : Binds K fd_law_feast_made ["_law_some"] [] := G_law_feast_made.bindsN fun _ _ _ _ _ _ us hl => match us, hl with | [_], _ => rfl
  obtain ⟨fd_Row_init, G0_Row_init⟩ := c.def_ 15 (d := dd_Row_init) rfl
  have G_Row_init : GD K "__init__" "Row.__init__" s_Row_init (He.ma K (He.ga K "Row") "__init__") fd_Row_init := G0_Row_init
  have B_Row_init : Binds K fd_Row_init ["self", "name", "pieces", "most"] [] := G_Row_init.bindsN fun _ _ _ _ _ _ us hl => match us, hl with | [_, _, _, _], _ => rfl
  obtain ⟨fd_Going_init, G0_Going_init⟩ := c.def_ 16 (d := dd_Going_init) rfl
  have G_Going_init : FunD K "__init__" "Going.__init__" (defArgs s_Going_init) (defBody s_Going_init) (defScope s_Going_init) [.int (0)] [] (He.ma K (He.ga K "Going") "__init__") fd_Going_init := G0_Going_init
  obtain ⟨ds_Going_init, V_Going_init, B0_Going_init⟩ := FunD.binds1 (ps := ["self", "name", "many", "most", "begin"]) G_Going_init 5 1 (by simp) (by decide) fun _ _ _ _ _ _ _ us its hu hi => match us, its, hu, hi with | [_, _, _, _, _], [_], _, _ => ⟨_, rfl, rfl⟩
  have B_Going_init : Binds K fd_Going_init ["self", "name", "many", "most", "begin"] [] := by
    cases V_Going_init
    exact B0_Going_init
  obtain ⟨fd_Yearly_init, G0_Yearly_init⟩ := c.def_ 17 (d := dd_Yearly_init) rfl
  have G_Yearly_init : GD K "__init__" "Yearly.__init__" s_Yearly_init (He.ma K (He.ga K "Yearly") "__init__") fd_Yearly_init := G0_Yearly_init
  have B_Yearly_init : Binds K fd_Yearly_init ["self", "name", "many", "most"] [] := G_Yearly_init.bindsN fun _ _ _ _ _ _ us hl => match us, hl with | [_, _, _, _], _ => rfl
  obtain ⟨fd_law_line_made, G0_law_line_made⟩ := c.def_ 18 (d := dd_law_line_made) rfl
  have G_law_line_made : GD K "_law_line_made" "_law_line_made" s_law_line_made (He.ga K "_law_line_made") fd_law_line_made := G0_law_line_made
  have B_law_line_made : Binds K fd_law_line_made ["_law_line_here"] [] := G_law_line_made.bindsN fun _ _ _ _ _ _ us hl => match us, hl with | [_], _ => rfl
  obtain ⟨fd_are_unlike, G0_are_unlike⟩ := c.def_ 19 (d := dd_are_unlike) rfl
  have G_are_unlike : GD K "are_unlike" "are_unlike" s_are_unlike (He.ga K "are_unlike") fd_are_unlike := G0_are_unlike
  have B_are_unlike : Binds K fd_are_unlike ["names"] [] := G_are_unlike.bindsN fun _ _ _ _ _ _ us hl => match us, hl with | [_], _ => rfl
  obtain ⟨fd_Feast_told, G0_Feast_told⟩ := c.def_ 20 (d := dd_Feast_told) rfl
  have G_Feast_told : GD K "told" "Feast.told" s_Feast_told (He.ma K (He.ga K "Feast") "told") fd_Feast_told := G0_Feast_told
  have B_Feast_told : Binds K fd_Feast_told ["self"] [] := G_Feast_told.bindsN fun _ _ _ _ _ _ us hl => match us, hl with | [_], _ => rfl
  obtain ⟨fd_Calendar_years, G0_Calendar_years⟩ := c.def_ 21 (d := dd_Calendar_years) rfl
  have G_Calendar_years : GD K "years" "Calendar.years" s_Calendar_years (He.ma K (He.ga K "Calendar") "years") fd_Calendar_years := G0_Calendar_years
  have B_Calendar_years : Binds K fd_Calendar_years ["self"] [] := G_Calendar_years.bindsN fun _ _ _ _ _ _ us hl => match us, hl with | [_], _ => rfl
  obtain ⟨fd_is_house, G0_is_house⟩ := c.def_ 22 (d := dd_is_house) rfl
  have G_is_house : GD K "is_house" "is_house" s_is_house (He.ga K "is_house") fd_is_house := G0_is_house
  have B_is_house : Binds K fd_is_house ["calendar", "feasts", "rows"] [] := G_is_house.bindsN fun _ _ _ _ _ _ us hl => match us, hl with | [_, _, _], _ => rfl
  obtain ⟨fd_need_day, G0_need_day⟩ := c.def_ 23 (d := dd_need_day) rfl
  have G_need_day : GD K "need_day" "need_day" s_need_day (He.ga K "need_day") fd_need_day := G0_need_day
  have B_need_day : Binds K fd_need_day ["number"] [] := G_need_day.bindsN fun _ _ _ _ _ _ us hl => match us, hl with | [_], _ => rfl
  obtain ⟨fd_Calendar_first, G0_Calendar_first⟩ := c.def_ 24 (d := dd_Calendar_first) rfl
  have G_Calendar_first : GD K "first" "Calendar.first" s_Calendar_first (He.ma K (He.ga K "Calendar") "first") fd_Calendar_first := G0_Calendar_first
  have B_Calendar_first : Binds K fd_Calendar_first ["self", "year"] [] := G_Calendar_first.bindsN fun _ _ _ _ _ _ us hl => match us, hl with | [_, _], _ => rfl
  obtain ⟨fd_Calendar_long, G0_Calendar_long⟩ := c.def_ 25 (d := dd_Calendar_long) rfl
  have G_Calendar_long : GD K "long" "Calendar.long" s_Calendar_long (He.ma K (He.ga K "Calendar") "long") fd_Calendar_long := G0_Calendar_long
  have B_Calendar_long : Binds K fd_Calendar_long ["self", "year"] [] := G_Calendar_long.bindsN fun _ _ _ _ _ _ us hl => match us, hl with | [_, _], _ => rfl
  obtain ⟨fd_Feast_span, G0_Feast_span⟩ := c.def_ 26 (d := dd_Feast_span) rfl
  have G_Feast_span : GD K "span" "Feast.span" s_Feast_span (He.ma K (He.ga K "Feast") "span") fd_Feast_span := G0_Feast_span
  have B_Feast_span : Binds K fd_Feast_span ["self", "calendar", "year"] [] := G_Feast_span.bindsN fun _ _ _ _ _ _ us hl => match us, hl with | [_, _, _], _ => rfl
  obtain ⟨fd_sort_at, G0_sort_at⟩ := c.def_ 27 (d := dd_sort_at) rfl
  have G_sort_at : GD K "sort_at" "sort_at" s_sort_at (He.ga K "sort_at") fd_sort_at := G0_sort_at
  have B_sort_at : Binds K fd_sort_at ["spans", "place"] [] := G_sort_at.bindsN fun _ _ _ _ _ _ us hl => match us, hl with | [_, _], _ => rfl
  obtain ⟨fd_year_chart, G0_year_chart⟩ := c.def_ 28 (d := dd_year_chart) rfl
  have G_year_chart : GD K "year_chart" "year_chart" s_year_chart (He.ga K "year_chart") fd_year_chart := G0_year_chart
  have B_year_chart : Binds K fd_year_chart ["calendar", "feasts", "name", "year"] [] := G_year_chart.bindsN fun _ _ _ _ _ _ us hl => match us, hl with | [_, _, _, _], _ => rfl
  obtain ⟨fd_Row_begins_anew, G0_Row_begins_anew⟩ := c.def_ 29 (d := dd_Row_begins_anew) rfl
  have G_Row_begins_anew : GD K "begins_anew" "Row.begins_anew" s_Row_begins_anew (He.ma K (He.ga K "Row") "begins_anew") fd_Row_begins_anew := G0_Row_begins_anew
  have B_Row_begins_anew : Binds K fd_Row_begins_anew ["self"] [] := G_Row_begins_anew.bindsN fun _ _ _ _ _ _ us hl => match us, hl with | [_], _ => rfl
  obtain ⟨fd_Yearly_begins_anew, G0_Yearly_begins_anew⟩ := c.def_ 30 (d := dd_Yearly_begins_anew) rfl
  have G_Yearly_begins_anew : GD K "begins_anew" "Yearly.begins_anew" s_Yearly_begins_anew (He.ma K (He.ga K "Yearly") "begins_anew") fd_Yearly_begins_anew := G0_Yearly_begins_anew
  have B_Yearly_begins_anew : Binds K fd_Yearly_begins_anew ["self"] [] := G_Yearly_begins_anew.bindsN fun _ _ _ _ _ _ us hl => match us, hl with | [_], _ => rfl
  obtain ⟨fd_Row_coming, G0_Row_coming⟩ := c.def_ 31 (d := dd_Row_coming) rfl
  have G_Row_coming : GD K "coming" "Row.coming" s_Row_coming (He.ma K (He.ga K "Row") "coming") fd_Row_coming := G0_Row_coming
  have B_Row_coming : Binds K fd_Row_coming ["self", "due", "days"] [] := G_Row_coming.bindsN fun _ _ _ _ _ _ us hl => match us, hl with | [_, _, _], _ => rfl
  obtain ⟨fd_Yearly_coming, G0_Yearly_coming⟩ := c.def_ 32 (d := dd_Yearly_coming) rfl
  have G_Yearly_coming : GD K "coming" "Yearly.coming" s_Yearly_coming (He.ma K (He.ga K "Yearly") "coming") fd_Yearly_coming := G0_Yearly_coming
  have B_Yearly_coming : Binds K fd_Yearly_coming ["self", "due", "days"] [] := G_Yearly_coming.bindsN fun _ _ _ _ _ _ us hl => match us, hl with | [_, _, _], _ => rfl
  obtain ⟨fd_Row_over, G0_Row_over⟩ := c.def_ 33 (d := dd_Row_over) rfl
  have G_Row_over : GD K "over" "Row.over" s_Row_over (He.ma K (He.ga K "Row") "over") fd_Row_over := G0_Row_over
  have B_Row_over : Binds K fd_Row_over ["self", "pair", "sort", "days"] [] := G_Row_over.bindsN fun _ _ _ _ _ _ us hl => match us, hl with | [_, _, _, _], _ => rfl
  obtain ⟨fd_drift_of, G0_drift_of⟩ := c.def_ 34 (d := dd_drift_of) rfl
  have G_drift_of : GD K "drift_of" "drift_of" s_drift_of (He.ga K "drift_of") fd_drift_of := G0_drift_of
  have B_drift_of : Binds K fd_drift_of ["line", "sort", "days"] [] := G_drift_of.bindsN fun _ _ _ _ _ _ us hl => match us, hl with | [_, _, _], _ => rfl
  obtain ⟨fd_Table_marks_from, G0_Table_marks_from⟩ := c.def_ 35 (d := dd_Table_marks_from) rfl
  have G_Table_marks_from : GD K "marks_from" "Table.marks_from" s_Table_marks_from (He.ma K (He.ga K "Table") "marks_from") fd_Table_marks_from := G0_Table_marks_from
  have B_Table_marks_from : Binds K fd_Table_marks_from ["self", "owed"] [] := G_Table_marks_from.bindsN fun _ _ _ _ _ _ us hl => match us, hl with | [_, _], _ => rfl
  obtain ⟨fd_Table_init, G0_Table_init⟩ := c.def_ 36 (d := dd_Table_init) rfl
  have G_Table_init : GD K "__init__" "Table.__init__" s_Table_init (He.ma K (He.ga K "Table") "__init__") fd_Table_init := G0_Table_init
  have B_Table_init : Binds K fd_Table_init ["self", "calendar", "line", "charts"] [] := G_Table_init.bindsN fun _ _ _ _ _ _ us hl => match us, hl with | [_, _, _, _], _ => rfl
  obtain ⟨fd_House_row, G0_House_row⟩ := c.def_ 37 (d := dd_House_row) rfl
  have G_House_row : GD K "row" "House.row" s_House_row (He.ma K (He.ga K "House") "row") fd_House_row := G0_House_row
  have B_House_row : Binds K fd_House_row ["self", "name"] [] := G_House_row.bindsN fun _ _ _ _ _ _ us hl => match us, hl with | [_, _], _ => rfl
  obtain ⟨fd_House_sums, G0_House_sums⟩ := c.def_ 38 (d := dd_House_sums) rfl
  have G_House_sums : GD K "sums" "House.sums" s_House_sums (He.ma K (He.ga K "House") "sums") fd_House_sums := G0_House_sums
  have B_House_sums : Binds K fd_House_sums ["self", "name"] [] := G_House_sums.bindsN fun _ _ _ _ _ _ us hl => match us, hl with | [_, _], _ => rfl
  obtain ⟨fd_NeverDone_init, G0_NeverDone_init⟩ := c.def_ 39 (d := dd_NeverDone_init) rfl
  have G_NeverDone_init : GD K "__init__" "NeverDone.__init__" s_NeverDone_init (He.ma K (He.ga K "NeverDone") "__init__") fd_NeverDone_init := G0_NeverDone_init
  have B_NeverDone_init : Binds K fd_NeverDone_init ["self", "name", "due", "room"] [] := G_NeverDone_init.bindsN fun _ _ _ _ _ _ us hl => match us, hl with | [_, _, _, _], _ => rfl
  obtain ⟨fd_House_init, G0_House_init⟩ := c.def_ 40 (d := dd_House_init) rfl
  have G_House_init : GD K "__init__" "House.__init__" s_House_init (He.ma K (He.ga K "House") "__init__") fd_House_init := G0_House_init
  have B_House_init : Binds K fd_House_init ["self", "calendar", "feasts", "rows"] [] := G_House_init.bindsN fun _ _ _ _ _ _ us hl => match us, hl with | [_, _, _, _], _ => rfl
  obtain ⟨fd_Calendar_init, G0_Calendar_init⟩ := c.def_ 41 (d := dd_Calendar_init) rfl
  have G_Calendar_init : GD K "__init__" "Calendar.__init__" s_Calendar_init (He.ma K (He.ga K "Calendar") "__init__") fd_Calendar_init := G0_Calendar_init
  have B_Calendar_init : Binds K fd_Calendar_init ["self", "years"] [] := G_Calendar_init.bindsN fun _ _ _ _ _ _ us hl => match us, hl with | [_, _], _ => rfl
  obtain ⟨fd_House_calendar, G0_House_calendar⟩ := c.def_ 42 (d := dd_House_calendar) rfl
  have G_House_calendar : GD K "calendar" "House.calendar" s_House_calendar (He.ma K (He.ga K "House") "calendar") fd_House_calendar := G0_House_calendar
  have B_House_calendar : Binds K fd_House_calendar ["self"] [] := G_House_calendar.bindsN fun _ _ _ _ _ _ us hl => match us, hl with | [_], _ => rfl
  obtain ⟨fd_House_feasts, G0_House_feasts⟩ := c.def_ 43 (d := dd_House_feasts) rfl
  have G_House_feasts : GD K "feasts" "House.feasts" s_House_feasts (He.ma K (He.ga K "House") "feasts") fd_House_feasts := G0_House_feasts
  have B_House_feasts : Binds K fd_House_feasts ["self"] [] := G_House_feasts.bindsN fun _ _ _ _ _ _ us hl => match us, hl with | [_], _ => rfl
  obtain ⟨fd_feast_text, G0_feast_text⟩ := c.def_ 44 (d := dd_feast_text) rfl
  have G_feast_text : GD K "feast_text" "feast_text" s_feast_text (He.ga K "feast_text") fd_feast_text := G0_feast_text
  have B_feast_text : Binds K fd_feast_text ["feast"] [] := G_feast_text.bindsN fun _ _ _ _ _ _ us hl => match us, hl with | [_], _ => rfl
  obtain ⟨fd_House_rows, G0_House_rows⟩ := c.def_ 45 (d := dd_House_rows) rfl
  have G_House_rows : GD K "rows" "House.rows" s_House_rows (He.ma K (He.ga K "House") "rows") fd_House_rows := G0_House_rows
  have B_House_rows : Binds K fd_House_rows ["self"] [] := G_House_rows.bindsN fun _ _ _ _ _ _ us hl => match us, hl with | [_], _ => rfl
  obtain ⟨fd_Going_told, G0_Going_told⟩ := c.def_ 46 (d := dd_Going_told) rfl
  have G_Going_told : GD K "told" "Going.told" s_Going_told (He.ma K (He.ga K "Going") "told") fd_Going_told := G0_Going_told
  have B_Going_told : Binds K fd_Going_told ["self"] [] := G_Going_told.bindsN fun _ _ _ _ _ _ us hl => match us, hl with | [_], _ => rfl
  obtain ⟨fd_Yearly_told, G0_Yearly_told⟩ := c.def_ 47 (d := dd_Yearly_told) rfl
  have G_Yearly_told : GD K "told" "Yearly.told" s_Yearly_told (He.ma K (He.ga K "Yearly") "told") fd_Yearly_told := G0_Yearly_told
  have B_Yearly_told : Binds K fd_Yearly_told ["self"] [] := G_Yearly_told.bindsN fun _ _ _ _ _ _ us hl => match us, hl with | [_], _ => rfl
  obtain ⟨fd_house_text, G0_house_text⟩ := c.def_ 48 (d := dd_house_text) rfl
  have G_house_text : GD K "house_text" "house_text" s_house_text (He.ga K "house_text") fd_house_text := G0_house_text
  have B_house_text : Binds K fd_house_text ["house"] [] := G_house_text.bindsN fun _ _ _ _ _ _ us hl => match us, hl with | [_], _ => rfl
  obtain ⟨fd_law_texts, G0_law_texts⟩ := c.def_ 49 (d := dd_law_texts) rfl
  have G_law_texts : GD K "_law_texts" "_law_texts" s_law_texts (He.ga K "_law_texts") fd_law_texts := G0_law_texts
  have B_law_texts : Binds K fd_law_texts ["_law_house"] [] := G_law_texts.bindsN fun _ _ _ _ _ _ us hl => match us, hl with | [_], _ => rfl
  obtain ⟨fd_law, G0_law⟩ := c.def_ 50 (d := dd_law) rfl
  have G_law : GD K "law" "law" s_law (He.ga K "law") fd_law := G0_law
  have b := FunD.bindsA (ps := ["_law_script"]) G_law fun _ _ _ _ _ _ us hl => match us, hl with | [_], _ => rfl
  refine ⟨fd_law, fun s v => b s [v] rfl, fun base _ _ => ?_⟩
  have F_law_draw : FnOk P w K mg base (L2.CX P w) 1 _ fd_law_draw ["_law_hold", "_law_many"] (spD K (c_law_draw K)) := ok_law_draw G_law_draw q0
  have F_law_lengths : FnOk P w K mg base (L2.CX P w) 2 _ fd_law_lengths ["_law_hold", "_law_most", "_law_many"] (spD K (c_law_lengths K)) := ok_law_lengths G_law_lengths ⟨⟨F_law_draw, B_law_draw⟩, q1, G_law_draw.kp⟩ q2
  have F_law_name : FnOk P w K mg base (L2.CX P w) 2 _ fd_law_name ["_law_hold"] (spD K (c_law_name K)) := ok_law_name G_law_name ⟨⟨F_law_draw, B_law_draw⟩, q1, G_law_draw.kp⟩ q2
  have F_law_names : FnOk P w K mg base (L2.CX P w) 3 _ fd_law_names ["_law_hold", "_law_many"] (spD K (c_law_names K)) := ok_law_names G_law_names ⟨⟨F_law_name, B_law_name⟩, (He.glo_ok X G (c.fact 3 (f := .glo "_law_name") rfl)), G_law_name.kp⟩ q2
  have F_law_feast : FnOk P w K mg base (L2.CX P w) 2 _ fd_law_feast ["_law_hold", "_law_name_here", "_law_lengths_here", "_law_words"] (spD K (c_law_feast K)) := ok_law_feast G_law_feast ⟨⟨F_law_draw, B_law_draw⟩, q1, G_law_draw.kp⟩ q3 q0 q2 q4
  have F_law_line : FnOk P w K mg base (L2.CX P w) 2 _ fd_law_line ["_law_hold", "_law_word", "_law_lengths_here", "_law_tales"] (spD K (c_law_line K)) := ok_law_line G_law_line ⟨⟨F_law_draw, B_law_draw⟩, q1, G_law_draw.kp⟩ q0 q5
  have F_law_parts : FnOk P w K mg base (L2.CX P w) 4 _ fd_law_parts ["_law_hold"] (spD K (c_law_parts K)) := ok_law_parts G_law_parts ⟨⟨F_law_draw, B_law_draw⟩, q1, G_law_draw.kp⟩ ⟨⟨F_law_lengths, B_law_lengths⟩, (He.glo_ok X G (c.fact 7 (f := .glo "_law_lengths") rfl)), G_law_lengths.kp⟩ ⟨⟨F_law_names, B_law_names⟩, (He.glo_ok X G (c.fact 8 (f := .glo "_law_names") rfl)), G_law_names.kp⟩ ⟨⟨F_law_feast, B_law_feast⟩, (He.glo_ok X G (c.fact 9 (f := .glo "_law_feast") rfl)), G_law_feast.kp⟩ ⟨⟨F_law_line, B_law_line⟩, (He.glo_ok X G (c.fact 10 (f := .glo "_law_line") rfl)), G_law_line.kp⟩
  have F_is_name : FnOk P w K mg base (L2.CX P w) 1 _ fd_is_name ["thing"] (spD K (c_is_name K)) := ok_is_name G_is_name q6 q7 q0 (He.str_ok X G (c.fact 13 (f := .str "LETTERS" "abcdefghijklmnopqrstuvwxyz") rfl)) q8
  have F_is_number : FnOk P w K mg base (L2.CX P w) 1 _ fd_is_number ["thing", "least", "most"] (spD K (c_is_number K)) := ok_is_number G_is_number (He.free_ok X G (c.fact 15 (f := .free "int") rfl)) q7 (He.free_ok X G (c.fact 16 (f := .free "bool") rfl))
  have F_are_numbers : FnOk P w K mg base (L2.CX P w) 2 _ fd_are_numbers ["thing", "long", "least", "most"] (spD K (c_are_numbers K)) := ok_are_numbers G_are_numbers ⟨⟨F_is_number, B_is_number⟩, q9, G_is_number.kp⟩ q4 q7 q0 q8
  have F_good_years : FnOk P w K mg base (L2.CX P w) 3 _ fd_good_years ["years"] (spD K (c_good_years K)) := ok_good_years G_good_years ⟨⟨F_are_numbers, B_are_numbers⟩, q10, G_are_numbers.kp⟩ q0 q2 q8
  have F_is_put : FnOk P w K mg base (L2.CX P w) 2 _ fd_is_put ["pair"] (spD K (c_is_put K)) := ok_is_put G_is_put ⟨⟨F_is_name, B_is_name⟩, q11, G_is_name.kp⟩ (He.free_ok X G (c.fact 20 (f := .free "tuple") rfl)) q7 q0
  have F_good_puts : FnOk P w K mg base (L2.CX P w) 3 _ fd_good_puts ["puts"] (spD K (c_good_puts K)) := ok_good_puts G_good_puts ⟨⟨F_is_put, B_is_put⟩, (He.glo_ok X G (c.fact 21 (f := .glo "is_put") rfl)), G_is_put.kp⟩ q4 q7 q0 q8 q12
  have F_Feast_init : FnOk P w K mg base (L2.CX P w) 4 _ fd_Feast_init ["self", "name", "place", "days", "years", "puts"] (spD K (c_Feast_init K)) := ok_Feast_init G_Feast_init ⟨⟨F_is_name, B_is_name⟩, q11, G_is_name.kp⟩ ⟨⟨F_is_number, B_is_number⟩, q9, G_is_number.kp⟩ ⟨⟨F_good_years, B_good_years⟩, (He.glo_ok X G (c.fact 23 (f := .glo "good_years") rfl)), G_good_years.kp⟩ ⟨⟨F_good_puts, B_good_puts⟩, (He.glo_ok X G (c.fact 24 (f := .glo "good_puts") rfl)), G_good_puts.kp⟩ ⟨q13.1, He.glo_ok X G (c.fact 26 (f := .glo "BadFeast") rfl), q13.2.1, q13.2.2.1, q13.2.2.2⟩ q4 (⟨q14, q15, q16, q17, q18, q19⟩)
  have F_law_feast_made : FnOk P w K mg base (L2.CX P w) 6 _ fd_law_feast_made ["_law_some"] (spD K (c_law_feast_made K)) := ok_law_feast_made G_law_feast_made ⟨F_Feast_init, B_Feast_init⟩ (He.mkr_ok (c.fact 33 (f := .mkr "Feast") rfl)) q4 q20
  have F_Row_init : FnOk P w K mg base (L2.CX P w) 2 _ fd_Row_init ["self", "name", "pieces", "most"] (spD K (c_Row_init K)) := ok_Row_init G_Row_init ⟨⟨F_is_name, B_is_name⟩, q11, G_is_name.kp⟩ ⟨⟨F_is_number, B_is_number⟩, q9, G_is_number.kp⟩ ⟨q21.1, q22, q21.2.1, q21.2.2.1, q21.2.2.2⟩ (⟨q23, q24, q25, q26, q27, q28, q29, q30, q31⟩)
  have F_Going_init : FnOk P w K mg base (L2.CX P w) 3 _ fd_Going_init ["self", "name", "many", "most", "begin"] (spD K (c_Going_init K)) := ok_Going_init G_Going_init ⟨F_Row_init, B_Row_init⟩ ⟨⟨F_is_number, B_is_number⟩, q9, G_is_number.kp⟩ q32 (clsFnB_ok (exAll_at cx 0 (e := clsFnB "Row" "__init__") rfl)) ⟨q21.1, q22, q21.2.1, q21.2.2.1, q21.2.2.2⟩ (⟨q23, q24, q25, q26, q27, q28, q29, q30, q31⟩)
  have F_Yearly_init : FnOk P w K mg base (L2.CX P w) 3 _ fd_Yearly_init ["self", "name", "many", "most"] (spD K (c_Yearly_init K)) := ok_Yearly_init G_Yearly_init ⟨F_Row_init, B_Row_init⟩ q32 (clsFnB_ok (exAll_at cx 0 (e := clsFnB "Row" "__init__") rfl)) (⟨q23, q24, q25, q26, q27, q28, q29, q30, q31⟩)
  have F_law_line_made : FnOk P w K mg base (L2.CX P w) 5 _ fd_law_line_made ["_law_line_here"] (spD K (c_law_line_made K)) := ok_law_line_made G_law_line_made ⟨F_Going_init, B_Going_init⟩ (He.mkr_ok (c.fact 47 (f := .mkr "Going") rfl)) ⟨F_Yearly_init, B_Yearly_init⟩ (He.mkr_ok (c.fact 48 (f := .mkr "Yearly") rfl)) (He.glo_ok X G (c.fact 49 (f := .glo "Going") rfl)) (He.glo_ok X G (c.fact 50 (f := .glo "Yearly") rfl))
  have F_are_unlike : FnOk P w K mg base (L2.CX P w) 1 _ fd_are_unlike ["names"] (spD K (c_are_unlike K)) := ok_are_unlike G_are_unlike q0 q12
  have F_Feast_told : FnOk P w K mg base (L2.CX P w) 1 _ fd_Feast_told ["self"] (spD K (c_Feast_told K)) := ok_Feast_told G_Feast_told q4 (⟨q14, q15, q16, q17, q18, q19⟩)
  have F_Calendar_years : FnOk P w K mg base (L2.CX P w) 1 _ fd_Calendar_years ["self"] (spD K (c_Calendar_years K)) := ok_Calendar_years G_Calendar_years q4 (⟨q33, q34, q35, q36⟩)
  have F_is_house : FnOk P w K mg base (L2.CX P w) 2 _ fd_is_house ["calendar", "feasts", "rows"] (spD K (c_is_house K)) := ok_is_house G_is_house ⟨⟨F_are_unlike, B_are_unlike⟩, (He.glo_ok X G (c.fact 55 (f := .glo "are_unlike") rfl)), G_are_unlike.kp⟩ ⟨F_Feast_told, B_Feast_told⟩ ⟨F_Calendar_years, B_Calendar_years⟩ q37 q7 q4 q0 q20 q8 q32 q14 q38 q33 q39 (⟨q23, q24, q25, q26, q27, q28, q29, q30, q31⟩) (⟨obtB_ok q23 (exAll_at cx 1 (e := obtB "Going") rfl), obtB_ok q24 (exAll_at cx 2 (e := obtB "Yearly") rfl), isB_ok (exAll_at cx 3 (e := isB "Going" "Row" true) rfl), isB_ok (exAll_at cx 4 (e := isB "Yearly" "Row" true) rfl), obtB_ok q33 (exAll_at cx 5 (e := obtB "Calendar") rfl), isB_ok (exAll_at cx 6 (e := isB "Calendar" "Calendar" true) rfl), obtB_ok q14 (exAll_at cx 7 (e := obtB "Feast") rfl), isB_ok (exAll_at cx 8 (e := isB "Feast" "Feast" true) rfl)⟩)
  have F_need_day : FnOk P w K mg base (L2.CX P w) 1 _ fd_need_day ["number"] (spD K (c_need_day K)) := ok_need_day G_need_day ⟨q40.1, He.glo_ok X G (c.fact 60 (f := .glo "NoDay") rfl), q40.2.1, q40.2.2.1, q40.2.2.2⟩
  have F_Calendar_first : FnOk P w K mg base (L2.CX P w) 2 _ fd_Calendar_first ["self", "year"] (spD K (c_Calendar_first K)) := ok_Calendar_first G_Calendar_first ⟨⟨F_need_day, B_need_day⟩, q41, G_need_day.kp⟩ q0 (He.free_ok X G (c.fact 62 (f := .free "divmod") rfl)) (⟨q33, q34, q35, q36⟩)
  have F_Calendar_long : FnOk P w K mg base (L2.CX P w) 2 _ fd_Calendar_long ["self", "year"] (spD K (c_Calendar_long K)) := ok_Calendar_long G_Calendar_long ⟨⟨F_need_day, B_need_day⟩, q41, G_need_day.kp⟩ q0 (⟨q33, q34, q35, q36⟩)
  have F_Feast_span : FnOk P w K mg base (L2.CX P w) 3 _ fd_Feast_span ["self", "calendar", "year"] (spD K (c_Feast_span K)) := ok_Feast_span G_Feast_span ⟨⟨F_need_day, B_need_day⟩, q41, G_need_day.kp⟩ ⟨F_Calendar_years, B_Calendar_years⟩ ⟨F_Calendar_long, B_Calendar_long⟩ ⟨F_Calendar_first, B_Calendar_first⟩ q33 q39 q0 q42 q43 q44 (⟨q14, q15, q16, q17, q18, q19⟩)
  have F_sort_at : FnOk P w K mg base (L2.CX P w) 1 _ fd_sort_at ["spans", "place"] (spD K (c_sort_at K)) := ok_sort_at G_sort_at 
  have F_year_chart : FnOk P w K mg base (L2.CX P w) 4 _ fd_year_chart ["calendar", "feasts", "name", "year"] (spD K (c_year_chart K)) := ok_year_chart G_year_chart ⟨F_Calendar_first, B_Calendar_first⟩ ⟨F_Feast_span, B_Feast_span⟩ ⟨F_Feast_told, B_Feast_told⟩ ⟨F_Calendar_long, B_Calendar_long⟩ ⟨⟨F_sort_at, B_sort_at⟩, (He.glo_ok X G (c.fact 66 (f := .glo "sort_at") rfl)), G_sort_at.kp⟩ q33 q43 q14 (He.meth_ok (c.fact 67 (f := .meth "Feast" "span") rfl)) q38 (He.free_ok X G (c.fact 68 (f := .free "dict") rfl)) q42 (He.free_ok X G (c.fact 69 (f := .free "sorted") rfl)) q12 (He.free_ok X G (c.fact 70 (f := .free "zip") rfl))
  have F_Row_begins_anew : FnOk P w K mg base (L2.CX P w) 1 _ fd_Row_begins_anew ["self"] (spD K (c_Row_begins_anew K)) := ok_Row_begins_anew G_Row_begins_anew 
  have F_Yearly_begins_anew : FnOk P w K mg base (L2.CX P w) 1 _ fd_Yearly_begins_anew ["self"] (spD K (c_Yearly_begins_anew K)) := ok_Yearly_begins_anew G_Yearly_begins_anew 
  have F_Row_coming : FnOk P w K mg base (L2.CX P w) 1 _ fd_Row_coming ["self", "due", "days"] (spD K (c_Row_coming K)) := ok_Row_coming G_Row_coming 
  have F_Yearly_coming : FnOk P w K mg base (L2.CX P w) 1 _ fd_Yearly_coming ["self", "due", "days"] (spD K (c_Yearly_coming K)) := ok_Yearly_coming G_Yearly_coming q44 (⟨q23, q24, q25, q26, q27, q28, q29, q30, q31⟩)
  have F_Row_over : FnOk P w K mg base (L2.CX P w) 2 _ fd_Row_over ["self", "pair", "sort", "days"] (spD K (c_Row_over K)) := ok_Row_over G_Row_over ⟨F_Row_coming, B_Row_coming⟩ ⟨F_Yearly_coming, B_Yearly_coming⟩ q23 (by have z := He.meth_ok (c.fact 71 (f := .meth "Going" "coming") rfl); rw [sameM_ok (exAll_at cx 9 (e := sameM "Going" "Row" "coming") rfl)] at z; exact z) q24 (He.meth_ok (c.fact 72 (f := .meth "Yearly" "coming") rfl)) q3 (⟨q23, q24, q25, q26, q27, q28, q29, q30, q31⟩)
  have F_drift_of : FnOk P w K mg base (L2.CX P w) 1 _ fd_drift_of ["line", "sort", "days"] (spD K (c_drift_of K)) := ok_drift_of G_drift_of (⟨q23, q24, q25, q26, q27, q28, q29, q30, q31⟩)
  have F_Table_marks_from : FnOk P w K mg base (L2.CX P w) 3 _ fd_Table_marks_from ["self", "owed"] (spD K (c_Table_marks_from K)) := ok_Table_marks_from G_Table_marks_from ⟨F_Row_begins_anew, B_Row_begins_anew⟩ ⟨F_Yearly_begins_anew, B_Yearly_begins_anew⟩ ⟨F_Row_over, B_Row_over⟩ ⟨⟨F_drift_of, B_drift_of⟩, (He.glo_ok X G (c.fact 73 (f := .glo "drift_of") rfl)), G_drift_of.kp⟩ q23 (by have z := q45; rw [sameM_ok (exAll_at cx 10 (e := sameM "Going" "Row" "begins_anew") rfl)] at z; exact z) q24 q46 (by have z := He.meth_ok (c.fact 76 (f := .meth "Going" "over") rfl); rw [sameM_ok (exAll_at cx 11 (e := sameM "Going" "Row" "over") rfl)] at z; exact z) (by have z := He.meth_ok (c.fact 77 (f := .meth "Yearly" "over") rfl); rw [sameM_ok (exAll_at cx 12 (e := sameM "Yearly" "Row" "over") rfl)] at z; exact z) (⟨q23, q24, q25, q26, q27, q28, q29, q30, q31⟩) (⟨q47, q48, q49, q50, q51, q52, q53, q54⟩)
  have F_Table_init : FnOk P w K mg base (L2.CX P w) 4 _ fd_Table_init ["self", "calendar", "line", "charts"] (spD K (c_Table_init K)) := ok_Table_init G_Table_init ⟨F_Table_marks_from, B_Table_marks_from⟩ ⟨F_Row_begins_anew, B_Row_begins_anew⟩ ⟨F_Yearly_begins_anew, B_Yearly_begins_anew⟩ q47 (He.meth_ok (c.fact 86 (f := .meth "Table" "marks_from") rfl)) q23 (by have z := q45; rw [sameM_ok (exAll_at cx 10 (e := sameM "Going" "Row" "begins_anew") rfl)] at z; exact z) q24 q46 (⟨q23, q24, q25, q26, q27, q28, q29, q30, q31⟩) (⟨q47, q48, q49, q50, q51, q52, q53, q54⟩)
  have F_House_row : FnOk P w K mg base (L2.CX P w) 1 _ fd_House_row ["self", "name"] (spD K (c_House_row K)) := ok_House_row G_House_row ⟨q55.1, He.glo_ok X G (c.fact 88 (f := .glo "NoRow") rfl), q55.2.1, q55.2.2.1, q55.2.2.2⟩ (⟨q23, q24, q25, q26, q27, q28, q29, q30, q31⟩) (⟨q56, q57, q58, q59, q60, q61⟩)
  have F_House_sums : FnOk P w K mg base (L2.CX P w) 2 _ fd_House_sums ["self", "name"] (spD K (c_House_sums K)) := ok_House_sums G_House_sums ⟨F_House_row, B_House_row⟩ q5 q56 (He.meth_ok (c.fact 95 (f := .meth "House" "row") rfl)) (⟨q23, q24, q25, q26, q27, q28, q29, q30, q31⟩) (⟨q56, q57, q58, q59, q60, q61⟩)
  have F_NeverDone_init : FnOk P w K mg base (L2.CX P w) 1 _ fd_NeverDone_init ["self", "name", "due", "room"] (spX (He.ga K "NeverDone") ["name", "due", "room"]) := ok_NeverDone_init G_NeverDone_init (He.glo_ok X G (c.fact 96 (f := .glo "ReadError") rfl)) (reiB_ok (exAll_at cx 13 (e := reiB "ReadError") rfl)) (kxfB_ok (exAll_at cx 14 (e := kxfB "NeverDone" ["name", "due", "room"]) rfl))
  have F_House_init : FnOk P w K mg base (L2.CX P w) 6 _ fd_House_init ["self", "calendar", "feasts", "rows"] (spD K (c_House_init K)) := ok_House_init G_House_init ⟨⟨F_is_house, B_is_house⟩, (He.glo_ok X G (c.fact 97 (f := .glo "is_house") rfl)), G_is_house.kp⟩ ⟨F_Calendar_years, B_Calendar_years⟩ ⟨⟨F_year_chart, B_year_chart⟩, (He.glo_ok X G (c.fact 98 (f := .glo "year_chart") rfl)), G_year_chart.kp⟩ ⟨F_Table_init, B_Table_init⟩ (He.mkr_ok (c.fact 99 (f := .mkr "Table") rfl)) ⟨F_House_sums, B_House_sums⟩ ⟨F_Row_begins_anew, B_Row_begins_anew⟩ ⟨F_Yearly_begins_anew, B_Yearly_begins_anew⟩ F_NeverDone_init B_NeverDone_init ⟨q62.1, He.glo_ok X G (c.fact 101 (f := .glo "BadHouse") rfl), q62.2.1, q62.2.2.1, q62.2.2.2⟩ q4 q33 q39 q0 q2 (He.glo_ok X G (c.fact 102 (f := .glo "Table") rfl)) q56 (He.meth_ok (c.fact 103 (f := .meth "House" "sums") rfl)) q23 (by have z := q45; rw [sameM_ok (exAll_at cx 10 (e := sameM "Going" "Row" "begins_anew") rfl)] at z; exact z) q24 q46 (He.glo_ok X G (c.fact 104 (f := .glo "NeverDone") rfl)) (kxfB_ok (exAll_at cx 14 (e := kxfB "NeverDone" ["name", "due", "room"]) rfl)) (He.meth_ok (c.fact 105 (f := .meth "NeverDone" "__init__") rfl)) (⟨q23, q24, q25, q26, q27, q28, q29, q30, q31⟩) (⟨q56, q57, q58, q59, q60, q61⟩)
  have F_Calendar_init : FnOk P w K mg base (L2.CX P w) 3 _ fd_Calendar_init ["self", "years"] (spD K (c_Calendar_init K)) := ok_Calendar_init G_Calendar_init ⟨⟨F_are_numbers, B_are_numbers⟩, q10, G_are_numbers.kp⟩ ⟨q63.1, He.glo_ok X G (c.fact 107 (f := .glo "BadCalendar") rfl), q63.2.1, q63.2.2.1, q63.2.2.2⟩ q4 (⟨q33, q34, q35, q36⟩)
  have F_House_calendar : FnOk P w K mg base (L2.CX P w) 1 _ fd_House_calendar ["self"] (spD K (c_House_calendar K)) := ok_House_calendar G_House_calendar (⟨q56, q57, q58, q59, q60, q61⟩)
  have F_House_feasts : FnOk P w K mg base (L2.CX P w) 1 _ fd_House_feasts ["self"] (spD K (c_House_feasts K)) := ok_House_feasts G_House_feasts q4 (⟨q56, q57, q58, q59, q60, q61⟩)
  have F_feast_text : FnOk P w K mg base (L2.CX P w) 2 _ fd_feast_text ["feast"] (spD K (c_feast_text K)) := ok_feast_text G_feast_text ⟨F_Feast_told, B_Feast_told⟩ q14 q38 q6 (⟨q14, q15, q16, q17, q18, q19⟩)
  have F_House_rows : FnOk P w K mg base (L2.CX P w) 1 _ fd_House_rows ["self"] (spD K (c_House_rows K)) := ok_House_rows G_House_rows q4 (⟨q56, q57, q58, q59, q60, q61⟩)
  have F_Going_told : FnOk P w K mg base (L2.CX P w) 1 _ fd_Going_told ["self"] (spD K (c_Going_told K)) := ok_Going_told G_Going_told (⟨q23, q24, q25, q26, q27, q28, q29, q30, q31⟩)
  have F_Yearly_told : FnOk P w K mg base (L2.CX P w) 1 _ fd_Yearly_told ["self"] (spD K (c_Yearly_told K)) := ok_Yearly_told G_Yearly_told (⟨q23, q24, q25, q26, q27, q28, q29, q30, q31⟩)
  have F_house_text : FnOk P w K mg base (L2.CX P w) 3 _ fd_house_text ["house"] (spD K (c_house_text K)) := ok_house_text G_house_text ⟨F_House_calendar, B_House_calendar⟩ ⟨F_Calendar_years, B_Calendar_years⟩ ⟨F_House_feasts, B_House_feasts⟩ ⟨⟨F_feast_text, B_feast_text⟩, (He.glo_ok X G (c.fact 108 (f := .glo "feast_text") rfl)), G_feast_text.kp⟩ ⟨F_House_rows, B_House_rows⟩ ⟨F_Going_told, B_Going_told⟩ ⟨F_Yearly_told, B_Yearly_told⟩ q56 (He.meth_ok (c.fact 109 (f := .meth "House" "calendar") rfl)) q33 q39 q6 (He.meth_ok (c.fact 110 (f := .meth "House" "feasts") rfl)) (He.meth_ok (c.fact 111 (f := .meth "House" "rows") rfl)) q23 (He.meth_ok (c.fact 112 (f := .meth "Going" "told") rfl)) q24 (He.meth_ok (c.fact 113 (f := .meth "Yearly" "told") rfl)) (⟨q56, q57, q58, q59, q60, q61⟩)
  have F_law_texts : FnOk P w K mg base (L2.CX P w) 1 _ fd_law_texts ["_law_house"] (spD K (c_law_texts K)) := ok_law_texts G_law_texts q6
  exact ok_law (base := base) G_law ⟨⟨F_law_parts, B_law_parts⟩, (He.glo_ok X G (c.fact 114 (f := .glo "_law_parts") rfl)), G_law_parts.kp⟩ ⟨⟨F_law_feast_made, B_law_feast_made⟩, (He.glo_ok X G (c.fact 115 (f := .glo "_law_feast_made") rfl)), G_law_feast_made.kp⟩ ⟨⟨F_law_line_made, B_law_line_made⟩, (He.glo_ok X G (c.fact 116 (f := .glo "_law_line_made") rfl)), G_law_line_made.kp⟩ ⟨F_House_init, B_House_init⟩ (He.mkr_ok (c.fact 117 (f := .mkr "House") rfl)) ⟨F_Calendar_init, B_Calendar_init⟩ (He.mkr_ok (c.fact 118 (f := .mkr "Calendar") rfl)) ⟨⟨F_house_text, B_house_text⟩, (He.glo_ok X G (c.fact 119 (f := .glo "house_text") rfl)), G_house_text.kp⟩ ⟨⟨F_law_texts, B_law_texts⟩, (He.glo_ok X G (c.fact 120 (f := .glo "_law_texts") rfl)), G_law_texts.kp⟩ ⟨⟨F_law_draw, B_law_draw⟩, q1, G_law_draw.kp⟩ q4 q0 q44 q3 q2 q37 (He.glo_ok X G (c.fact 121 (f := .glo "House") rfl)) q7
end Dl
open PySem PySem.W PySem.Calls PyProof.Rows
set_option maxRecDepth 100000
set_option maxHeartbeats 0
theorem PySem.Challenge.cw_readround_k75_house_texts_holds : PySem.Challenge.rw_readround_k75_house_texts.Holds := by
  refine Dl.lawOf ?hc
  case hc =>
    refine Dl.walk_ofW (l := PySem.Challenge.rw_readround_k75_house_texts) (n := 63) (k := 8) (x := "_law_script") rfl (by decide) Dl.law_dflt ⟨rfl, by decide, by decide⟩ ?F
    intro w mg fa h Y G hmg0
    obtain ⟨K, KX, c, cx⟩ := Y
    have hmg : mg ("law" : PySem.Str) = some (.ref fa) := by
      rw [← Dl.law_name]
      exact hmg0
    obtain ⟨fd, hb, hF⟩ := Dl.facts (P := (PySem.Challenge.rw_readround_k75_house_texts).prog) (w := w) KX G hmg c cx
    exact ⟨K, fd, _, KX, hb, fun H a ns hl hO hS => Dl.law_sp hS ⟨ns, rfl, hl, fun _ => rfl⟩, hF⟩
