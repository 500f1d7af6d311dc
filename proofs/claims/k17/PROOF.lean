import PyProof.Rows.All
import Wide.All
import OpenK.AllK
import Wide.FinOn
import HandS.ForMost
import HandS.ForExc
import HandS.Lambda
import HandS.IsInst
import HandS.Wide
import HandS.Defaults
import HandS.Zip
import HandS.Strs
import HandS.Style
import HandS.HeadHook2
import HandS.Ends
import HandS.HeadEnd
import HandS.Head2
import PyProof.Rows.SetListFold
import HandS.Conv
import HandS.Text
import HandS.NoneIn
import HandS.Codes
import PyProof.LongRange
import HandS.SortKw
import KE.DataMinMax
import PyProof.ListRange
import HandS.SetFor
import HandS.ExcIs
import HandS.ExcInit
import HandS.ExcField
import HandS.CallSlots
import HandS.Iter
import HandS.HeadHook4
import HandS.HeadWalk
import HandS.Deep
import HandS.DictComp
import HandS.SortInts
import HandS.More
import PyProof.InstEq
import HandS.DictTup
import HandS.TupLen
import KE.KeyNested
import KE.SortData
import HandS.TryMany
import KE.KDictSum
import HandS.RevRange
import HandS.RaiseMore
import KE.KIntText
import HandS.MakeKw
import HandS.MakeKwOnly
import HandS.TupLe
import HandS.TupSets
import KE.KDictZip
import HandS.ListItems
import PyProof.ReprRoads
import KE.DataCmp
import PySem.Challenge.RW_readround_k17_feasts_told
set_option Elab.async false
set_option linter.all false
set_option maxRecDepth 100000
/-! Dl: a layer of data over the hand layer's readings: what is frozen is told as data (D), what may still change stands in a list (Mu) -/
namespace Dl
open PySem L2
/-- data -/
inductive D where
  | non | bl (b : Bool) | int (i : Int) | str (x : Str) | ty (n : String)
  | tup (xs : List D) | lst (xs : List D)
  /-- a list, a tuple that is read alone (the script, a written one) -/
  | rdl (xs : List D) | rdt (xs : List D)
  | obj (C : Addr) (fs : List (Str × D))
  | dct (kvs : List (Key × D))
  /-- the k-th thing that may change -/
  | own (k : Nat)
  /-- an object of the written part -/
  | loc (a : Addr)
  /-- a caught exception: its class, its fields -/
  | exc (C : Addr) (fs : List (Str × D))
deriving Inhabited
/-- a caught exception in the heap: its class, its own dict -/
def ExV (cls : Value) (d : Option Addr) (a : Addr) : HO := .ext fun h => ∃ (oe : Obj) (vs : Array Value), h.get? a = some oe ∧ Zc cls d oe ∧ oe.data = .fields vs
/-- the own dict of an exception -/
def ExD (G : Hp) (d : Option Addr) (fs : List (Str × V)) : Prop := (d = none ∧ fs = []) ∨ ∃ dx, d = some dx ∧ G dx = some (.xd fs)
theorem ExD.mono {G G' : Hp} (s : Same G G') {d : Option Addr} {fs : List (Str × V)} (h : ExD G d fs) : ExD G' d fs := h.imp id fun ⟨dx, e, g⟩ => ⟨dx, e, s _ _ g⟩
/-- what a thing that may change is now -/
inductive MO where
  | dead
  | lst (xs : List D)
  | ins (C : Addr) (fs : List (Str × D))
  | dK (kvs : List (Key × D))
  | dT (kvs : List (List Key × D))
  /-- the table at p of code objects of the name q -/
  | tab (p : Addr) (q : Str)
deriving Inhabited
abbrev Mu := List MO
abbrev En := List (Option D)
section
variable (K : PySem.W.Frag) (G : Hp) (al : List Addr)
mutual
inductive Rp : V → D → Prop
  | non : Rp .non .non
  | bl (b : Bool) : Rp (.bl b) (.bl b)
  | int (i : Int) : Rp (.int i) (.int i)
  | str (x : Str) : Rp (.str x) (.str x)
  | ty (n : String) : Rp (.ty n) (.ty n)
  | tup {a : Addr} {vs : List V} {ds : List D} : G a = some (.tup vs) → Rps vs ds → Rp (.ref a) (.tup ds)
  | lst {a : Addr} {vs : List V} {ds : List D} : G a = some (.lst vs) → Rps vs ds → Rp (.ref a) (.lst ds)
  | rdl {a : Addr} {vs : List V} {ds : List D} : SqL K G a vs → Rps vs ds → Rp (.ref a) (.rdl ds)
  | rdt {a : Addr} {vs : List V} {ds : List D} : SqT K G a vs → Rps vs ds → Rp (.ref a) (.rdt ds)
  | obj {a C dx : Addr} {fs : List (Str × V)} {gs : List (Str × D)} : G a = some (.ins C dx fs) → Rpf fs gs → Rp (.ref a) (.obj C gs)
  | dct {a : Addr} {kvs : List (Key × V)} {gs : List (Key × D)} : Rd G a (.dK kvs) → Rpk kvs gs → Rp (.ref a) (.dct gs)
  | own {a : Addr} {k : Nat} : al[k]? = some a → Rp (.ref a) (.own k)
  | loc (a : Addr) : Rp (.ref a) (.loc a)
  | exc {a C : Addr} {dd : Option Addr} {fs : List (Str × V)} {gs : List (Str × D)} : G a = some (ExV (.ref C) dd a) → ExD G dd fs → Rpf fs gs → Rp (.ref a) (.exc C gs)
inductive Rps : List V → List D → Prop
  | nil : Rps [] []
  | cons {v : V} {vs : List V} {d : D} {ds : List D} : Rp v d → Rps vs ds → Rps (v :: vs) (d :: ds)
inductive Rpf : List (Str × V) → List (Str × D) → Prop
  | nil : Rpf [] []
  | cons {f : Str} {v : V} {vs : List (Str × V)} {d : D} {ds : List (Str × D)} : Rp v d → Rpf vs ds → Rpf ((f, v) :: vs) ((f, d) :: ds)
inductive Rpk : List (Key × V) → List (Key × D) → Prop
  | nil : Rpk [] []
  | cons {f : Key} {v : V} {vs : List (Key × V)} {d : D} {ds : List (Key × D)} : Rp v d → Rpk vs ds → Rpk ((f, v) :: vs) ((f, d) :: ds)
end
end
theorem rd_mono {H H' : Hp} {a : Addr} {u : HO} (s : Same H H') (h : Rd H a u) : Rd H' a u := by
  rcases h with h | ⟨o, h⟩
  · exact .inl (s _ _ h)
  · exact .inr ⟨o, s _ _ h⟩
theorem sql_mono {K : PySem.W.Frag} {H H' : Hp} {a : Addr} {xs : List V} (e : Same H H') (h : SqL K H a xs) : SqL K H' a xs := e.seq h
theorem sqt_mono {K : PySem.W.Frag} {H H' : Hp} {a : Addr} {xs : List V} (e : Same H H') (h : SqT K H a xs) : SqT K H' a xs := by
  rcases h with (h | ⟨o, h⟩) | h
  · exact .inl (.inl (e _ _ h))
  · exact .inl (.inr ⟨o, e _ _ h⟩)
  · exact .inr h
/-- al' goes on from al -/
def Pre (al al' : List Addr) : Prop := ∃ be, al' = al ++ be
theorem Pre.refl (al : List Addr) : Pre al al := ⟨[], by simp⟩
theorem Pre.trans {a b c : List Addr} (h : Pre a b) (h' : Pre b c) : Pre a c := by
  obtain ⟨x, rfl⟩ := h
  obtain ⟨y, rfl⟩ := h'
  exact ⟨x ++ y, by simp⟩
theorem Pre.get {al al' : List Addr} (h : Pre al al') {k : Nat} {a : Addr} (e : al[k]? = some a) : al'[k]? = some a := by
  obtain ⟨x, rfl⟩ := h
  rw [List.getElem?_append_left (List.getElem?_eq_some_iff.mp e).1]
  exact e
section
variable {K : PySem.W.Frag} {G G' : Hp} {al al' : List Addr}
mutual
theorem Rp.mono (s : Same G G') (p : Pre al al') : ∀ {v : V} {d : D}, Rp K G al v d → Rp K G' al' v d
  | _, _, .non => .non
  | _, _, .bl b => .bl b
  | _, _, .int i => .int i
  | _, _, .str x => .str x
  | _, _, .ty x => .ty x
  | _, _, .tup h r => .tup (s _ _ h) (Rps.mono s p r)
  | _, _, .lst h r => .lst (s _ _ h) (Rps.mono s p r)
  | _, _, .rdl h r => .rdl (sql_mono s h) (Rps.mono s p r)
  | _, _, .rdt h r => .rdt (sqt_mono s h) (Rps.mono s p r)
  | _, _, .obj h r => .obj (s _ _ h) (Rpf.mono s p r)
  | _, _, .dct h r => .dct (rd_mono s h) (Rpk.mono s p r)
  | _, _, .own h => .own (p.get h)
  | _, _, .loc a => .loc a
  | _, _, .exc h hd r => .exc (s _ _ h) (hd.mono s) (Rpf.mono s p r)
theorem Rps.mono (s : Same G G') (p : Pre al al') : ∀ {v : List V} {d : List D}, Rps K G al v d → Rps K G' al' v d
  | _, _, .nil => .nil
  | _, _, .cons h r => .cons (Rp.mono s p h) (Rps.mono s p r)
theorem Rpf.mono (s : Same G G') (p : Pre al al') : ∀ {v : List (Str × V)} {d : List (Str × D)}, Rpf K G al v d → Rpf K G' al' v d
  | _, _, .nil => .nil
  | _, _, .cons h r => .cons (Rp.mono s p h) (Rpf.mono s p r)
theorem Rpk.mono (s : Same G G') (p : Pre al al') : ∀ {v : List (Key × V)} {d : List (Key × D)}, Rpk K G al v d → Rpk K G' al' v d
  | _, _, .nil => .nil
  | _, _, .cons h r => .cons (Rp.mono s p h) (Rpk.mono s p r)
end
theorem Rps.length {vs : List V} {ds : List D} (h : Rps K G al vs ds) : vs.length = ds.length := by
  induction ds generalizing vs with
  | nil => cases h; rfl
  | cons d ds ih => cases h with | cons _ r => simp [ih r]
theorem Rps.get {vs : List V} {ds : List D} (h : Rps K G al vs ds) : ∀ {i : Nat} {d : D}, ds[i]? = some d → ∃ v, vs[i]? = some v ∧ Rp K G al v d := by
  induction ds generalizing vs with
  | nil => intro i d e; simp at e
  | cons x xs ih =>
    intro i d e
    cases h with
    | cons r t =>
      cases i with
      | zero => simp at e; subst e; exact ⟨_, rfl, r⟩
      | succ i => simp at e; simpa using ih t e
theorem Rps.getV {vs : List V} {ds : List D} (h : Rps K G al vs ds) {i : Nat} {v : V} (e : vs[i]? = some v) : ∃ d, ds[i]? = some d ∧ Rp K G al v d := by
  have hi : i < ds.length := by rw [← h.length]; exact (List.getElem?_eq_some_iff.mp e).1
  obtain ⟨w, e2, r⟩ := h.get (List.getElem?_eq_getElem hi)
  rw [e] at e2; cases e2
  exact ⟨_, List.getElem?_eq_getElem hi, r⟩
theorem Rps.append {vs ws : List V} {ds es : List D} (h : Rps K G al vs ds) (h' : Rps K G al ws es) : Rps K G al (vs ++ ws) (ds ++ es) := by
  induction ds generalizing vs with
  | nil => cases h; exact h'
  | cons d ds ih => cases h with | cons r t => exact .cons r (ih t)
theorem Rps.take {vs : List V} {ds : List D} (h : Rps K G al vs ds) (n : Nat) : Rps K G al (vs.take n) (ds.take n) := by
  induction n generalizing vs ds with
  | zero => simp; exact .nil
  | succ n ih => cases h with
    | nil => simp; exact .nil
    | cons r t => simpa using .cons r (ih t)
theorem Rps.drop {vs : List V} {ds : List D} (h : Rps K G al vs ds) (n : Nat) : Rps K G al (vs.drop n) (ds.drop n) := by
  induction n generalizing vs ds with
  | zero => simpa using h
  | succ n ih => cases h with
    | nil => simp; exact .nil
    | cons r t => simpa using ih t
theorem Rps.reverse {vs : List V} {ds : List D} (h : Rps K G al vs ds) : Rps K G al vs.reverse ds.reverse := by
  induction ds generalizing vs with
  | nil => cases h; exact .nil
  | cons d ds ih => cases h with | cons r t => simpa using (ih t).append (.cons r .nil)
theorem Rps.set {vs : List V} {ds : List D} (h : Rps K G al vs ds) (i : Nat) {v : V} {d : D} (r : Rp K G al v d) : Rps K G al (vs.set i v) (ds.set i d) := by
  induction ds generalizing vs i with
  | nil => cases h; simp; exact .nil
  | cons x xs ih => cases h with
    | cons r' t => cases i with
      | zero => exact .cons r t
      | succ i => exact .cons r' (ih t i)
theorem Rps.of_ints : ∀ (ns : List Int), Rps K G al (ns.map V.int) (ns.map D.int)
  | [] => .nil
  | n :: ns => .cons (.int n) (Rps.of_ints ns)
theorem Rps.bools : ∀ {vs : List V} {ns : List Bool}, Rps K G al vs (ns.map D.bl) → vs = ns.map V.bl
  | _, [], h => by cases h; rfl
  | _, n :: ns, h => by
    cases h with
    | cons r t => cases r; rw [Rps.bools (ns := ns) t]; rfl
theorem Rps.strs : ∀ {vs : List V} {ns : List Str}, Rps K G al vs (ns.map D.str) → vs = ns.map V.str
  | _, [], h => by cases h; rfl
  | _, n :: ns, h => by
    cases h with
    | cons r t => cases r; rw [Rps.strs (ns := ns) t]; rfl
theorem Rpf.look {fs : List (Str × V)} {gs : List (Str × D)} (h : Rpf K G al fs gs) {f : Str} {d : D} (e : gs.lookup f = some d) : ∃ v, fs.lookup f = some v ∧ Rp K G al v d := by
  induction gs generalizing fs with
  | nil => simp at e
  | cons x xs ih =>
    cases h with
    | cons r t =>
      rw [List.lookup_cons] at e ⊢
      split at e
      · cases e; exact ⟨_, rfl, r⟩
      · exact ih t e
theorem Rpf.none {fs : List (Str × V)} {gs : List (Str × D)} (h : Rpf K G al fs gs) {f : Str} (e : gs.lookup f = Option.none) : fs.lookup f = Option.none := by
  induction gs generalizing fs with
  | nil => cases h; rfl
  | cons x xs ih =>
    cases h with
    | cons r t =>
      rw [List.lookup_cons] at e ⊢
      split at e
      · cases e
      · exact ih t e
theorem Rpf.length {fs : List (Str × V)} {gs : List (Str × D)} (h : Rpf K G al fs gs) : fs.length = gs.length := by
  induction gs generalizing fs with
  | nil => cases h; rfl
  | cons d ds ih => cases h with | cons _ r => simp [ih r]
end
/-- a field put -/
def putD (f : Str) (v : D) : List (Str × D) → List (Str × D)
  | [] => [(f, v)]
  | (g, x) :: r => if g = f then (g, v) :: r else (g, x) :: putD f v r
theorem Rpf.put {K : PySem.W.Frag} {G : Hp} {al : List Addr} {fs : List (Str × V)} {gs : List (Str × D)} (h : Rpf K G al fs gs) (f : Str) {v : V} {d : D} (r : Rp K G al v d) : Rpf K G al (putF f v fs) (putD f d gs) := by
  induction gs generalizing fs with
  | nil => cases h; exact .cons r .nil
  | cons x xs ih =>
    cases h with
    | cons r' t =>
      unfold putF putD
      split
      · exact .cons r t
      · exact .cons r' (ih t)
/-! ### the slots -/
def RpS (K : PySem.W.Frag) (G : Hp) (al : List Addr) (σ : St) (ρ : En) : Prop := σ.length = ρ.length ∧ ∀ (i : Nat) (d : D), ρ[i]? = some (some d) → ∃ v, σ[i]? = some (some v) ∧ Rp K G al v d
section
variable {K : PySem.W.Frag} {G G' : Hp} {al al' : List Addr} {σ : St} {ρ : En}
theorem RpS.mono (s : Same G G') (p : Pre al al') (h : RpS K G al σ ρ) : RpS K G' al' σ ρ := ⟨h.1, fun i d e => by
  obtain ⟨v, e1, r⟩ := h.2 i d e
  exact ⟨v, e1, r.mono s p⟩⟩
theorem RpS.set (h : RpS K G al σ ρ) (i : Nat) {v : V} {d : D} (r : Rp K G al v d) : RpS K G al (σ.set i (some v)) (ρ.set i (some d)) := by
  refine ⟨by simp [h.1], fun j e hj => ?_⟩
  rw [List.getElem?_set] at hj ⊢
  by_cases hij : i = j
  · subst hij
    rw [if_pos rfl] at hj ⊢
    by_cases hl : i < ρ.length
    · rw [if_pos hl] at hj
      have hl2 : i < σ.length := by rw [h.1]; exact hl
      rw [if_pos hl2]
      cases hj
      exact ⟨v, rfl, r⟩
    · rw [if_neg hl] at hj; cases hj
  · rw [if_neg hij] at hj ⊢
    exact h.2 j e hj
/-- a slot's value forgotten -/
theorem RpS.forget (h : RpS K G al σ ρ) (i : Nat) (x : Option V) : RpS K G al (σ.set i x) (ρ.set i none) := by
  refine ⟨by simp [h.1], fun j e hj => ?_⟩
  rw [List.getElem?_set] at hj ⊢
  by_cases hij : i = j
  · subst hij
    rw [if_pos rfl] at hj
    by_cases hl : i < ρ.length
    · rw [if_pos hl] at hj; cases hj
    · rw [if_neg hl] at hj; cases hj
  · rw [if_neg hij] at hj ⊢
    exact h.2 j e hj
end
/-! ### what may change -/
def OkO (K : PySem.W.Frag) (G H : Hp) (al : List Addr) (a : Addr) : MO → Prop
  | .dead => True
  | .lst ds => G a = none ∧ ∃ vs, H a = some (.lst vs) ∧ Rps K G al vs ds
  | .ins C gs => G a = none ∧ ∃ dx fs, H a = some (.ins C dx fs) ∧ Rpf K G al fs gs
  | .dK gs => G a = none ∧ ∃ kvs, H a = some (.dK kvs) ∧ Rpk K G al kvs gs
  | .dT gs => G a = none ∧ ∃ kvs : List (List Key × V), H a = some (.dT kvs) ∧ kvs.map (·.1) = gs.map (·.1) ∧ Rps K G al (kvs.map (·.2)) (gs.map (·.2))
  | .tab p q => G a = none ∧ a = p ∧ ∃ ps : Array Value, H a = some (.tbl ps) ∧ TriplesOk ps.toList ∧ ∀ (pos : Pos) (cv : Value), codeAmong pos ps.toList = some cv → ∃ c, cv = .ref c ∧ G c = some (LamX.CodeO c q)
structure As (K : PySem.W.Frag) (G H : Hp) (al : List Addr) (μ : Mu) : Prop where
  sub : Same G H
  nd : al.Nodup
  len : al.length = μ.length
  here : ∀ a ∈ al, H a ≠ none
  ok : ∀ (k : Nat) (a : Addr) (o : MO), al[k]? = some a → μ[k]? = some o → OkO K G H al a o
/-- a later state -/
structure Nx (G H : Hp) (al : List Addr) (G' H' : Hp) (al' : List Addr) : Prop where
  g : Same G G'
  p : Pre al al'
  keep : ∀ a o, H a = some o → a ∉ al → H' a = some o
  out : ∀ a, H a ≠ none → (∀ vs, H a ≠ some (.tup vs)) → a ∉ al → G a = none → G' a = none
  new : ∀ a ∈ al', a ∈ al ∨ H a = none
section
variable {K : PySem.W.Frag} {G G1 G2 H H1 H2 : Hp} {al al1 al2 : List Addr} {μ : Mu}
theorem Nx.refl : Nx G H al G H al := ⟨Same.refl _, Pre.refl _, fun _ _ h _ => h, fun _ _ _ _ h => h, fun _ h => .inl h⟩
theorem Nx.trans (a : Nx G H al G1 H1 al1) (b : Nx G1 H1 al1 G2 H2 al2) : Nx G H al G2 H2 al2 := by
  have nin : ∀ x o, H x = some o → x ∉ al → x ∉ al1 := fun x o h n m => by
    rcases a.new x m with z | z
    · exact n z
    · rw [h] at z; cases z
  refine ⟨a.g.trans b.g, a.p.trans b.p, fun x o h n => b.keep x o (a.keep x o h n) (nin x o h n), fun x h t n g => ?_, fun x m => ?_⟩
  · cases q : H x with
    | none => exact absurd q h
    | some o =>
      have h1 := a.keep x o q n
      exact b.out x (by rw [h1]; simp) (fun vs e => t vs (by rw [q, ← h1, e])) (nin x o q n) (a.out x h t n g)
  · rcases b.new x m with z | z
    · exact a.new x z
    · by_cases hx : x ∈ al
      · exact .inl hx
      · refine .inr ?_
        cases q : H x with
        | none => rfl
        | some o => rw [a.keep x o q hx] at z; cases z
theorem Rp.nx (n : Nx G H al G1 H1 al1) {v : V} {d : D} (h : Rp K G al v d) : Rp K G1 al1 v d := h.mono n.g n.p
theorem Rps.nx (n : Nx G H al G1 H1 al1) {v : List V} {d : List D} (h : Rps K G al v d) : Rps K G1 al1 v d := h.mono n.g n.p
theorem RpS.nx (n : Nx G H al G1 H1 al1) {σ : St} {ρ : En} (h : RpS K G al σ ρ) : RpS K G1 al1 σ ρ := h.mono n.g n.p
theorem OkO.mono {a : Addr} {o : MO} (s : Same G G1) (p : Pre al al1) (hg : o ≠ .dead → G a = none → G1 a = none) (hh : H1 a = H a) (h : OkO K G H al a o) : OkO K G1 H1 al1 a o := by
  cases o with
  | dead => trivial
  | lst ds => obtain ⟨g, vs, e, r⟩ := h; exact ⟨hg (by simp) g, vs, hh.trans e, r.mono s p⟩
  | ins C gs => obtain ⟨g, dx, vs, e, r⟩ := h; exact ⟨hg (by simp) g, dx, vs, hh.trans e, r.mono s p⟩
  | dK gs => obtain ⟨g, vs, e, r⟩ := h; exact ⟨hg (by simp) g, vs, hh.trans e, r.mono s p⟩
  | dT gs => obtain ⟨g, vs, e, k, r⟩ := h; exact ⟨hg (by simp) g, vs, hh.trans e, k, r.mono s p⟩
  | tab p q => obtain ⟨g, ep, ps, e, k, r⟩ := h; exact ⟨hg (by simp) g, ep, ps, hh.trans e, k, fun pos cv hc => let ⟨c, e1, e2⟩ := r pos cv hc; ⟨c, e1, s _ _ e2⟩⟩
/-- a new frozen thing -/
theorem As.frz {p : Addr} {o : HO} (A : As K G H al μ) (hp : H p = none) : As K (upd G p o) (upd H p o) al μ ∧ Nx G H al (upd G p o) (upd H p o) al := by
  have gp : G p = none := A.sub.free hp
  have s1 : Same G (upd G p o) := fun b u e => by rw [upd_ne (ne_of_none e gp)]; exact e
  have npal : p ∉ al := fun m => A.here p m hp
  refine ⟨⟨fun b u e => ?_, A.nd, A.len, fun a m => ?_, fun k a ob e1 e2 => ?_⟩, ⟨s1, Pre.refl _, fun a u h _ => ?_, fun a h _ n g => ?_, fun a m => .inl m⟩⟩
  · by_cases hb : b = p
    · subst hb; rw [upd_same] at e ⊢; exact e
    · rw [upd_ne hb] at e ⊢; exact A.sub _ _ e
  · have : a ≠ p := fun z => npal (z ▸ m)
    rw [upd_ne this]; exact A.here a m
  · have : a ≠ p := fun z => npal (z ▸ List.mem_of_getElem? e1)
    exact OkO.mono s1 (Pre.refl _) (fun _ g => by rw [upd_ne this]; exact g) (by rw [upd_ne this]) (A.ok k a ob e1 e2)
  · rw [upd_ne (ne_of_none h hp)]; exact h
  · have z : a ≠ p := fun z => h (by rw [z]; exact hp)
    rw [upd_ne z]; exact g
/-- a new thing that may change -/
theorem As.own {p : Addr} {o : HO} {m : MO} (A : As K G H al μ) (hp : H p = none) (ok : OkO K G (upd H p o) (al ++ [p]) p m) : As K G (upd H p o) (al ++ [p]) (μ ++ [m]) ∧ Nx G H al G (upd H p o) (al ++ [p]) := by
  have npal : p ∉ al := fun m => A.here p m hp
  have gp : G p = none := A.sub.free hp
  refine ⟨⟨fun b u e => ?_, ?_, by simp [A.len], fun a m => ?_, fun k a ob e1 e2 => ?_⟩, ⟨Same.refl _, ⟨[p], rfl⟩, fun a u h _ => ?_, fun a h _ n g => g, fun a m => ?_⟩⟩
  · rw [upd_ne (ne_of_none e gp)]; exact A.sub _ _ e
  · rw [List.nodup_append]
    exact ⟨A.nd, by simp, fun a ha b hb => by simp at hb; subst hb; exact fun z => npal (z ▸ ha)⟩
  · rcases List.mem_append.mp m with m | m
    · have : a ≠ p := fun z => npal (z ▸ m)
      rw [upd_ne this]; exact A.here a m
    · simp at m; subst m; rw [upd_same]; simp
  · by_cases hk : k < al.length
    · rw [List.getElem?_append_left hk] at e1
      rw [List.getElem?_append_left (by rw [← A.len]; exact hk)] at e2
      have : a ≠ p := fun z => npal (z ▸ List.mem_of_getElem? e1)
      exact OkO.mono (Same.refl _) ⟨[p], rfl⟩ (fun _ g => g) (by rw [upd_ne this]) (A.ok k a ob e1 e2)
    · have hk1 := (List.getElem?_eq_some_iff.mp e1).1
      have hk' : k = al.length := by simp at hk1; omega
      subst hk'
      simp at e1
      rw [A.len] at e2
      simp at e2
      subst e1 e2
      exact ok
  · rw [upd_ne (ne_of_none h hp)]; exact h
  · rcases List.mem_append.mp m with m | m
    · exact .inl m
    · simp at m; subst m; exact .inr hp
/-- a thing that may change is changed -/
theorem As.put {k : Nat} {a : Addr} {o : HO} {m m' : MO} (A : As K G H al μ) (hk : al[k]? = some a) (hm : μ[k]? = some m) (hd : m ≠ .dead) (ok : OkO K G (upd H a o) al a m') : As K G (upd H a o) al (μ.set k m') ∧ Nx G H al G (upd H a o) al := by
  have ga : G a = none := by
    have := A.ok k a m hk hm
    cases m with
    | dead => exact absurd rfl hd
    | lst _ => exact this.1
    | ins _ _ => exact this.1
    | dK _ => exact this.1
    | dT _ => exact this.1
    | tab _ _ => exact this.1
  have ma : a ∈ al := List.mem_of_getElem? hk
  refine ⟨⟨fun b u e => ?_, A.nd, by simp [A.len], fun b m => ?_, fun j b ob e1 e2 => ?_⟩, ⟨Same.refl _, Pre.refl _, fun b u h n => ?_, fun _ _ _ _ g => g, fun _ m => .inl m⟩⟩
  · rw [upd_ne (ne_of_none e ga)]; exact A.sub _ _ e
  · by_cases hb : b = a
    · subst hb; rw [upd_same]; simp
    · rw [upd_ne hb]; exact A.here b m
  · rw [List.getElem?_set] at e2
    by_cases hj : k = j
    · subst hj
      rw [if_pos rfl] at e2
      split at e2
      · cases e2; rw [hk] at e1; cases e1; exact ok
      · cases e2
    · rw [if_neg hj] at e2
      have hne : b ≠ a := fun z => by
        subst z
        exact hj (nd_ix A.nd hk e1)
      exact OkO.mono (Same.refl _) (Pre.refl _) (fun _ g => g) (by rw [upd_ne hne]) (A.ok j b ob e1 e2)
  · have z : b ≠ a := fun z => n (by rw [z]; exact ma)
    rw [upd_ne z]; exact h
/-- .. it is frozen -/
theorem As.freeze {k : Nat} {a : Addr} {o : HO} (A : As K G H al μ) (hk : al[k]? = some a) (ha : H a = some o) (ga : G a = none) : As K (upd G a o) H al (μ.set k .dead) ∧ Nx G H al (upd G a o) H al := by
  have ma : a ∈ al := List.mem_of_getElem? hk
  have s1 : Same G (upd G a o) := fun b u e => by rw [upd_ne (ne_of_none e ga)]; exact e
  refine ⟨⟨fun b u e => ?_, A.nd, by simp [A.len], A.here, fun j b ob e1 e2 => ?_⟩, ⟨s1, Pre.refl _, fun b u h n => h, fun b h _ n g => ?_, fun _ m => .inl m⟩⟩
  · by_cases hb : b = a
    · subst hb; rw [upd_same] at e; rw [← e]; exact ha
    · rw [upd_ne hb] at e; exact A.sub _ _ e
  · rw [List.getElem?_set] at e2
    by_cases hj : k = j
    · subst hj
      rw [if_pos rfl] at e2
      split at e2
      · cases e2; trivial
      · cases e2
    · rw [if_neg hj] at e2
      have hne : b ≠ a := fun z => by
        subst z
        exact hj (nd_ix A.nd hk e1)
      exact OkO.mono s1 (Pre.refl _) (fun _ g => by rw [upd_ne hne]; exact g) rfl (A.ok j b ob e1 e2)
  · have z : b ≠ a := fun z => n (by rw [z]; exact ma)
    rw [upd_ne z]; exact g
theorem As.get {k : Nat} {m : MO} (A : As K G H al μ) (hm : μ[k]? = some m) : ∃ a, al[k]? = some a ∧ OkO K G H al a m := by
  have hk : k < al.length := by rw [A.len]; exact (List.getElem?_eq_some_iff.mp hm).1
  exact ⟨al[k], List.getElem?_eq_getElem hk, A.ok k _ m (List.getElem?_eq_getElem hk) hm⟩
end
end Dl
set_option Elab.async false
set_option linter.all false
set_option maxRecDepth 100000
namespace Dl
open PySem L2
/-! ### judgements over data -/
structure Bs where
  G : Hp
  H : Hp
  al : List Addr
abbrev Bs.le (B : Bs) (G H : Hp) (al : List Addr) : Prop := Nx B.G B.H B.al G H al
section
variable (K : PySem.W.Frag)
def KV (G H : Hp) (al : List Addr) (P : D → Mu → Prop) (Q : VK) : Prop := ∀ v d μ' G' H' al', Nx G H al G' H' al' → As K G' H' al' μ' → Rp K G' al' v d → P d μ' → Q v H'
def KT (G H : Hp) (al : List Addr) (P : Bool → Mu → Prop) (Q : Bool → Hp → Prop) : Prop := ∀ b μ' G' H' al', Nx G H al G' H' al' → As K G' H' al' μ' → P b μ' → Q b H'
def KA (G H : Hp) (al : List Addr) (P : List D → Mu → Prop) (Q : List V → Hp → Prop) : Prop := ∀ vs ds μ' G' H' al', Nx G H al G' H' al' → As K G' H' al' μ' → Rps K G' al' vs ds → P ds μ' → Q vs H'
def KS (G H : Hp) (al : List Addr) (P : En → Mu → Prop) (Q : St → Hp → Prop) : Prop := ∀ σ' ρ' μ' G' H' al', Nx G H al G' H' al' → RpS K G' al' σ' ρ' → As K G' H' al' μ' → P ρ' μ' → Q σ' H'
def DE (B : Bs) (te : TE) (ρ : En) (μ : Mu) (P : D → Mu → Prop) : Prop := ∀ σ G H al, B.le G H al → RpS K G al σ ρ → As K G H al μ → ∀ Q, KV K G H al P Q → te σ H Q
def DT (B : Bs) (tt : TT) (ρ : En) (μ : Mu) (P : Bool → Mu → Prop) : Prop := ∀ σ G H al, B.le G H al → RpS K G al σ ρ → As K G H al μ → ∀ Q, KT K G H al P Q → tt σ H Q
def DA (B : Bs) (ta : TA) (ρ : En) (μ : Mu) (P : List D → Mu → Prop) : Prop := ∀ σ G H al, B.le G H al → RpS K G al σ ρ → As K G H al μ → ∀ Q, KA K G H al P Q → ta σ H Q
/-- a part of a slice -/
def DO (B : Bs) (to : TO) (ρ : En) (μ : Mu) (P : Option Int → Mu → Prop) : Prop := ∀ σ G H al, B.le G H al → RpS K G al σ ρ → As K G H al μ → ∀ Q : Option Int → Hp → Prop, (∀ o μ' G' H' al', Nx G H al G' H' al' → As K G' H' al' μ' → P o μ' → Q o H') → to σ H Q
def DG (B : Bs) (g : TG) (d : D) (ρ : En) (μ : Mu) (P : En → Mu → Prop) : Prop := ∀ σ G H al v, B.le G H al → RpS K G al σ ρ → As K G H al μ → Rp K G al v d → ∀ Q, KS K G H al P Q → g v σ H Q
def DGs (B : Bs) (g : TGs) (ds : List D) (ρ : En) (μ : Mu) (P : En → Mu → Prop) : Prop := ∀ σ G H al vs, B.le G H al → RpS K G al σ ρ → As K G H al μ → Rps K G al vs ds → ∀ Q, KS K G H al P Q → g vs σ H Q
/-- operations on values -/
def RO (r : R2) (x y : D) (μ : Mu) (P : D → Mu → Prop) : Prop := ∀ G H al v w, As K G H al μ → Rp K G al v x → Rp K G al w y → ∀ Q, KV K G H al P Q → r v w H Q
def RU (r : V → Hp → VK → Prop) (x : D) (μ : Mu) (P : D → Mu → Prop) : Prop := ∀ G H al v, As K G H al μ → Rp K G al v x → ∀ Q, KV K G H al P Q → r v H Q
def RC (r : List V → Hp → VK → Prop) (xs : List D) (μ : Mu) (P : D → Mu → Prop) : Prop := ∀ G H al vs, As K G H al μ → Rps K G al vs xs → ∀ Q, KV K G H al P Q → r vs H Q
def RM (r : V → List V → Hp → VK → Prop) (x : D) (xs : List D) (μ : Mu) (P : D → Mu → Prop) : Prop := ∀ G H al v vs, As K G H al μ → Rp K G al v x → Rps K G al vs xs → ∀ Q, KV K G H al P Q → r v vs H Q
def RS (r : V → Option Int → Option Int → Hp → VK → Prop) (x : D) (lo hi : Option Int) (μ : Mu) (P : D → Mu → Prop) : Prop := ∀ G H al v, As K G H al μ → Rp K G al v x → ∀ Q, KV K G H al P Q → r v lo hi H Q
def RSet (r : V → V → V → Hp → (Hp → Prop) → Prop) (o i d : D) (μ : Mu) (P : Mu → Prop) : Prop := ∀ G H al v w u, As K G H al μ → Rp K G al v o → Rp K G al w i → Rp K G al u d → ∀ Q : Hp → Prop, (∀ μ' G' H' al', Nx G H al G' H' al' → As K G' H' al' μ' → P μ' → Q H') → r v w u H Q
end
structure DEnds where
  nx : En → Mu → Prop
  rt : D → Mu → Prop
  bk : En → Mu → Prop := fun _ _ => False
  ct : En → Mu → Prop := fun _ _ => False
structure Ag (K : PySem.W.Frag) (G H : Hp) (al : List Addr) (P : DEnds) (De : Ends) : Prop where
  nx : KS K G H al P.nx De.nx
  rt : KV K G H al P.rt De.rt
  bk : KS K G H al P.bk De.bk
  ct : KS K G H al P.ct De.ct
def DS (K : PySem.W.Frag) (B : Bs) (t : TS) (ρ : En) (μ : Mu) (P : DEnds) : Prop := ∀ σ G H al, B.le G H al → RpS K G al σ ρ → As K G H al μ → ∀ De, Ag K G H al P De → t De σ H
section
variable {K : PySem.W.Frag} {B : Bs} {G H G1 H1 : Hp} {al al1 : List Addr}
theorem KV.nx {P : D → Mu → Prop} {Q : VK} (n : Nx G H al G1 H1 al1) (h : KV K G H al P Q) : KV K G1 H1 al1 P Q := fun v d μ' G' H' al' n' A r p => h v d μ' G' H' al' (n.trans n') A r p
theorem KT.nx {P : Bool → Mu → Prop} {Q : Bool → Hp → Prop} (n : Nx G H al G1 H1 al1) (h : KT K G H al P Q) : KT K G1 H1 al1 P Q := fun v μ' G' H' al' n' A p => h v μ' G' H' al' (n.trans n') A p
theorem KA.nx {P : List D → Mu → Prop} {Q : List V → Hp → Prop} (n : Nx G H al G1 H1 al1) (h : KA K G H al P Q) : KA K G1 H1 al1 P Q := fun v d μ' G' H' al' n' A r p => h v d μ' G' H' al' (n.trans n') A r p
theorem KS.nx {P : En → Mu → Prop} {Q : St → Hp → Prop} (n : Nx G H al G1 H1 al1) (h : KS K G H al P Q) : KS K G1 H1 al1 P Q := fun v d μ' G' H' al' n' A r p => h v d μ' G' H' al' (n.trans n') A r p
theorem Ag.nx' {P : DEnds} {De : Ends} (n : Nx G H al G1 H1 al1) (h : Ag K G H al P De) : Ag K G1 H1 al1 P De := ⟨h.nx.nx n, h.rt.nx n, h.bk.nx n, h.ct.nx n⟩
theorem KV.now {P : D → Mu → Prop} {Q : VK} {v : V} {d : D} {μ : Mu} (h : KV K G H al P Q) (A : As K G H al μ) (r : Rp K G al v d) (p : P d μ) : Q v H := h v d μ G H al .refl A r p
variable {ρ : En} {μ : Mu} {P : D → Mu → Prop} {ta tb te tc : TE}
/-! ### expressions -/
theorem DE.imp {P' : D → Mu → Prop} (h : DE K B te ρ μ P') (i : ∀ d μ', P' d μ' → P d μ') : DE K B te ρ μ P := fun σ G H al hB hσ hA Q hQ => h σ G H al hB hσ hA Q fun v d μ' G' H' al' n A r p => hQ v d μ' G' H' al' n A r (i d μ' p)
theorem de_var {i : Nat} {d : D} (e : ρ[i]? = some (some d)) (h : P d μ) : DE K B (tVar i) ρ μ P := fun σ G H al hB hσ hA Q hQ => by
  obtain ⟨v, e1, r⟩ := hσ.2 i d e
  exact ⟨v, e1, hQ.now hA r h⟩
theorem de_int {i : Int} (h : P (.int i) μ) : DE K B (tC (.int i)) ρ μ P := fun σ G H al hB hσ hA Q hQ => hQ.now hA (.int i) h
theorem de_bl {i : Bool} (h : P (.bl i) μ) : DE K B (tC (.bl i)) ρ μ P := fun σ G H al hB hσ hA Q hQ => hQ.now hA (.bl i) h
theorem de_non (h : P .non μ) : DE K B (tC .non) ρ μ P := fun σ G H al hB hσ hA Q hQ => hQ.now hA .non h
theorem de_str {x : Str} (h : P (.str x) μ) : DE K B (tC (.str x)) ρ μ P := fun σ G H al hB hσ hA Q hQ => hQ.now hA (.str x) h
theorem de_ty {x : String} (h : P (.ty x) μ) : DE K B (tC (.ty x)) ρ μ P := fun σ G H al hB hσ hA Q hQ => hQ.now hA (.ty x) h
theorem de_loc {x : Addr} (h : P (.loc x) μ) : DE K B (tC (.ref x)) ρ μ P := fun σ G H al hB hσ hA Q hQ => hQ.now hA (.loc x) h
theorem de_op {r : R2} (h : DE K B ta ρ μ fun x μ1 => DE K B tb ρ μ1 fun y μ2 => RO K r x y μ2 P) : DE K B (tOp r ta tb) ρ μ P := fun σ G H al hB hσ hA Q hQ =>
  h σ G H al hB hσ hA _ fun v d μ1 G1 H1 al1 n1 A1 r1 p1 => p1 σ G1 H1 al1 (hB.trans n1) (hσ.nx n1) A1 _ fun w e μ2 G2 H2 al2 n2 A2 r2 p2 => p2 G2 H2 al2 v w A2 (r1.nx n2) r2 Q (hQ.nx (n1.trans n2))
theorem de_un {r : V → Hp → VK → Prop} (h : DE K B ta ρ μ fun x μ1 => RU K r x μ1 P) : DE K B (tUn r ta) ρ μ P := fun σ G H al hB hσ hA Q hQ =>
  h σ G H al hB hσ hA _ fun v d μ1 G1 H1 al1 n1 A1 r1 p1 => p1 G1 H1 al1 v A1 r1 Q (hQ.nx n1)
theorem de_chain {r r' : R2} (h : DE K B ta ρ μ fun x μ1 => DE K B tb ρ μ1 fun y μ2 => RO K r x y μ2 fun z μ3 => ∃ b, z = .bl b ∧ (b = true → DE K B tc ρ μ3 fun w μ4 => RO K r' y w μ4 P) ∧ (b = false → P (.bl false) μ3)) :
    DE K B (tChain r r' ta tb tc) ρ μ P := fun σ G H al hB hσ hA Q hQ =>
  h σ G H al hB hσ hA _ fun v d μ1 G1 H1 al1 n1 A1 r1 p1 => p1 σ G1 H1 al1 (hB.trans n1) (hσ.nx n1) A1 _ fun w e μ2 G2 H2 al2 n2 A2 r2 p2 =>
    p2 G2 H2 al2 v w A2 (r1.nx n2) r2 _ fun z dz μ3 G3 H3 al3 n3 A3 r3 p3 => by
      obtain ⟨b, rfl, pt, pf⟩ := p3
      cases r3
      refine ⟨b, rfl, ?_⟩
      cases b with
      | true =>
        rw [if_pos rfl]
        exact pt rfl σ G3 H3 al3 ((hB.trans n1).trans (n2.trans n3)) (((hσ.nx n1).nx n2).nx n3) A3 _ fun u du μ4 G4 H4 al4 n4 A4 r4 p4 => p4 G4 H4 al4 w u A4 ((r2.nx n3).nx n4) r4 Q (hQ.nx (((n1.trans n2).trans n3).trans n4))
      | false =>
        rw [if_neg (by simp)]
        exact hQ (.bl false) _ μ3 G3 H3 al3 ((n1.trans n2).trans n3) A3 (.bl _) (pf rfl)
theorem de_andV (h : DE K B ta ρ μ fun x μ1 => ∃ b, x = .bl b ∧ (b = true → DE K B tb ρ μ1 P) ∧ (b = false → P (.bl false) μ1)) : DE K B (tAndV ta tb) ρ μ P := fun σ G H al hB hσ hA Q hQ =>
  h σ G H al hB hσ hA _ fun v d μ1 G1 H1 al1 n1 A1 r1 p1 => by
    obtain ⟨b, rfl, pt, pf⟩ := p1
    cases r1
    refine ⟨b, rfl, ?_⟩
    cases b with
    | true => rw [if_pos rfl]; exact pt rfl σ G1 H1 al1 (hB.trans n1) (hσ.nx n1) A1 Q (hQ.nx n1)
    | false => rw [if_neg (by simp)]; exact hQ (.bl false) _ μ1 G1 H1 al1 n1 A1 (.bl _) (pf rfl)
theorem de_orV (h : DE K B ta ρ μ fun x μ1 => ∃ b, x = .bl b ∧ (b = false → DE K B tb ρ μ1 P) ∧ (b = true → P (.bl true) μ1)) : DE K B (tOrV ta tb) ρ μ P := fun σ G H al hB hσ hA Q hQ =>
  h σ G H al hB hσ hA _ fun v d μ1 G1 H1 al1 n1 A1 r1 p1 => by
    obtain ⟨b, rfl, pt, pf⟩ := p1
    cases r1
    refine ⟨b, rfl, ?_⟩
    cases b with
    | false => rw [if_neg (by simp)]; exact pt rfl σ G1 H1 al1 (hB.trans n1) (hσ.nx n1) A1 Q (hQ.nx n1)
    | true => rw [if_pos rfl]; exact hQ (.bl true) _ μ1 G1 H1 al1 n1 A1 (.bl _) (pf rfl)
theorem de_notV (h : DE K B ta ρ μ fun x μ1 => ∃ b, x = .bl b ∧ P (.bl (!b)) μ1) : DE K B (tNotV ta) ρ μ P := fun σ G H al hB hσ hA Q hQ =>
  h σ G H al hB hσ hA _ fun v d μ1 G1 H1 al1 n1 A1 r1 p1 => by
    obtain ⟨b, rfl, pt⟩ := p1
    cases r1
    exact ⟨b, rfl, hQ _ _ μ1 G1 H1 al1 n1 A1 (.bl _) pt⟩
theorem de_if {t : TT} (h : DT K B t ρ μ fun b μ1 => (b = true → DE K B ta ρ μ1 P) ∧ (b = false → DE K B tb ρ μ1 P)) : DE K B (tIf t ta tb) ρ μ P := fun σ G H al hB hσ hA Q hQ =>
  h σ G H al hB hσ hA _ fun b μ1 G1 H1 al1 n1 A1 p1 => by
    cases b with
    | true => rw [if_pos rfl]; exact p1.1 rfl σ G1 H1 al1 (hB.trans n1) (hσ.nx n1) A1 Q (hQ.nx n1)
    | false => rw [if_neg (by simp)]; exact p1.2 rfl σ G1 H1 al1 (hB.trans n1) (hσ.nx n1) A1 Q (hQ.nx n1)
theorem de_isN (h : DE K B ta ρ μ fun x μ1 => ∃ b, (b = true ↔ x = .non) ∧ P (.bl b) μ1) : DE K B (tIsN ta) ρ μ P := fun σ G H al hB hσ hA Q hQ =>
  h σ G H al hB hσ hA _ fun v d μ1 G1 H1 al1 n1 A1 r1 p1 => by
    obtain ⟨b, hb, p⟩ := p1
    have e : decide (v = .non) = b := by
      cases d with
      | non => cases r1; simp at hb; simp [hb]
      | _ => cases r1 <;> simp at hb <;> simp [hb]
    rw [e]
    exact hQ _ _ μ1 G1 H1 al1 n1 A1 (.bl _) p
theorem de_notN (h : DE K B ta ρ μ fun x μ1 => ∃ b, (b = true ↔ x = .non) ∧ P (.bl (!b)) μ1) : DE K B (tNotN ta) ρ μ P := fun σ G H al hB hσ hA Q hQ =>
  h σ G H al hB hσ hA _ fun v d μ1 G1 H1 al1 n1 A1 r1 p1 => by
    obtain ⟨b, hb, p⟩ := p1
    have e : decide (v = .non) = b := by
      cases d with
      | non => cases r1; simp at hb; simp [hb]
      | _ => cases r1 <;> simp at hb <;> simp [hb]
    rw [e]
    exact hQ _ _ μ1 G1 H1 al1 n1 A1 (.bl _) p
/-! tests -/
variable {PT' : Bool → Mu → Prop} {t u : TT}
theorem dt_test (h : DE K B te ρ μ fun x μ1 => ∃ b, x = .bl b ∧ PT' b μ1) : DT K B (tTest te) ρ μ PT' := fun σ G H al hB hσ hA Q hQ =>
  h σ G H al hB hσ hA _ fun v d μ1 G1 H1 al1 n1 A1 r1 p1 => by
    obtain ⟨b, rfl, p⟩ := p1
    cases r1
    exact ⟨b, rfl, hQ b μ1 G1 H1 al1 n1 A1 p⟩
theorem dt_B (h : DE K B te ρ μ fun x μ1 => ∃ b, x = .bl b ∧ PT' b μ1) : DT K B (tB te) ρ μ PT' := dt_test h
theorem dt_and (h : DT K B t ρ μ fun b μ1 => (b = true → DT K B u ρ μ1 PT') ∧ (b = false → PT' false μ1)) : DT K B (tAnd t u) ρ μ PT' := fun σ G H al hB hσ hA Q hQ =>
  h σ G H al hB hσ hA _ fun b μ1 G1 H1 al1 n1 A1 p1 => by
    cases b with
    | true => rw [if_pos rfl]; exact p1.1 rfl σ G1 H1 al1 (hB.trans n1) (hσ.nx n1) A1 Q (hQ.nx n1)
    | false => rw [if_neg (by simp)]; exact hQ false μ1 G1 H1 al1 n1 A1 (p1.2 rfl)
theorem dt_or (h : DT K B t ρ μ fun b μ1 => (b = false → DT K B u ρ μ1 PT') ∧ (b = true → PT' true μ1)) : DT K B (tOr t u) ρ μ PT' := fun σ G H al hB hσ hA Q hQ =>
  h σ G H al hB hσ hA _ fun b μ1 G1 H1 al1 n1 A1 p1 => by
    cases b with
    | false => rw [if_neg (by simp)]; exact p1.1 rfl σ G1 H1 al1 (hB.trans n1) (hσ.nx n1) A1 Q (hQ.nx n1)
    | true => rw [if_pos rfl]; exact hQ true μ1 G1 H1 al1 n1 A1 (p1.2 rfl)
theorem dt_not (h : DT K B t ρ μ fun b μ1 => PT' (!b) μ1) : DT K B (tNot t) ρ μ PT' := fun σ G H al hB hσ hA Q hQ =>
  h σ G H al hB hσ hA _ fun b μ1 G1 H1 al1 n1 A1 p1 => hQ (!b) μ1 G1 H1 al1 n1 A1 p1
/-! arguments -/
variable {PA' : List D → Mu → Prop} {tr : TA}
theorem da_nil (h : PA' [] μ) : DA K B tNil ρ μ PA' := fun σ G H al hB hσ hA Q hQ => hQ [] [] μ G H al .refl hA .nil h
theorem da_cons (h : DE K B ta ρ μ fun x μ1 => DA K B tr ρ μ1 fun xs μ2 => PA' (x :: xs) μ2) : DA K B (tCons ta tr) ρ μ PA' := fun σ G H al hB hσ hA Q hQ =>
  h σ G H al hB hσ hA _ fun v d μ1 G1 H1 al1 n1 A1 r1 p1 => p1 σ G1 H1 al1 (hB.trans n1) (hσ.nx n1) A1 _ fun vs ds μ2 G2 H2 al2 n2 A2 r2 p2 => hQ (v :: vs) (d :: ds) μ2 G2 H2 al2 (n1.trans n2) A2 (.cons (r1.nx n2) r2) p2
theorem de_tup {ts : TA} (h : DA K B ts ρ μ fun xs μ1 => xs.length ≤ 100000 ∧ P (.tup xs) μ1) : DE K B (tTup ts) ρ μ P := fun σ G H al hB hσ hA Q hQ =>
  h σ G H al hB hσ hA _ fun vs ds μ1 G1 H1 al1 n1 A1 r1 p1 => by
    refine ⟨by rw [r1.length]; exact Nat.le_trans p1.1 (by decide), fun p hp => ?_⟩
    obtain ⟨A2, n2⟩ := A1.frz (o := .tup vs) hp
    exact hQ _ _ μ1 _ _ al1 (n1.trans n2) A2 (.tup upd_same (r1.nx n2)) p1.2
/-- a list, frozen at once -/
theorem de_lst {ts : TA} (h : DA K B ts ρ μ fun xs μ1 => xs.length ≤ 100000 ∧ P (.lst xs) μ1) : DE K B (tLst ts) ρ μ P := fun σ G H al hB hσ hA Q hQ =>
  h σ G H al hB hσ hA _ fun vs ds μ1 G1 H1 al1 n1 A1 r1 p1 => by
    refine ⟨by rw [r1.length]; exact Nat.le_trans p1.1 (by decide), fun p hp => ?_⟩
    obtain ⟨A2, n2⟩ := A1.frz (o := .lst vs) hp
    exact hQ _ _ μ1 _ _ al1 (n1.trans n2) A2 (.lst upd_same (r1.nx n2)) p1.2
/-- a list that will change -/
theorem de_lstO {ts : TA} (h : DA K B ts ρ μ fun xs μ1 => xs.length ≤ 100000 ∧ P (.own μ1.length) (μ1 ++ [.lst xs])) : DE K B (tLst ts) ρ μ P := fun σ G H al hB hσ hA Q hQ =>
  h σ G H al hB hσ hA _ fun vs ds μ1 G1 H1 al1 n1 A1 r1 p1 => by
    refine ⟨by rw [r1.length]; exact Nat.le_trans p1.1 (by decide), fun p hp => ?_⟩
    obtain ⟨A2, n2⟩ := A1.own (o := .lst vs) (m := .lst ds) hp ⟨A1.sub.free hp, vs, upd_same, r1.mono (Same.refl _) ⟨[p], rfl⟩⟩
    exact hQ _ _ _ _ _ _ (n1.trans n2) A2 (.own (by rw [← A1.len]; simp)) p1.2
theorem de_cb {r : List V → Hp → VK → Prop} {ts : TA} (h : DA K B ts ρ μ fun xs μ1 => RC K r xs μ1 P) : DE K B (tCB r ts) ρ μ P := fun σ G H al hB hσ hA Q hQ =>
  h σ G H al hB hσ hA _ fun vs ds μ1 G1 H1 al1 n1 A1 r1 p1 => p1 G1 H1 al1 vs A1 r1 Q (hQ.nx n1)
theorem do_no {PO : Option Int → Mu → Prop} (h : PO none μ) : DO K B tNoPart ρ μ PO := fun σ G H al hB hσ hA Q hQ => hQ none μ G H al .refl hA h
theorem do_part {PO : Option Int → Mu → Prop} (h : DE K B te ρ μ fun x μ1 => ∃ i, x = .int i ∧ PO (some i) μ1) : DO K B (tPart te) ρ μ PO := fun σ G H al hB hσ hA Q hQ =>
  h σ G H al hB hσ hA _ fun v d μ1 G1 H1 al1 n1 A1 r1 p1 => by
    obtain ⟨i, rfl, p⟩ := p1
    cases r1
    exact ⟨i, rfl, hQ _ μ1 G1 H1 al1 n1 A1 p⟩
theorem de_sl {r : V → Option Int → Option Int → Hp → VK → Prop} {tl th : TO} (h : DE K B te ρ μ fun x μ1 => DO K B tl ρ μ1 fun lo μ2 => DO K B th ρ μ2 fun hi μ3 => RS K r x lo hi μ3 P) : DE K B (tSl r te tl th) ρ μ P := fun σ G H al hB hσ hA Q hQ =>
  h σ G H al hB hσ hA _ fun v d μ1 G1 H1 al1 n1 A1 r1 p1 => p1 σ G1 H1 al1 (hB.trans n1) (hσ.nx n1) A1 _ fun lo μ2 G2 H2 al2 n2 A2 p2 =>
    p2 σ G2 H2 al2 ((hB.trans n1).trans n2) ((hσ.nx n1).nx n2) A2 _ fun hi μ3 G3 H3 al3 n3 A3 p3 => p3 G3 H3 al3 v A3 ((r1.nx n2).nx n3) Q (hQ.nx ((n1.trans n2).trans n3))
/-! fields, methods of built-in types -/
theorem de_fld {f : Str} (h : DE K B te ρ μ fun x μ1 => ∃ C gs d, (x = .obj C gs ∨ ∃ k, x = .own k ∧ μ1[k]? = some (.ins C gs)) ∧ Cls K C ∧ NoAttr K C f ∧ gs.lookup f = some d ∧ P d μ1) : DE K B (tFld K te f) ρ μ P := fun σ G H al hB hσ hA Q hQ =>
  h σ G H al hB hσ hA _ fun v d μ1 G1 H1 al1 n1 A1 r1 p1 => by
    obtain ⟨C, gs, z, hx, cl, na, lk, p⟩ := p1
    rcases hx with rfl | ⟨k, rfl, hk⟩
    · cases r1 with
      | obj e rf =>
        obtain ⟨w, lw, rw'⟩ := rf.look lk
        exact ⟨_, C, _, _, w, rfl, A1.sub _ _ e, cl, na, lw, hQ _ _ μ1 _ _ _ n1 A1 rw' p⟩
    · obtain ⟨a, ha, ok⟩ := A1.get hk
      cases r1 with
      | own e =>
        rw [ha] at e
        cases e
        obtain ⟨ga, dx, fs, hv, rf⟩ := ok
        obtain ⟨w, lw, rw'⟩ := rf.look lk
        exact ⟨_, C, _, _, w, rfl, hv, cl, na, lw, hQ _ _ μ1 _ _ _ n1 A1 rw' p⟩
theorem de_bm {T : String} {r : V → List V → Hp → VK → Prop} {ts : TA} (h : DE K B te ρ μ fun x μ1 => (∀ G H al v, As K G H al μ1 → Rp K G al v x → tyV K T v H) ∧ DA K B ts ρ μ1 fun xs μ2 => RM K r x xs μ2 P) : DE K B (tBM K T r te ts) ρ μ P := fun σ G H al hB hσ hA Q hQ =>
  h σ G H al hB hσ hA _ fun v d μ1 G1 H1 al1 n1 A1 r1 p1 => ⟨p1.1 G1 H1 al1 v A1 r1, p1.2 σ G1 H1 al1 (hB.trans n1) (hσ.nx n1) A1 _ fun vs ds μ2 G2 H2 al2 n2 A2 r2 p2 => p2 G2 H2 al2 v vs A2 (r1.nx n2) r2 Q (hQ.nx (n1.trans n2))⟩
theorem de_bm0 {T : String} {r : V → List V → Hp → VK → Prop} (h : DE K B te ρ μ fun x μ1 => (∀ G H al v, As K G H al μ1 → Rp K G al v x → tyV K T v H) ∧ RM K r x [] μ1 P) : DE K B (tBM0 K T r te) ρ μ P := fun σ G H al hB hσ hA Q hQ =>
  h σ G H al hB hσ hA _ fun v d μ1 G1 H1 al1 n1 A1 r1 p1 => ⟨p1.1 G1 H1 al1 v A1 r1, p1.2 G1 H1 al1 v [] A1 r1 .nil Q (hQ.nx n1)⟩
end
/-! ### targets, statements -/
section
variable {K : PySem.W.Frag} {B : Bs} {ρ : En} {μ : Mu} {P : DEnds} {te ta tb : TE} {t u : TS} {PG' : En → Mu → Prop}
theorem dg_name {i : Nat} {d : D} (h : PG' (ρ.set i (some d)) μ) : DG K B (gName i) d ρ μ PG' := fun σ G H al v hB hσ hA r Q hQ => hQ _ _ μ G H al .refl (hσ.set i r) hA h
theorem dgs_nil (h : PG' ρ μ) : DGs K B gNil [] ρ μ PG' := fun σ G H al vs hB hσ hA r Q hQ => by
  cases r
  exact ⟨rfl, hQ _ _ μ G H al .refl hσ hA h⟩
theorem dgs_cons {g : TG} {gs : TGs} {d : D} {ds : List D} (h : DG K B g d ρ μ fun ρ1 μ1 => DGs K B gs ds ρ1 μ1 PG') : DGs K B (gCons g gs) (d :: ds) ρ μ PG' := fun σ G H al vs hB hσ hA r Q hQ => by
  cases r with
  | cons r1 rs => exact ⟨_, _, rfl, h σ G H al _ hB hσ hA r1 _ fun σ1 ρ1 μ1 G1 H1 al1 n1 hσ1 A1 p1 => p1 σ1 G1 H1 al1 _ (hB.trans n1) hσ1 A1 (rs.nx n1) Q (hQ.nx n1)⟩
theorem dg_tup {n : Nat} {gs : TGs} {ds : List D} (hn : ds.length = n) (h : DGs K B gs ds ρ μ PG') : DG K B (gTup K n gs) (.tup ds) ρ μ PG' := fun σ G H al v hB hσ hA r Q hQ => by
  cases r with
  | tup e rs => exact ⟨_, _, rfl, .inl (.inl (hA.sub _ _ e)), rs.length.trans hn, h σ G H al _ hB hσ hA rs Q hQ⟩
theorem dg_sub {to ti : TE} {r : TSet} {d : D} (h : DE K B to ρ μ fun o μ1 => DE K B ti ρ μ1 fun i μ2 => RSet K r o i d μ2 fun μ3 => PG' ρ μ3) : DG K B (gSub to ti r) d ρ μ PG' := fun σ G H al v hB hσ hA rv Q hQ =>
  h σ G H al hB hσ hA _ fun vo o μ1 G1 H1 al1 n1 A1 r1 p1 => p1 σ G1 H1 al1 (hB.trans n1) (hσ.nx n1) A1 _ fun vi i μ2 G2 H2 al2 n2 A2 r2 p2 =>
    p2 G2 H2 al2 vo vi v A2 (r1.nx n2) r2 ((rv.nx n1).nx n2) _ fun μ3 G3 H3 al3 n3 A3 p3 => hQ _ _ μ3 G3 H3 al3 ((n1.trans n2).trans n3) (((hσ.nx n1).nx n2).nx n3) A3 p3
theorem ds_next (h : P.nx ρ μ) : DS K B tNext ρ μ P := fun σ G H al hB hσ hA De hD => hD.nx _ _ μ G H al .refl hσ hA h
theorem ds_seq (h : DS K B t ρ μ { P with nx := fun ρ1 μ1 => DS K B u ρ1 μ1 P }) : DS K B (tSeq t u) ρ μ P := fun σ G H al hB hσ hA De hD =>
  h σ G H al hB hσ hA _ ⟨fun σ1 ρ1 μ1 G1 H1 al1 n1 hσ1 A1 p1 => p1 σ1 G1 H1 al1 (hB.trans n1) hσ1 A1 De (hD.nx' n1), hD.rt, hD.bk, hD.ct⟩
/-- a statement behind which the ways meet again -/
theorem ds_cut {M : En → Mu → Prop} (h : DS K B t ρ μ { P with nx := M }) (k : ∀ ρ1 μ1, M ρ1 μ1 → DS K B u ρ1 μ1 P) : DS K B (tSeq t u) ρ μ P := fun σ G H al hB hσ hA De hD =>
  h σ G H al hB hσ hA _ ⟨fun σ1 ρ1 μ1 G1 H1 al1 n1 hσ1 A1 p1 => k ρ1 μ1 p1 σ1 G1 H1 al1 (hB.trans n1) hσ1 A1 De (hD.nx' n1), hD.rt, hD.bk, hD.ct⟩
theorem ds_asg {g : TG} (h : DE K B te ρ μ fun d μ1 => DG K B g d ρ μ1 P.nx) : DS K B (tAsg te g) ρ μ P := fun σ G H al hB hσ hA De hD =>
  h σ G H al hB hσ hA _ fun v d μ1 G1 H1 al1 n1 A1 r1 p1 => p1 σ G1 H1 al1 v (hB.trans n1) (hσ.nx n1) A1 r1 _ (hD.nx.nx n1)
theorem ds_set {i : Nat} (h : DE K B te ρ μ fun d μ1 => P.nx (ρ.set i (some d)) μ1) : DS K B (tAsg te (gName i)) ρ μ P := ds_asg (h.imp fun d μ1 p => dg_name p)
theorem ds_drop (h : DE K B te ρ μ fun d μ1 => P.nx ρ μ1) : DS K B (tDrop te) ρ μ P := fun σ G H al hB hσ hA De hD =>
  h σ G H al hB hσ hA _ fun v d μ1 G1 H1 al1 n1 A1 r1 p1 => hD.nx _ _ μ1 G1 H1 al1 n1 (hσ.nx n1) A1 p1
theorem ds_ret (h : DE K B te ρ μ P.rt) : DS K B (tRet te) ρ μ P := fun σ G H al hB hσ hA De hD => h σ G H al hB hσ hA _ hD.rt
theorem ds_retN (h : P.rt .non μ) : DS K B tRetN ρ μ P := fun σ G H al hB hσ hA De hD => hD.rt _ _ μ G H al .refl hA .non h
theorem ds_if {c : TT} (h : DT K B c ρ μ fun b μ1 => (b = true → DS K B t ρ μ1 P) ∧ (b = false → DS K B u ρ μ1 P)) : DS K B (tIfS c t u) ρ μ P := fun σ G H al hB hσ hA De hD =>
  h σ G H al hB hσ hA _ fun b μ1 G1 H1 al1 n1 A1 p1 => by
    cases b with
    | true => rw [if_pos rfl]; exact p1.1 rfl σ G1 H1 al1 (hB.trans n1) (hσ.nx n1) A1 De (hD.nx' n1)
    | false => rw [if_neg (by simp)]; exact p1.2 rfl σ G1 H1 al1 (hB.trans n1) (hσ.nx n1) A1 De (hD.nx' n1)
theorem ds_par {i j : Nat} {ts : TA} (h : DA K B ts ρ μ fun ds μ1 => ∃ x y, ds = [x, y] ∧ P.nx ((ρ.set i (some x)).set j (some y)) μ1) : DS K B (tPar i j ts) ρ μ P := fun σ G H al hB hσ hA De hD =>
  h σ G H al hB hσ hA _ fun vs ds μ1 G1 H1 al1 n1 A1 r1 p1 => by
    obtain ⟨x, y, rfl, p⟩ := p1
    cases r1 with
    | cons rx r2 => cases r2 with
      | cons ry r3 =>
        cases r3
        exact ⟨_, _, rfl, hD.nx _ _ μ1 G1 H1 al1 n1 (((hσ.nx n1).set i rx).set j ry) A1 p⟩
theorem ds_fld {f : Str} (h : DE K B tb ρ μ fun y μ1 => DE K B ta ρ μ1 fun x μ2 => ∃ k C gs, x = .own k ∧ μ2[k]? = some (.ins C gs) ∧ Cls K C ∧ NoAttr K C f ∧ gs.length < 1000 ∧ P.nx ρ (μ2.set k (.ins C (putD f y gs)))) : DS K B (sFld K ta tb f) ρ μ P := fun σ G H al hB hσ hA De hD =>
  h σ G H al hB hσ hA _ fun vy y μ1 G1 H1 al1 n1 A1 r1 p1 => p1 σ G1 H1 al1 (hB.trans n1) (hσ.nx n1) A1 _ fun vx x μ2 G2 H2 al2 n2 A2 r2 p2 => by
    obtain ⟨k, C, gs, rfl, hk, cl, na, hl, p⟩ := p2
    obtain ⟨a, ha, ok⟩ := A2.get hk
    cases r2 with
    | own e =>
      rw [ha] at e
      cases e
      obtain ⟨ga, dx, fs, hv, rf⟩ := ok
      obtain ⟨A3, n3⟩ := A2.put (o := .ins C dx (putF f vy fs)) (m' := .ins C (putD f y gs)) ha hk (by simp) ⟨ga, dx, _, upd_same, rf.put f (r1.nx n2)⟩
      exact ⟨_, C, dx, fs, rfl, hv, cl, na, by rw [rf.length]; exact hl, hD.nx _ _ _ _ _ _ ((n1.trans n2).trans n3) (((hσ.nx n1).nx n2).nx n3) A3 p⟩
theorem ds_fldAug {f : Str} {r : V → V → Hp → VK → Prop} (h : DE K B ta ρ μ fun x μ1 => ∃ k C gs d, x = .own k ∧ μ1[k]? = some (.ins C gs) ∧ Cls K C ∧ NoAttr K C f ∧ gs.lookup f = some d ∧
      DE K B tb ρ μ1 fun y μ2 => RO K r d y μ2 fun z μ3 => ∃ gs', μ3[k]? = some (.ins C gs') ∧ gs'.length < 1000 ∧ P.nx ρ (μ3.set k (.ins C (putD f z gs')))) : DS K B (sFldAug K ta tb r f) ρ μ P := fun σ G H al hB hσ hA De hD =>
  h σ G H al hB hσ hA _ fun vx x μ1 G1 H1 al1 n1 A1 r1 p1 => by
    obtain ⟨k, C, gs, d, rfl, hk, cl, na, lk, p⟩ := p1
    obtain ⟨a, ha, ok⟩ := A1.get hk
    cases r1 with
    | own e =>
      rw [ha] at e
      cases e
      obtain ⟨ga, dx, fs, hv, rf⟩ := ok
      obtain ⟨w, lw, rw'⟩ := rf.look lk
      refine ⟨_, C, dx, fs, w, rfl, hv, cl, na, lw, p σ G1 H1 al1 (hB.trans n1) (hσ.nx n1) A1 _ fun vy y μ2 G2 H2 al2 n2 A2 r2 p2 => p2 G2 H2 al2 w vy A2 (rw'.nx n2) r2 _ fun vz z μ3 G3 H3 al3 n3 A3 r3 p3 => ?_⟩
      obtain ⟨gs', hk3, hl, p⟩ := p3
      obtain ⟨a3, ha3, ok3⟩ := A3.get hk3
      have ea : a3 = _ := Option.some.inj (ha3.symm.trans (n3.p.get (n2.p.get ha)))
      subst ea
      obtain ⟨ga3, dx3, fs3, hv3, rf3⟩ := ok3
      obtain ⟨A4, n4⟩ := A3.put (o := .ins C dx3 (putF f vz fs3)) (m' := .ins C (putD f z gs')) ha3 hk3 (by simp) ⟨ga3, dx3, _, upd_same, rf3.put f r3⟩
      exact ⟨dx3, fs3, hv3, by rw [rf3.length]; exact hl, hD.nx _ _ _ _ _ _ (((n1.trans n2).trans n3).trans n4) ((((hσ.nx n1).nx n2).nx n3).nx n4) A4 p⟩
end
end Dl
set_option Elab.async false
set_option linter.all false
set_option maxRecDepth 100000
namespace Dl
open PySem L2
/-! ### lists that are read -/
inductive Ls (μ : Mu) : D → List D → Prop
  | lst (ds : List D) : Ls μ (.lst ds) ds
  | rdl (ds : List D) : Ls μ (.rdl ds) ds
  | own {k : Nat} {ds : List D} (h : μ[k]? = some (.lst ds)) : Ls μ (.own k) ds
/-- .. and stand in the heap itself -/
inductive Lt (μ : Mu) : D → List D → Prop
  | lst (ds : List D) : Lt μ (.lst ds) ds
  | own {k : Nat} {ds : List D} (h : μ[k]? = some (.lst ds)) : Lt μ (.own k) ds
inductive Ts : D → List D → Prop
  | tup (ds : List D) : Ts (.tup ds) ds
  | rdt (ds : List D) : Ts (.rdt ds) ds
section
variable {K : PySem.W.Frag} {G H : Hp} {al : List Addr} {μ : Mu} {v : V} {d : D} {ds : List D}
theorem Lt.get (h : Lt μ d ds) (A : As K G H al μ) (r : Rp K G al v d) : ∃ a vs, v = .ref a ∧ H a = some (.lst vs) ∧ Rps K G al vs ds := by
  cases h with
  | lst => cases r with | lst e rs => exact ⟨_, _, rfl, A.sub _ _ e, rs⟩
  | own hk =>
    obtain ⟨a, ha, ga, vs, hv, rs⟩ := A.get hk
    cases r with
    | own e => rw [ha] at e; cases e; exact ⟨_, vs, rfl, hv, rs⟩
theorem Ls.get (h : Ls μ d ds) (A : As K G H al μ) (r : Rp K G al v d) : ∃ a vs, v = .ref a ∧ SqL K H a vs ∧ Rps K G al vs ds := by
  cases h with
  | lst => cases r with | lst e rs => exact ⟨_, _, rfl, .inl (.inl (A.sub _ _ e)), rs⟩
  | rdl => cases r with | rdl e rs => exact ⟨_, _, rfl, sql_mono A.sub e, rs⟩
  | own hk =>
    obtain ⟨a, ha, ga, vs, hv, rs⟩ := A.get hk
    cases r with
    | own e => rw [ha] at e; cases e; exact ⟨_, vs, rfl, .inl (.inl hv), rs⟩
theorem Ts.get (h : Ts d ds) (A : As K G H al μ) (r : Rp K G al v d) : ∃ a vs, v = .ref a ∧ SqT K H a vs ∧ Rps K G al vs ds := by
  cases h with
  | tup => cases r with | tup e rs => exact ⟨_, _, rfl, .inl (.inl (A.sub _ _ e)), rs⟩
  | rdt => cases r with | rdt e rs => exact ⟨_, _, rfl, sqt_mono A.sub e, rs⟩
end
theorem rps_cons {K : PySem.W.Frag} {G : Hp} {al : List Addr} {vs : List V} {d : D} {ds : List D} (h : Rps K G al vs (d :: ds)) : ∃ v ws, vs = v :: ws ∧ Rp K G al v d ∧ Rps K G al ws ds := by
  cases h with | cons r t => exact ⟨_, _, rfl, r, t⟩
theorem rps_nil {K : PySem.W.Frag} {G : Hp} {al : List Addr} {vs : List V} (h : Rps K G al vs []) : vs = [] := by cases h; rfl
theorem rps1 {K : PySem.W.Frag} {G : Hp} {al : List Addr} {vs : List V} {d : D} (h : Rps K G al vs [d]) : ∃ v, vs = [v] ∧ Rp K G al v d := by
  obtain ⟨v, ws, rfl, r, t⟩ := rps_cons h
  cases t; exact ⟨v, rfl, r⟩
theorem rps2 {K : PySem.W.Frag} {G : Hp} {al : List Addr} {vs : List V} {d e : D} (h : Rps K G al vs [d, e]) : ∃ v w, vs = [v, w] ∧ Rp K G al v d ∧ Rp K G al w e := by
  obtain ⟨v, ws, rfl, r, t⟩ := rps_cons h
  obtain ⟨w, rfl, q⟩ := rps1 t
  exact ⟨v, w, rfl, r, q⟩
/-- an item by an index of any sign -/
theorem atI_rps {K : PySem.W.Frag} {G : Hp} {al : List Addr} {vs : List V} {ds : List D} {i : Int} {d : D} (h : Rps K G al vs ds) (e : atI ds i = some d) : ∃ v, atI vs i = some v ∧ Rp K G al v d := by
  unfold atI at e ⊢
  rw [h.length]
  cases q : ixN ds.length i with
  | none => rw [q] at e; cases e
  | some j =>
    rw [q] at e
    exact h.get e
def cutD (xs : List D) (lo hi : Option Int) : List D := (xs.drop (HT.sIx xs.length 0 lo)).take (HT.sIx xs.length xs.length hi - HT.sIx xs.length 0 lo)
theorem cut_rps {K : PySem.W.Frag} {G : Hp} {al : List Addr} {vs : List V} {ds : List D} (h : Rps K G al vs ds) (lo hi : Option Int) : Rps K G al (cutV vs lo hi) (cutD ds lo hi) := by
  unfold cutV cutD
  rw [h.length]
  exact (h.drop _).take _
section
variable {K : PySem.W.Frag} {μ : Mu} {P : D → Mu → Prop} {i j : Int} {x y d : D} {ds es : List D}
/-! ### numbers -/
theorem ro_i {f : Int → Int → Int} (h : P (.int (f i j)) μ) : RO K (rI0 fun i j => .int (f i j)) (.int i) (.int j) μ P := fun G H al v w A r1 r2 Q hQ => by
  cases r1; cases r2
  exact ⟨i, j, rfl, rfl, hQ.now A (.int _) h⟩
theorem ro_b {f : Int → Int → Bool} (h : P (.bl (f i j)) μ) : RO K (rI0 fun i j => .bl (f i j)) (.int i) (.int j) μ P := fun G H al v w A r1 r2 Q hQ => by
  cases r1; cases r2
  exact ⟨i, j, rfl, rfl, hQ.now A (.bl _) h⟩
theorem ro_ic {C : Int → Int → Prop} {f : Int → Int → Int} (hc : C i j) (h : P (.int (f i j)) μ) : RO K (rI C fun i j => .int (f i j)) (.int i) (.int j) μ P := fun G H al v w A r1 r2 Q hQ => by
  cases r1; cases r2
  exact ⟨i, j, rfl, rfl, hc, hQ.now A (.int _) h⟩
theorem ro_ip {f : Int → Int → Int} (h : P (.int (f i j)) μ) : RO K (ipI f) (.int i) (.int j) μ P := fun G H al v w A r1 r2 Q hQ => by
  cases r1; cases r2
  exact ⟨i, j, rfl, rfl, hQ.now A (.int _) h⟩
theorem ro_add (h : P (.int (i + j)) μ) : RO K rAdd (.int i) (.int j) μ P := fun G H al v w A r1 r2 Q hQ => by
  cases r1; cases r2
  exact ⟨i, j, rfl, rfl, hQ.now A (.int _) h⟩
theorem ru_i {f : Int → Int} (h : P (.int (f i)) μ) : RU K (rU fun i => .int (f i)) (.int i) μ P := fun G H al v A r1 Q hQ => by
  cases r1
  exact ⟨i, rfl, hQ.now A (.int _) h⟩
theorem rc_max2 (h : P (.int (max i j)) μ) : RC K (fun xs H Q => ∃ i j, xs = [.int i, .int j] ∧ Q (.int (if j > i then j else i)) H) [.int i, .int j] μ P := fun G H al vs A r Q hQ => by
  obtain ⟨v, w, rfl, r1, r2⟩ := rps2 r
  cases r1; cases r2
  refine ⟨i, j, rfl, ?_⟩
  have e : (if j > i then j else i) = max i j := by rw [Int.max_def]; split <;> split <;> omega
  rw [e]
  exact hQ.now A (.int _) h
theorem rc_min2 (h : P (.int (min i j)) μ) : RC K (fun xs H Q => ∃ i j, xs = [.int i, .int j] ∧ Q (.int (if j < i then j else i)) H) [.int i, .int j] μ P := fun G H al vs A r Q hQ => by
  obtain ⟨v, w, rfl, r1, r2⟩ := rps2 r
  cases r1; cases r2
  refine ⟨i, j, rfl, ?_⟩
  have e : (if j < i then j else i) = min i j := by rw [Int.min_def]; split <;> split <;> omega
  rw [e]
  exact hQ.now A (.int _) h
/-! ### lengths, items, slices, joins -/
theorem rc_len (hl : Ls μ x ds) (h : P (.int (ds.length : Int)) μ) : RC K (fun xs H Q => ∃ x n, xs = [x] ∧ LenV K x H n ∧ Q (.int (n : Nat)) H) [x] μ P := fun G H al vs A r Q hQ => by
  obtain ⟨v, rfl, r1⟩ := rps1 r
  obtain ⟨a, ws, rfl, s, rs⟩ := hl.get A r1
  exact ⟨.ref a, ds.length, rfl, .inl ⟨ws, s, rs.length.symm⟩, hQ.now A (.int _) h⟩
theorem rc_lenT (hl : Ts x ds) (h : P (.int (ds.length : Int)) μ) : RC K (fun xs H Q => ∃ x n, xs = [x] ∧ LenV K x H n ∧ Q (.int (n : Nat)) H) [x] μ P := fun G H al vs A r Q hQ => by
  obtain ⟨v, rfl, r1⟩ := rps1 r
  obtain ⟨a, ws, rfl, s, rs⟩ := hl.get A r1
  exact ⟨.ref a, ds.length, rfl, .inr ⟨ws, s, rs.length.symm⟩, hQ.now A (.int _) h⟩
theorem rc_lenS {s : Str} (hs : s.length ≤ 100000) (h : P (.int (s.length : Int)) μ) : RC K (fun xs H Q => ∃ x n, xs = [x] ∧ LenV K x H n ∧ Q (.int (n : Nat)) H) [.str s] μ P := fun G H al vs A r Q hQ => by
  obtain ⟨v, rfl, r1⟩ := rps1 r
  cases r1
  exact ⟨.str s, s.length, rfl, ⟨Nat.le_trans hs (by decide), rfl⟩, hQ.now A (.int _) h⟩
theorem ro_ixL (hl : Ls μ x ds) (e : atI ds i = some d) (h : P d μ) : RO K (rIx K) x (.int i) μ P := fun G H al v w A r1 r2 Q hQ => by
  cases r2
  obtain ⟨a, ws, rfl, s, rs⟩ := hl.get A r1
  obtain ⟨z, ez, rz⟩ := atI_rps rs e
  exact .inl ⟨a, ws, i, z, rfl, rfl, s, ez, hQ.now A rz h⟩
theorem ro_ixT (hl : Ts x ds) (e : atI ds i = some d) (h : P d μ) : RO K (rIx K) x (.int i) μ P := fun G H al v w A r1 r2 Q hQ => by
  cases r2
  obtain ⟨a, ws, rfl, s, rs⟩ := hl.get A r1
  obtain ⟨z, ez, rz⟩ := atI_rps rs e
  exact .inr (.inl ⟨a, ws, i, z, rfl, rfl, s, ez, hQ.now A rz h⟩)
theorem ro_ixS {s : Str} {c : Nat} (hs : s.length ≤ 100000) (e : atI s.cps.toList i = some c) (h : P (.str ⟨#[c]⟩) μ) : RO K (rIx K) (.str s) (.int i) μ P := fun G H al v w A r1 r2 Q hQ => by
  cases r1; cases r2
  exact .inr (.inr ⟨s, i, c, rfl, rfl, Nat.le_trans hs (by decide), e, hQ.now A (.str _) h⟩)
theorem rs_lst {lo hi : Option Int} (hl : Ls μ x ds) (h : P (.lst (cutD ds lo hi)) μ) : RS K (rSlL K) x lo hi μ P := fun G H al v A r Q hQ => by
  obtain ⟨a, ws, rfl, s, rs⟩ := hl.get A r
  refine ⟨a, ws, rfl, s, fun p hp => ?_⟩
  obtain ⟨A2, n2⟩ := A.frz (o := .lst (cutV ws lo hi)) hp
  exact hQ _ _ μ _ _ _ n2 A2 (.lst upd_same ((cut_rps rs lo hi).nx n2)) h
theorem ro_cat (h1 : Lt μ x ds) (h2 : Lt μ y es) (hs : ds.length + es.length ≤ 100000) (h : P (.lst (ds ++ es)) μ) : RO K rCat x y μ P := fun G H al v w A r1 r2 Q hQ => by
  obtain ⟨a, ws, rfl, s1, rs1⟩ := h1.get A r1
  obtain ⟨b, us, rfl, s2, rs2⟩ := h2.get A r2
  refine ⟨a, b, ws, us, rfl, rfl, s1, s2, by rw [rs1.length, rs2.length]; exact Nat.le_trans hs (by decide), fun p hp => ?_⟩
  obtain ⟨A2, n2⟩ := A.frz (o := .lst (ws ++ us)) hp
  exact hQ _ _ μ _ _ _ n2 A2 (.lst upd_same ((rs1.append rs2).nx n2)) h
theorem ro_catO (h1 : Lt μ x ds) (h2 : Lt μ y es) (hs : ds.length + es.length ≤ 100000) (h : P (.own μ.length) (μ ++ [.lst (ds ++ es)])) : RO K rCat x y μ P := fun G H al v w A r1 r2 Q hQ => by
  obtain ⟨a, ws, rfl, s1, rs1⟩ := h1.get A r1
  obtain ⟨b, us, rfl, s2, rs2⟩ := h2.get A r2
  refine ⟨a, b, ws, us, rfl, rfl, s1, s2, by rw [rs1.length, rs2.length]; exact Nat.le_trans hs (by decide), fun p hp => ?_⟩
  obtain ⟨A2, n2⟩ := A.own (o := .lst (ws ++ us)) (m := .lst (ds ++ es)) hp ⟨A.sub.free hp, _, upd_same, (rs1.append rs2).mono (Same.refl _) ⟨[p], rfl⟩⟩
  exact hQ _ _ _ _ _ _ n2 A2 (.own (by rw [← A.len]; simp)) h
/-! ### lists that change -/
theorem ty_list (hl : Ls μ x ds) : ∀ G H al v, As K G H al μ → Rp K G al v x → tyV K "list" v H := fun G H al v A r => by
  obtain ⟨a, ws, rfl, s, rs⟩ := hl.get A r
  exact .inl ⟨rfl, ws, s⟩
theorem rm_app {k : Nat} (hk : μ[k]? = some (.lst ds)) (hs : ds.length < 100000) (h : P .non (μ.set k (.lst (ds ++ [d])))) : RM K rAppend (.own k) [d] μ P := fun G H al v vs A r rs Q hQ => by
  obtain ⟨a, ha, ga, ws, hv, rw'⟩ := A.get hk
  obtain ⟨u, rfl, ru⟩ := rps1 rs
  cases r with
  | own e =>
    rw [ha] at e; cases e
    refine ⟨a, ws, u, rfl, rfl, hv, by rw [rw'.length]; exact Nat.lt_of_lt_of_le hs (by decide), ?_⟩
    obtain ⟨A2, n2⟩ := A.put (o := .lst (ws ++ [u])) (m' := .lst (ds ++ [d])) ha hk (by simp) ⟨ga, _, upd_same, rw'.append (.cons ru .nil)⟩
    exact hQ _ _ _ _ _ _ n2 A2 .non h
theorem rm_clear {k : Nat} (hk : μ[k]? = some (.lst ds)) (h : P .non (μ.set k (.lst []))) : RM K rClear (.own k) [] μ P := fun G H al v vs A r rs Q hQ => by
  obtain ⟨a, ha, ga, ws, hv, rw'⟩ := A.get hk
  have := rps_nil rs
  subst this
  cases r with
  | own e =>
    rw [ha] at e; cases e
    obtain ⟨A2, n2⟩ := A.put (o := .lst []) (m' := .lst []) ha hk (by simp) ⟨ga, _, upd_same, .nil⟩
    exact ⟨a, ws, rfl, rfl, hv, hQ _ _ _ _ _ _ n2 A2 .non h⟩
theorem rm_reverse {k : Nat} (hk : μ[k]? = some (.lst ds)) (h : P .non (μ.set k (.lst ds.reverse))) : RM K rReverse (.own k) [] μ P := fun G H al v vs A r rs Q hQ => by
  obtain ⟨a, ha, ga, ws, hv, rw'⟩ := A.get hk
  have := rps_nil rs
  subst this
  cases r with
  | own e =>
    rw [ha] at e; cases e
    obtain ⟨A2, n2⟩ := A.put (o := .lst ws.reverse) (m' := .lst ds.reverse) ha hk (by simp) ⟨ga, _, upd_same, rw'.reverse⟩
    exact ⟨a, ws, rfl, rfl, hv, hQ _ _ _ _ _ _ n2 A2 .non h⟩
theorem rset_lst {k j : Nat} {PM : Mu → Prop} (hk : μ[k]? = some (.lst ds)) (hj : ixN ds.length i = some j) (h : PM (μ.set k (.lst (ds.set j d)))) : RSet K rSetL (.own k) (.int i) d μ PM := fun G H al v w u A r1 r2 r3 Q hQ => by
  obtain ⟨a, ha, ga, ws, hv, rw'⟩ := A.get hk
  cases r2
  cases r1 with
  | own e =>
    rw [ha] at e; cases e
    obtain ⟨A2, n2⟩ := A.put (o := .lst (ws.set j u)) (m' := .lst (ds.set j d)) ha hk (by simp) ⟨ga, _, upd_same, rw'.set j r3⟩
    exact ⟨a, ws, i, j, rfl, rfl, hv, by rw [rw'.length]; exact hj, hQ _ _ _ _ n2 A2 h⟩
/-! ### sums, all, any -/
theorem rc_all {bs : List Bool} (hl : Ls μ x (bs.map D.bl)) (h : P (.bl (bs.all id)) μ) : RC K (rAll K) [x] μ P := fun G H al vs A r Q hQ => by
  obtain ⟨v, rfl, r1⟩ := rps1 r
  obtain ⟨a, ws, rfl, s, rs⟩ := hl.get A r1
  have e := rs.bools
  subst e
  exact ⟨a, bs, rfl, s, hQ.now A (.bl _) h⟩
end
/-! ### isinstance -/
/-- a built-in type's name -/
def tyD (μ : Mu) : D → Option String
  | .non => some "NoneType"
  | .bl _ => some "bool"
  | .int _ => some "int"
  | .str _ => some "str"
  | .tup _ => some "tuple"
  | .lst _ => some "list"
  | .rdl _ => some "list"
  | .rdt _ => some "tuple"
  | .dct _ => some "dict"
  | .own k => match μ[k]? with
    | some (.lst _) => some "list"
    | some (.dK _) => some "dict"
    | some (.dT _) => some "dict"
    | _ => none
  | _ => none
/-- what isinstance asks of an own class -/
structure ObT (K : PySem.W.Frag) (C : Addr) : Prop where
  cl : Cls K C
  ha : PySem.W.findIn K (.ref C) "__class__" = some (some (.builtin "object.__class__"))
  hn : PySem.W.specialIn K (.builtin "object.__class__") "__get__" = some (some (.builtin "getset_descriptor.__get__"))
  htk : PySem.W.takesIn K (.builtin "object.__class__") = some true
  hm : PySem.W.mroIn K C (.type "object") = some true
/-- the type of a datum as the deciders take it -/
inductive TyDV (K : PySem.W.Frag) (μ : Mu) : D → Value → Prop
  | ty {d : D} {n : String} (h : tyD μ d = some n) : TyDV K μ d (.type n)
  | obj {C : Addr} {gs : List (Str × D)} (o : ObT K C) : TyDV K μ (.obj C gs) (.ref C)
  | own {C : Addr} {gs : List (Str × D)} {k : Nat} (h : μ[k]? = some (.ins C gs)) (o : ObT K C) : TyDV K μ (.own k) (.ref C)
inductive ClD : D → Value → Prop
  | ty (n : String) : ClD (.ty n) (.type n)
  | loc (C : Addr) : ClD (.loc C) (.ref C)
theorem TyDV.tyx {K : PySem.W.Frag} {G H : Hp} {al : List Addr} {μ : Mu} {v : V} {d : D} {t : Value} (h : TyDV K μ d t) (A : As K G H al μ) (r : Rp K G al v d) : TyX K H v t := by
  cases h with
  | obj o =>
    cases r with
    | obj e rf => exact .base (.ins (A.sub _ _ e) o.cl o.ha o.hn o.htk o.hm)
  | own hk o =>
    obtain ⟨a, ha, ga, dx, fs, hv, rf⟩ := A.get hk
    cases r with
    | own e => rw [ha] at e; cases e; exact .base (.ins hv o.cl o.ha o.hn o.htk o.hm)
  | ty ht =>
    cases r with
    | non => cases ht; exact .base .non
    | bl b => cases ht; exact .base (.bl b)
    | int i => cases ht; exact .base (.int i)
    | str x => cases ht; exact .base (.str x)
    | ty n => cases ht
    | tup e rs => cases ht; exact .base (.tup (A.sub _ _ e))
    | lst e rs => cases ht; exact .base (.lst (A.sub _ _ e))
    | rdl e rs =>
      cases ht
      rcases e with (e | ⟨o, e⟩) | ⟨o, its, n, hk, hc, hd, hs, hz, _⟩
      · exact .base (.lst (A.sub _ _ e))
      · exact .base (.frz (A.sub _ _ e))
      · exact .kList hk hc
    | rdt e rs =>
      cases ht
      rcases e with (e | ⟨o, e⟩) | ⟨o, its, n, hk, hc, hs, hz, _⟩
      · exact .base (.tup (A.sub _ _ e))
      · exact .fTuple (A.sub _ _ e)
      · exact .kTuple hk hc
    | obj e rf => cases ht
    | dct e rf =>
      cases ht
      rcases e with e | ⟨o, e⟩
      · exact .base (.dK (A.sub _ _ e))
      · exact .fDict (A.sub _ _ e)
    | own e =>
      rename_i a k
      simp only [tyD] at ht
      cases hk : μ[k]? with
      | none => rw [hk] at ht; cases ht
      | some m =>
        rw [hk] at ht
        obtain ⟨a', ha, ok⟩ := A.get hk
        rw [ha] at e; cases e
        cases m with
        | lst ds => cases ht; obtain ⟨ga, vs, hv, _⟩ := ok; exact .base (.lst hv)
        | dK ds => cases ht; obtain ⟨ga, vs, hv, _⟩ := ok; exact .base (.dK hv)
        | dT ds => cases ht; obtain ⟨ga, vs, hv, _⟩ := ok; exact .base (.dT hv)
        | dead => cases ht
        | ins _ _ => cases ht
        | tab _ _ => cases ht
    | loc a => cases ht
    | exc _ _ _ => cases ht
section
variable {K : PySem.W.Frag} {μ : Mu} {P : D → Mu → Prop} {x c : D}
theorem rc_isi {t u : Value} {b : Bool} (ht : TyDV K μ x t) (hc : ClD c u) (hk : PySem.W.kitOne K t u = some b) (h : P (.bl b) μ) : RC K (rIsi K) [x, c] μ P := fun G H al vs A r Q hQ => by
  obtain ⟨v, w, rfl, r1, r2⟩ := rps2 r
  have tx := ht.tyx A r1
  cases hc with
  | ty n => cases r2; exact ⟨v, _, t, _, b, rfl, .ty n, tx, hk, hQ.now A (.bl b) h⟩
  | loc C => cases r2; exact ⟨v, _, t, _, b, rfl, .own C, tx, hk, hQ.now A (.bl b) h⟩
theorem rc_isiB {n m : String} {b : Bool} (ht : tyD μ x = some n) (hk : kitB n m = some b) (h : P (.bl b) μ) : RC K (rIsi K) [x, .ty m] μ P := rc_isi (.ty ht) (.ty m) (kit_ty hk) h
end
/-! ### == of data -/
mutual
def D.py : D → PyData
  | .non => .none
  | .bl b => .bool b
  | .int i => .int i
  | .str x => .str x
  | .ty _ => .none
  | .tup xs => .tuple (pyL xs)
  | .lst xs => .list (pyL xs)
  | .rdl xs => .list (pyL xs)
  | .rdt xs => .tuple (pyL xs)
  | .obj _ _ => .none
  | .dct _ => .none
  | .own _ => .none
  | .loc _ => .none
  | .exc _ _ => .none
def pyL : List D → List PyData
  | [] => []
  | x :: xs => D.py x :: pyL xs
end
mutual
/-- data that == goes through: how deep -/
def D.shp : D → Nat → Bool
  | .non, _ => true
  | .bl _, _ => true
  | .int _, _ => true
  | .str x, _ => PyData.strOk x
  | .tup xs, n => decide (0 < n) && shpL xs (n - 1)
  | .lst xs, n => decide (0 < n) && shpL xs (n - 1)
  | .rdl xs, n => decide (0 < n) && shpL xs (n - 1)
  | .rdt xs, n => decide (0 < n) && shpL xs (n - 1)
  | .ty _, _ => false
  | .obj _ _, _ => false
  | .dct _, _ => false
  | .own _, _ => false
  | .loc _, _ => false
  | .exc _ _, _ => false
def shpL : List D → Nat → Bool
  | [], _ => true
  | x :: xs, n => D.shp x n && shpL xs n
end
section
variable {K : PySem.W.Frag} {G H : Hp} {al : List Addr}
mutual
theorem dp_of (s : Same G H) : ∀ {d : D} {n : Nat} {v : V}, d.shp n = true → Rp K G al v d → Dp K H v d.py
  | .non, _, _, _, .non => by unfold D.py; exact .non
  | .bl _, _, _, _, .bl b => by unfold D.py; exact .bl b
  | .int _, _, _, _, .int i => by unfold D.py; exact .int i
  | .str _, _, _, _, .str x => by unfold D.py; exact .str x
  | .tup xs, n, _, h, .tup e r => by
    unfold D.py; unfold D.shp at h; simp at h
    exact .tup (.inl (.inl (s _ _ e))) (dpAll_of s h.2 r)
  | .lst xs, n, _, h, .lst e r => by
    unfold D.py; unfold D.shp at h; simp at h
    exact .lst (.inl (.inl (s _ _ e))) (dpAll_of s h.2 r)
  | .rdl xs, n, _, h, .rdl e r => by
    unfold D.py; unfold D.shp at h; simp at h
    exact .lst (sql_mono s e) (dpAll_of s h.2 r)
  | .rdt xs, n, _, h, .rdt e r => by
    unfold D.py; unfold D.shp at h; simp at h
    exact .tup (sqt_mono s e) (dpAll_of s h.2 r)
  | .ty _, _, _, h, _ => by unfold D.shp at h; cases h
  | .obj _ _, _, _, h, _ => by unfold D.shp at h; cases h
  | .dct _, _, _, h, _ => by unfold D.shp at h; cases h
  | .own _, _, _, h, _ => by unfold D.shp at h; cases h
  | .loc _, _, _, h, _ => by unfold D.shp at h; cases h
  | .exc _ _, _, _, h, _ => by unfold D.shp at h; cases h
theorem dpAll_of (s : Same G H) : ∀ {ds : List D} {n : Nat} {vs : List V}, shpL ds n = true → Rps K G al vs ds → DpAll K H vs (pyL ds)
  | [], _, _, _, .nil => by unfold pyL; exact .nil
  | d :: ds, n, _, h, .cons r t => by
    unfold pyL; unfold shpL at h; simp at h
    exact .cons (dp_of s h.1 r) (dpAll_of s h.2 t)
end
end
mutual
theorem can_of : ∀ {d : D} {n : Nat}, d.shp n = true → d.py.canLay0 = true ∧ d.py.depth ≤ n
  | .non, n, _ => by simp [D.py, PyData.canLay0, PyData.depth]
  | .bl _, n, _ => by simp [D.py, PyData.canLay0, PyData.depth]
  | .int _, n, _ => by simp [D.py, PyData.canLay0, PyData.depth]
  | .str x, n, h => by
    unfold D.shp at h
    simp [D.py, PyData.canLay0, PyData.depth, h]
  | .tup xs, n, h => by
    unfold D.shp at h; simp at h
    have q := canL_of h.2
    simp [D.py, PyData.canLay0, PyData.depth, q.1]
    omega
  | .lst xs, n, h => by
    unfold D.shp at h; simp at h
    have q := canL_of h.2
    simp [D.py, PyData.canLay0, PyData.depth, q.1]
    omega
  | .rdl xs, n, h => by
    unfold D.shp at h; simp at h
    have q := canL_of h.2
    simp [D.py, PyData.canLay0, PyData.depth, q.1]
    omega
  | .rdt xs, n, h => by
    unfold D.shp at h; simp at h
    have q := canL_of h.2
    simp [D.py, PyData.canLay0, PyData.depth, q.1]
    omega
  | .ty _, _, h => by unfold D.shp at h; cases h
  | .obj _ _, _, h => by unfold D.shp at h; cases h
  | .dct _, _, h => by unfold D.shp at h; cases h
  | .own _, _, h => by unfold D.shp at h; cases h
  | .loc _, _, h => by unfold D.shp at h; cases h
  | .exc _ _, _, h => by unfold D.shp at h; cases h
theorem canL_of : ∀ {ds : List D} {n : Nat}, shpL ds n = true → PyData.canLayAll0 (pyL ds) = true ∧ PyData.depthAll (pyL ds) ≤ n
  | [], n, _ => by simp [pyL, PyData.canLayAll0, PyData.depthAll]
  | d :: ds, n, h => by
    unfold shpL at h; simp at h
    have q1 := can_of h.1
    have q2 := canL_of h.2
    simp [pyL, PyData.canLayAll0, PyData.depthAll, q1.1, q2.1]
    have := q1.2; have := q2.2; omega
end
theorem shaped_of {d : D} {n : Nat} (hn : n ≤ 64) (h : d.shp n = true) : SeqAt.shaped d.py = true := by
  have q := can_of h
  unfold SeqAt.shaped
  simp [q.1]
  omega
theorem beq_dec {α : Type} [BEq α] [LawfulBEq α] [DecidableEq α] (a b : α) : (a == b) = decide (a = b) := by
  rw [Bool.eq_iff_iff, beq_iff_eq, decide_eq_true_eq]
/-- what == says of two data -/
def eqvD (x y : D) : Bool := PyData.eqv x.py y.py
def eqvL (xs ys : List D) : Bool := PyData.eqvAll (pyL xs) (pyL ys)
@[simp] theorem eqvD_int (i j : Int) : eqvD (.int i) (.int j) = decide (i = j) := by
  simp only [eqvD, D.py, PyData.eqv]
  exact beq_dec i j
@[simp] theorem eqvD_bl (i j : Bool) : eqvD (.bl i) (.bl j) = decide (i = j) := by
  simp only [eqvD, D.py, PyData.eqv]
  exact beq_dec i j
@[simp] theorem eqvD_str (i j : Str) : eqvD (.str i) (.str j) = decide (i = j) := by
  simp only [eqvD, D.py, PyData.eqv]
  exact beq_dec i j
@[simp] theorem eqvD_tup (xs ys : List D) : eqvD (.tup xs) (.tup ys) = eqvL xs ys := by simp only [eqvD, eqvL, D.py, PyData.eqv]
@[simp] theorem eqvD_lst (xs ys : List D) : eqvD (.lst xs) (.lst ys) = eqvL xs ys := by simp only [eqvD, eqvL, D.py, PyData.eqv]
@[simp] theorem eqvD_rdl (xs ys : List D) : eqvD (.rdl xs) (.lst ys) = eqvL xs ys := by simp only [eqvD, eqvL, D.py, PyData.eqv]
@[simp] theorem eqvL_nil : eqvL [] [] = true := by simp only [eqvL, pyL, PyData.eqvAll]
@[simp] theorem eqvL_cons (x y : D) (xs ys : List D) : eqvL (x :: xs) (y :: ys) = (eqvD x y && eqvL xs ys) := by simp only [eqvL, eqvD, pyL, PyData.eqvAll]
@[simp] theorem eqvL_nc (y : D) (ys : List D) : eqvL [] (y :: ys) = false := by simp only [eqvL, pyL, PyData.eqvAll]
@[simp] theorem eqvL_cn (y : D) (ys : List D) : eqvL (y :: ys) [] = false := by simp only [eqvL, pyL, PyData.eqvAll]
@[simp] theorem eqvD_nn : eqvD .non .non = true := by simp only [eqvD, D.py, PyData.eqv]
theorem eqvL_map {α : Type} [DecidableEq α] {f : α → D} (hf : ∀ a b, eqvD (f a) (f b) = decide (a = b)) : ∀ xs ys : List α, eqvL (xs.map f) (ys.map f) = decide (xs = ys)
  | [], [] => by simp
  | [], _ :: _ => by simp
  | _ :: _, [] => by simp
  | x :: xs, y :: ys => by
    rw [List.map_cons, List.map_cons, eqvL_cons, hf, eqvL_map hf xs ys, ← Bool.decide_and]
    exact decide_eq_decide.mpr (by rw [List.cons.injEq])
theorem eqvD_refl {d : D} {n : Nat} (h : d.shp n = true) : eqvD d d = true := SeqAt.eqv_refl _ (can_of h).1
theorem shpL_map {α : Type} {f : α → D} {n : Nat} {xs : List α} (h : ∀ x ∈ xs, (f x).shp n = true) : shpL (xs.map f) n = true := by
  induction xs with
  | nil => simp [shpL]
  | cons x xs ih =>
    simp [shpL, h x (by simp)]
    exact ih fun y hy => h y (by simp [hy])
theorem shpL_iff {xs : List D} {n : Nat} : shpL xs n = true ↔ ∀ x ∈ xs, x.shp n = true := by
  induction xs with
  | nil => simp [shpL]
  | cons x xs ih => simp [shpL, ih]
/-- one that may still change is looked at as it is now -/
inductive Fz (μ : Mu) : D → D → Prop
  | id (d : D) : Fz μ d d
  | own {k : Nat} {ds : List D} (h : μ[k]? = some (.lst ds)) : Fz μ (.own k) (.lst ds)
theorem Fz.dp {K : PySem.W.Frag} {G H : Hp} {al : List Addr} {μ : Mu} {v : V} {x d : D} {n : Nat} (h : Fz μ x d) (A : As K G H al μ) (hs : d.shp n = true) (r : Rp K G al v x) : Dp K H v d.py := by
  cases h with
  | id => exact dp_of A.sub hs r
  | own hk =>
    obtain ⟨a, ha, ga, ws, hv, rw'⟩ := A.get hk
    cases r with
    | own e =>
      rw [ha] at e; cases e
      unfold D.py; unfold D.shp at hs; simp at hs
      exact .lst (.inl (.inl hv)) (dpAll_of A.sub hs.2 rw')
section
variable {K : PySem.W.Frag} {μ : Mu} {P : D → Mu → Prop} {x y d e : D}
theorem ro_eqD {n m : Nat} (hx : Fz μ x d) (hy : Fz μ y e) (h1 : d.shp n = true) (h2 : e.shp m = true) (h : P (.bl (eqvD d e)) μ) (hn : n ≤ 64 := by decide) (hm : m ≤ 64 := by decide) : RO K (rEqD K) x y μ P := fun G H al v w A r1 r2 Q hQ =>
  ⟨d.py, e.py, hx.dp A h1 r1, hy.dp A h2 r2, shaped_of hn h1, shaped_of hm h2, hQ.now A (.bl _) h⟩
theorem ro_neD {n m : Nat} (hx : Fz μ x d) (hy : Fz μ y e) (h1 : d.shp n = true) (h2 : e.shp m = true) (h : P (.bl (!eqvD d e)) μ) (hn : n ≤ 64 := by decide) (hm : m ≤ 64 := by decide) : RO K (rNeD K) x y μ P := fun G H al v w A r1 r2 Q hQ =>
  ⟨d.py, e.py, hx.dp A h1 r1, hy.dp A h2 r2, shaped_of hn h1, shaped_of hm h2, hQ.now A (.bl _) h⟩
theorem ro_eqI {i j : Int} (h : P (.bl (decide (i = j))) μ) : RO K (rEqD K) (.int i) (.int j) μ P := ro_eqD (n := 0) (m := 0) (.id _) (.id _) rfl rfl (by rw [eqvD_int]; exact h)
theorem ro_neI {i j : Int} (h : P (.bl (!decide (i = j))) μ) : RO K (rNeD K) (.int i) (.int j) μ P := ro_neD (n := 0) (m := 0) (.id _) (.id _) rfl rfl (by rw [eqvD_int]; exact h)
theorem ro_eqB {i j : Bool} (h : P (.bl (decide (i = j))) μ) : RO K (rEqD K) (.bl i) (.bl j) μ P := ro_eqD (n := 0) (m := 0) (.id _) (.id _) rfl rfl (by rw [eqvD_bl]; exact h)
theorem ro_neB {i j : Bool} (h : P (.bl (!decide (i = j))) μ) : RO K (rNeD K) (.bl i) (.bl j) μ P := ro_neD (n := 0) (m := 0) (.id _) (.id _) rfl rfl (by rw [eqvD_bl]; exact h)
end
end Dl
set_option Elab.async false
set_option linter.all false
set_option maxRecDepth 100000
namespace Dl
open PySem L2
/-! ### what is walked -/
/-- J walks ds, as long as S holds of what may change -/
def ItOk (K : PySem.W.Frag) (J : It) (ds : List D) (S : Mu → Prop) (G H : Hp) (al : List Addr) : Prop := ∀ G2 H2 al2 μ2, Nx G H al G2 H2 al2 → As K G2 H2 al2 μ2 → S μ2 →
  (∀ i, i < ds.length → J.go i H2) ∧ (∀ i, ds.length ≤ i → J.stop i H2) ∧ ∀ i x H3, J.yld i H2 x H3 → ∀ d, ds[i]? = some d → ∃ G3, Nx G2 H2 al2 G3 H3 al2 ∧ As K G3 H3 al2 μ2 ∧ Rp K G3 al2 x d
def DI (K : PySem.W.Frag) (B : Bs) (wi : TI) (ρ : En) (μ : Mu) (P : List D → (Mu → Prop) → Mu → Prop) : Prop := ∀ σ G H al, B.le G H al → RpS K G al σ ρ → As K G H al μ → ∀ R : It → Hp → Prop,
  (∀ J ds S μ' G' H' al', Nx G H al G' H' al' → As K G' H' al' μ' → ItOk K J ds S G' H' al' → P ds S μ' → R J H') → wi σ H R
section
variable {K : PySem.W.Frag} {B : Bs} {ρ : En} {μ : Mu} {te : TE} {ts : TA} {PI' : List D → (Mu → Prop) → Mu → Prop}
theorem itl_ok {G H : Hp} {al : List Addr} {a : Addr} {ds : List D} {S : Mu → Prop} (h : ∀ G2 H2 al2 μ2, Nx G H al G2 H2 al2 → As K G2 H2 al2 μ2 → S μ2 → ∃ vs, SqL K H2 a vs ∧ Rps K G2 al2 vs ds) : ItOk K (Itl K a) ds S G H al := fun G2 H2 al2 μ2 n A s => by
  obtain ⟨vs, sq, r⟩ := h G2 H2 al2 μ2 n A s
  refine ⟨fun i hi => ⟨vs, vs[i]'(by rw [r.length]; exact hi), sq, by simp⟩, fun i hi => ⟨vs, sq, by rw [r.length]; exact hi⟩, fun i x H3 y d hd => ?_⟩
  obtain ⟨rfl, y⟩ := y
  obtain ⟨d', hd', r'⟩ := r.getV (y vs sq)
  rw [hd] at hd'; cases hd'
  exact ⟨G2, .refl, A, r'⟩
/-- lo, lo + 1, .. -/
def rangeD (lo : Int) (n : Nat) : List D := (List.range n).map fun (i : Nat) => D.int (lo + (i : Int))
theorem rangeD_length (lo : Int) (n : Nat) : (rangeD lo n).length = n := by simp [rangeD]
theorem rangeD_get {lo : Int} {n i : Nat} (h : i < n) : (rangeD lo n)[i]? = some (.int (lo + (i : Int))) := by simp [rangeD, h]
theorem rangeD_some {lo : Int} {n i : Nat} {d : D} (h : (rangeD lo n)[i]? = some d) : i < n ∧ d = .int (lo + (i : Int)) := by
  have hi : i < n := by
    have := (List.getElem?_eq_some_iff.mp h).1
    rw [rangeD_length] at this
    exact this
  rw [rangeD_get hi] at h
  exact ⟨hi, (Option.some.inj h).symm⟩
theorem itr_ok {lo : Int} {n : Nat} {G H : Hp} {al : List Addr} : ItOk K (Itr lo n) (rangeD lo n) (fun _ => True) G H al := fun G2 H2 al2 μ2 _ A _ => by
  refine ⟨fun i hi => by rw [rangeD_length] at hi; exact hi, fun i hi => by rw [rangeD_length] at hi; exact hi, fun i x H3 y d hd => ?_⟩
  obtain ⟨rfl, rfl⟩ := y
  obtain ⟨_, rfl⟩ := rangeD_some hd
  exact ⟨G2, .refl, A, .int _⟩
theorem di_range1 (h : DA K B ts ρ μ fun xs μ1 => ∃ n : Int, xs = [.int n] ∧ -(2 ^ 62) ≤ n ∧ n < 2 ^ 62 ∧ PI' (rangeD 0 n.toNat) (fun _ => True) μ1) : DI K B (iRng1 ts) ρ μ PI' := fun σ G H al hB hσ hA R hR =>
  h σ G H al hB hσ hA _ fun vs ds μ1 G1 H1 al1 n1 A1 r1 p1 => by
    obtain ⟨n, rfl, h1, h2, p⟩ := p1
    obtain ⟨v, rfl, r⟩ := rps1 r1
    cases r
    exact ⟨n, rfl, h1, h2, hR _ _ _ μ1 G1 H1 al1 n1 A1 itr_ok p⟩
theorem di_range2 (h : DA K B ts ρ μ fun xs μ1 => ∃ lo n : Int, xs = [.int lo, .int n] ∧ (-(2 ^ 62) ≤ lo ∧ lo < 2 ^ 62 ∧ -(2 ^ 62) ≤ n ∧ n < 2 ^ 62) ∧ PI' (rangeD lo (n - lo).toNat) (fun _ => True) μ1) : DI K B (iRng2 ts) ρ μ PI' := fun σ G H al hB hσ hA R hR =>
  h σ G H al hB hσ hA _ fun vs ds μ1 G1 H1 al1 n1 A1 r1 p1 => by
    obtain ⟨lo, n, rfl, h1, p⟩ := p1
    obtain ⟨v, w, rfl, r, r'⟩ := rps2 r1
    cases r; cases r'
    exact ⟨lo, n, rfl, h1, hR _ _ _ μ1 G1 H1 al1 n1 A1 itr_ok p⟩
/-- enumerate -/
def enumD (ds : List D) : List D := ds.mapIdx fun i d => .tup [.int (i : Int), d]
theorem enumD_length (ds : List D) : (enumD ds).length = ds.length := by simp [enumD]
theorem enumD_some {ds : List D} {i : Nat} {d : D} (h : (enumD ds)[i]? = some d) : ∃ x, ds[i]? = some x ∧ d = .tup [.int (i : Int), x] := by
  simp only [enumD, List.getElem?_mapIdx] at h
  cases q : ds[i]? with
  | none => rw [q] at h; cases h
  | some x => rw [q] at h; exact ⟨x, rfl, (Option.some.inj h).symm⟩
theorem di_enum (h : DA K B ts ρ μ fun xs μ1 => ∃ x ds, xs = [x] ∧ ((x = .lst ds ∧ PI' (enumD ds) (fun _ => True) μ1) ∨ (x = .rdl ds ∧ PI' (enumD ds) (fun _ => True) μ1) ∨ ∃ k, x = .own k ∧ μ1[k]? = some (.lst ds) ∧ PI' (enumD ds) (fun μ' => μ'[k]? = some (.lst ds)) μ1)) : DI K B (iEnum K ts) ρ μ PI' := fun σ G H al hB hσ hA R hR =>
  h σ G H al hB hσ hA _ fun vs ds μ1 G1 H1 al1 n1 A1 r1 p1 => by
    obtain ⟨x, xs, rfl, p1⟩ := p1
    obtain ⟨v, rfl, r⟩ := rps1 r1
    have key : ∃ a S, v = .ref a ∧ PI' (enumD xs) S μ1 ∧ S μ1 ∧ ∀ G2 H2 al2 μ2, Nx G1 H1 al1 G2 H2 al2 → As K G2 H2 al2 μ2 → S μ2 → ∃ vs, SqL K H2 a vs ∧ Rps K G2 al2 vs xs := by
      rcases p1 with ⟨rfl, p⟩ | ⟨rfl, p⟩ | ⟨k, rfl, hk, p⟩
      · cases r with | lst e rs => exact ⟨_, _, rfl, p, trivial, fun G2 H2 al2 μ2 n2 A2 _ => ⟨_, .inl (.inl (A2.sub _ _ (n2.g _ _ e))), rs.nx n2⟩⟩
      · cases r with | rdl e rs => exact ⟨_, _, rfl, p, trivial, fun G2 H2 al2 μ2 n2 A2 _ => ⟨_, sql_mono A2.sub (sql_mono n2.g e), rs.nx n2⟩⟩
      · obtain ⟨a, ha, ga, vs, hv, rs⟩ := A1.get hk
        cases r with
        | own e =>
          rw [ha] at e; cases e
          refine ⟨_, _, rfl, p, hk, fun G2 H2 al2 μ2 n2 A2 s => ?_⟩
          obtain ⟨a2, ha2, ga2, vs2, hv2, rs2⟩ := A2.get s
          rw [n2.p.get ha] at ha2; cases ha2
          exact ⟨vs2, .inl (.inl hv2), rs2⟩
    obtain ⟨a, S, rfl, p, s1, key⟩ := key
    obtain ⟨vs1, sq1, _⟩ := key G1 H1 al1 μ1 .refl A1 s1
    refine ⟨a, vs1, rfl, sq1, hR _ _ S μ1 G1 H1 al1 n1 A1 (fun G2 H2 al2 μ2 n2 A2 s => ?_) p⟩
    obtain ⟨vs, sq, r⟩ := key G2 H2 al2 μ2 n2 A2 s
    rw [enumD_length]
    refine ⟨fun i hi => ⟨vs, vs[i]'(by rw [r.length]; exact hi), sq, by simp⟩, fun i hi => ⟨vs, sq, by rw [r.length]; exact hi⟩, fun i x H3 y d hd => ?_⟩
    obtain ⟨T, z, rfl, hT, rfl, y⟩ := y
    obtain ⟨w, hw, rfl⟩ := enumD_some hd
    obtain ⟨d', hd', r'⟩ := r.getV (y vs sq)
    rw [hw] at hd'; cases hd'
    obtain ⟨A3, n3⟩ := A2.frz (o := .tup [.int (i : Nat), z]) hT
    exact ⟨_, n3, A3, .tup upd_same (.cons (.int _) (.cons (r'.nx n3) .nil))⟩
/-- the signs of a text -/
def signsD (x : Str) : List D := x.cps.toList.map fun c => .str ⟨#[c]⟩
/-! ### for -/
theorem ds_for {wi : TI} {g : TG} {tb : TS} {P : DEnds} (h : DI K B wi ρ μ fun ds S μ1 => ∃ Iv : Nat → En → Mu → Prop, Iv 0 ρ μ1 ∧ (∀ i ρ' μ', i ≤ ds.length → Iv i ρ' μ' → S μ') ∧
      (∀ i d ρ' μ', ds[i]? = some d → Iv i ρ' μ' → DG K B g d ρ' μ' fun ρ2 μ2 => DS K B tb ρ2 μ2 { P with nx := Iv (i + 1), ct := Iv (i + 1), bk := P.nx }) ∧ (∀ ρ' μ', Iv ds.length ρ' μ' → P.nx ρ' μ')) : DS K B (tFor wi g tb) ρ μ P := fun σ G H al hB hσ hA De hD =>
  h σ G H al hB hσ hA _ fun J ds S μ1 G1 H1 al1 n1 A1 ok p1 => by
    obtain ⟨Iv, h0, hS, hs, hd⟩ := p1
    refine ⟨fun i m σ' H' => m = ds.length - i ∧ i ≤ ds.length ∧ ∃ G' al' ρ' μ', Nx G1 H1 al1 G' H' al' ∧ RpS K G' al' σ' ρ' ∧ As K G' H' al' μ' ∧ Iv i ρ' μ', ⟨ds.length, by simp, Nat.zero_le _, G1, al1, ρ, μ1, .refl, hσ.nx n1, A1, h0⟩, ?_⟩
    rintro i m σ' H' ⟨rfl, hi, G', al', ρ', μ', n', hσ', A', iv⟩
    obtain ⟨go, stop, yld⟩ := ok G' H' al' μ' n' A' (hS i ρ' μ' hi iv)
    by_cases hlt : i < ds.length
    · refine .inr ⟨go i hlt, fun σ2 H2 => ∃ G2 al2 ρ2 μ2, Nx G1 H1 al1 G2 H2 al2 ∧ RpS K G2 al2 σ2 ρ2 ∧ As K G2 H2 al2 μ2 ∧ Iv (i + 1) ρ2 μ2, fun σ2 H2 q => ⟨ds.length - (i + 1), by omega, rfl, hlt, q⟩, fun x H3 y => ?_⟩
      obtain ⟨G3, n3, A3, r3⟩ := yld i x H3 y _ (List.getElem?_eq_getElem hlt)
      have q := hs i _ ρ' μ' (List.getElem?_eq_getElem hlt) iv σ' G3 H3 al' x (((hB.trans n1).trans n').trans n3) (hσ'.nx n3) A3 r3
      refine q _ fun σ4 ρ4 μ4 G4 H4 al4 n4 hσ4 A4 p4 => ?_
      have nn : Nx G1 H1 al1 G4 H4 al4 := (n'.trans n3).trans n4
      exact p4 σ4 G4 H4 al4 ((hB.trans n1).trans nn) hσ4 A4 _ ⟨fun σ5 ρ5 μ5 G5 H5 al5 n5 hσ5 A5 p5 => ⟨G5, al5, ρ5, μ5, nn.trans n5, hσ5, A5, p5⟩, hD.rt.nx (n1.trans nn), hD.nx.nx (n1.trans nn), fun σ5 ρ5 μ5 G5 H5 al5 n5 hσ5 A5 p5 => ⟨G5, al5, ρ5, μ5, nn.trans n5, hσ5, A5, p5⟩⟩
    · have e : i = ds.length := by omega
      subst e
      exact .inl ⟨stop _ (Nat.le_refl _), hD.nx _ _ μ' G' H' al' (n1.trans n') hσ' A' (hd ρ' μ' iv)⟩
/-! ### while -/
end
/-! ### comprehensions -/
def wipeD (ρ : En) : List Nat → En
  | [] => ρ
  | v :: vs => (wipeD ρ vs).set v none
theorem wipe_rps {K : PySem.W.Frag} {G : Hp} {al : List Addr} {σ : St} {ρ : En} (h : RpS K G al σ ρ) : ∀ vs : List Nat, RpS K G al (wipe σ vs) (wipeD ρ vs)
  | [] => h
  | v :: vs => (wipe_rps h vs).forget v none
theorem wipe_set {σ : St} {j : Nat} {x : Option V} : ∀ {vs : List Nat}, j ∈ vs → wipe (σ.set j x) vs = wipe σ vs
  | [], h => by simp at h
  | v :: vs, h => by
    by_cases hv : j ∈ vs
    · unfold wipe; rw [wipe_set hv]
    · have e : j = v := by simpa [hv] using h
      subst e
      have q : ∀ (ws : List Nat), j ∉ ws → wipe (σ.set j x) ws = (wipe σ ws).set j x := by
        intro ws
        induction ws with
        | nil => intro _; rfl
        | cons w ws ih =>
          intro hn
          simp only [List.mem_cons, not_or] at hn
          unfold wipe
          rw [ih hn.2, List.set_comm _ _ (fun z => hn.1 z)]
      unfold wipe
      rw [q vs hv, List.set_set]
theorem wipe_wipe (σ : St) : ∀ vs ws : List Nat, (∀ w ∈ ws, w ∈ vs) → wipe (wipe σ ws) vs = wipe σ vs
  | vs, [], _ => rfl
  | vs, w :: ws, h => by
    show wipe ((wipe σ ws).set w none) vs = wipe σ vs
    rw [wipe_set (h w (by simp)), wipe_wipe σ vs ws fun x hx => h x (by simp [hx])]
/-- a target that stores in vs alone -/
def GW (g : TG) (vs : List Nat) : Prop := ∀ x σ H (Q : St → Hp → Prop), g x σ H Q → g x σ H fun σ2 H2 => wipe σ2 vs = wipe σ vs ∧ Q σ2 H2
def GWs (g : TGs) (vs : List Nat) : Prop := ∀ xs σ H (Q : St → Hp → Prop), g xs σ H Q → g xs σ H fun σ2 H2 => wipe σ2 vs = wipe σ vs ∧ Q σ2 H2
theorem gw_name {i : Nat} {vs : List Nat} (h : i ∈ vs) : GW (gName i) vs := fun x σ H Q q => ⟨wipe_set h, q⟩
theorem gws_nil {vs : List Nat} : GWs gNil vs := fun xs σ H Q q => ⟨q.1, rfl, q.2⟩
theorem gws_cons {i : Nat} {gs : TGs} {vs : List Nat} (h : i ∈ vs) (h2 : GWs gs vs) : GWs (gCons (gName i) gs) vs := fun xs σ H Q q => by
  obtain ⟨v, r, e, q⟩ := q
  refine ⟨v, r, e, ?_⟩
  have z := h2 r (σ.set i (some v)) H Q q
  rw [show wipe (σ.set i (some v)) vs = wipe σ vs from wipe_set h] at z
  exact z
theorem gw_tup {K : PySem.W.Frag} {n : Nat} {gs : TGs} {vs : List Nat} (h : GWs gs vs) : GW (gTup K n gs) vs := fun x σ H Q q => by
  obtain ⟨a, xs, e, s, l, q⟩ := q
  exact ⟨a, xs, e, s, l, h xs σ H Q q⟩
section
variable {K : PySem.W.Frag} {B : Bs} {ρ : En} {μ : Mu} {te : TE} {tt : TT} {wi : TI} {g : TG} {vs : List Nat} {P : D → Mu → Prop}
/-- the list that a comprehension makes is frozen at its end -/
theorem de_lc (hg : GW g vs) (h : DI K B wi ρ μ fun ds S μ1 => ds.length ≤ 100000 ∧ ∃ Iv : Nat → List D → Mu → Prop, Iv 0 [] μ1 ∧ (∀ i acc μ', i ≤ ds.length → Iv i acc μ' → S μ') ∧
      (∀ i d acc μ', ds[i]? = some d → Iv i acc μ' → DG K B g d (wipeD ρ vs) μ' fun ρ2 μ2 => DT K B tt ρ2 μ2 fun b μ3 => (b = true → DE K B te ρ2 μ3 fun y μ4 => Iv (i + 1) (acc ++ [y]) μ4) ∧ (b = false → Iv (i + 1) acc μ3)) ∧
      (∀ acc μ', Iv ds.length acc μ' → P (.lst acc) μ')) : DE K B (tLc wi g tt te vs) ρ μ P := fun σ G H al hB hσ hA Q hQ =>
  h σ G H al hB hσ hA _ fun J ds S μ1 G1 H1 al1 n1 A1 ok p1 => by
    obtain ⟨hlen, Iv, h0, hS, hs, hd⟩ := p1
    intro Dl hDl
    have nDl : Dl ∉ al1 := fun m => A1.here Dl m hDl
    have gDl : G1 Dl = none := A1.sub.free hDl
    -- a store to the list that is made
    have store : ∀ {G' H' al' μ' ac}, Nx G1 H1 al1 G' H' al' → As K G' H' al' μ' → G' Dl = none → Dl ∉ al' → As K G' (upd H' Dl (.lst ac)) al' μ' ∧ Nx G1 H1 al1 G' (upd H' Dl (.lst ac)) al' := by
      intro G' H' al' μ' ac n A g' nal
      refine ⟨⟨fun b u e => by rw [upd_ne (ne_of_none e g')]; exact A.sub _ _ e, A.nd, A.len, fun a m => ?_, fun k a o e1 e2 => ?_⟩, ⟨n.g, n.p, fun a u h m => ?_, n.out, n.new⟩⟩
      · have z : a ≠ Dl := fun z => nal (z ▸ m)
        rw [upd_ne z]; exact A.here a m
      · have z : a ≠ Dl := fun z => nal (z ▸ List.mem_of_getElem? e1)
        exact OkO.mono (Same.refl _) (Pre.refl _) (fun _ g => g) (by rw [upd_ne z]) (A.ok k a o e1 e2)
      · rw [upd_ne (ne_of_none h hDl)]; exact n.keep a u h m
    -- Dl stays where it is through a step
    have stay : ∀ {G' H' al' G'' H'' al'' u}, Nx G' H' al' G'' H'' al'' → H' Dl = some (.lst u) → G' Dl = none → Dl ∉ al' → H'' Dl = some (.lst u) ∧ G'' Dl = none ∧ Dl ∉ al'' := by
      intro G' H' al' G'' H'' al'' u n h g' nal
      refine ⟨n.keep Dl (.lst u) h nal, n.out Dl (by rw [h]; simp) (fun vs e => by rw [h] at e; cases e) nal g', fun m => ?_⟩
      rcases n.new Dl m with z | z
      · exact nal z
      · rw [h] at z; cases z
    obtain ⟨A0, N0⟩ := store (ac := []) .refl A1 gDl nDl
    refine ⟨fun i m H' => m = ds.length - i ∧ i ≤ ds.length ∧ ∃ G' al' μ' acc vacc, Nx G1 H1 al1 G' H' al' ∧ As K G' H' al' μ' ∧ H' Dl = some (.lst vacc) ∧ Rps K G' al' vacc acc ∧ G' Dl = none ∧ Dl ∉ al' ∧ acc.length ≤ i ∧ Iv i acc μ',
      ⟨ds.length, by simp, Nat.zero_le _, G1, al1, μ1, [], [], N0, A0, upd_same, .nil, gDl, nDl, Nat.le_refl _, h0⟩, ?_⟩
    rintro i m H' ⟨rfl, hi, G', al', μ', acc, vacc, n', A', hv, rv, g', nal, hacc, iv⟩
    obtain ⟨go, stop, yld⟩ := ok G' H' al' μ' n' A' (hS i acc μ' hi iv)
    by_cases hlt : i < ds.length
    · refine .inr ⟨go i hlt, fun H2 => ∃ G2 al2 μ2 acc vacc, Nx G1 H1 al1 G2 H2 al2 ∧ As K G2 H2 al2 μ2 ∧ H2 Dl = some (.lst vacc) ∧ Rps K G2 al2 vacc acc ∧ G2 Dl = none ∧ Dl ∉ al2 ∧ acc.length ≤ i + 1 ∧ Iv (i + 1) acc μ2, fun H2 q => ⟨ds.length - (i + 1), by omega, rfl, hlt, q⟩, fun x H3 y => ?_⟩
      obtain ⟨G3, n3, A3, r3⟩ := yld i x H3 y _ (List.getElem?_eq_getElem hlt)
      obtain ⟨hv3, g3, nal3⟩ := stay n3 hv g' nal
      have nn3 := n'.trans n3
      have hw : RpS K G3 al' (wipe σ vs) (wipeD ρ vs) := wipe_rps ((hσ.nx n1).nx nn3) vs
      have q := hs i _ acc μ' (List.getElem?_eq_getElem hlt) iv (wipe σ vs) G3 H3 al' x (((hB.trans n1).trans n').trans n3) hw A3 r3
      have q2 := hg x (wipe σ vs) H3 _ (q (fun σ2 H2 => tt σ2 H2 fun b H3 => if b = true then te σ2 H3 fun y H4 => ∃ acc, H4 Dl = some (.lst acc) ∧ acc.length < sizeLine ∧ (∃ G2 al2 μ2 acc' vacc, Nx G1 H1 al1 G2 (upd H4 Dl (.lst (acc ++ [y]))) al2 ∧ As K G2 (upd H4 Dl (.lst (acc ++ [y]))) al2 μ2 ∧ (upd H4 Dl (.lst (acc ++ [y]))) Dl = some (.lst vacc) ∧ Rps K G2 al2 vacc acc' ∧ G2 Dl = none ∧ Dl ∉ al2 ∧ acc'.length ≤ i + 1 ∧ Iv (i + 1) acc' μ2)
          else (∃ G2 al2 μ2 acc' vacc, Nx G1 H1 al1 G2 H3 al2 ∧ As K G2 H3 al2 μ2 ∧ H3 Dl = some (.lst vacc) ∧ Rps K G2 al2 vacc acc' ∧ G2 Dl = none ∧ Dl ∉ al2 ∧ acc'.length ≤ i + 1 ∧ Iv (i + 1) acc' μ2)) fun σ4 ρ4 μ4 G4 H4 al4 n4 hσ4 A4 p4 => ?_)
      · rw [wipe_wipe σ vs vs fun _ h => h] at q2
        exact q2
      · obtain ⟨hv4, g4, nal4⟩ := stay n4 hv3 g3 nal3
        have nn4 := nn3.trans n4
        refine p4 σ4 G4 H4 al4 ((hB.trans n1).trans nn4) hσ4 A4 _ fun b μ5 G5 H5 al5 n5 A5 p5 => ?_
        obtain ⟨hv5, g5, nal5⟩ := stay n5 hv4 g4 nal4
        have nn5 := nn4.trans n5
        cases b with
        | false =>
          rw [if_neg (by simp)]
          exact ⟨G5, al5, μ5, acc, vacc, nn5, A5, hv5, (((rv.nx n3).nx n4).nx n5), g5, nal5, Nat.le_succ_of_le hacc, p5.2 rfl⟩
        | true =>
          rw [if_pos rfl]
          refine p5.1 rfl σ4 G5 H5 al5 ((hB.trans n1).trans nn5) (hσ4.nx n5) A5 _ fun yv y μ6 G6 H6 al6 n6 A6 r6 p6 => ?_
          obtain ⟨hv6, g6, nal6⟩ := stay n6 hv5 g5 nal5
          have rv6 := (((rv.nx n3).nx n4).nx n5).nx n6
          obtain ⟨A7, n7⟩ := store (ac := vacc ++ [yv]) (nn5.trans n6) A6 g6 nal6
          refine ⟨vacc, hv6, ?_, G6, al6, μ6, acc ++ [y], vacc ++ [yv], n7, A7, upd_same, rv6.append (.cons r6 .nil), g6, nal6, by simp; omega, p6⟩
          rw [rv6.length]
          exact Nat.lt_of_lt_of_le (Nat.lt_of_le_of_lt hacc (Nat.lt_of_lt_of_le hlt hlen)) (by decide)
    · have e : i = ds.length := by omega
      subst e
      refine .inl ⟨stop _ (Nat.le_refl _), ?_⟩
      have s1 : Same G' (upd G' Dl (.lst vacc)) := fun b u e => by rw [upd_ne (ne_of_none e g')]; exact e
      have A7 : As K (upd G' Dl (.lst vacc)) H' al' μ' := by
        refine ⟨fun b u e => ?_, A'.nd, A'.len, A'.here, fun k a o e1 e2 => ?_⟩
        · by_cases hb : b = Dl
          · subst hb; rw [upd_same] at e; rw [← e]; exact hv
          · rw [upd_ne hb] at e; exact A'.sub _ _ e
        · have z : a ≠ Dl := fun z => nal (z ▸ List.mem_of_getElem? e1)
          exact OkO.mono s1 (Pre.refl _) (fun _ g => by rw [upd_ne z]; exact g) rfl (A'.ok k a o e1 e2)
      have n7 : Nx G1 H1 al1 (upd G' Dl (.lst vacc)) H' al' := ⟨n'.g.trans s1, n'.p, n'.keep, fun a h t m g => by
        have z : a ≠ Dl := fun z => h (by rw [z]; exact hDl)
        rw [upd_ne z]; exact n'.out a h t m g, n'.new⟩
      exact hQ _ _ _ _ _ _ (n1.trans n7) A7 (.lst upd_same (rv.mono s1 (Pre.refl _))) (hd acc μ' iv)
theorem dt_yes {PT' : Bool → Mu → Prop} (h : PT' true μ) : DT K B tYes ρ μ PT' := fun σ G H al hB hσ hA Q hQ => hQ true μ G H al .refl hA h
end
end Dl
set_option Elab.async false
set_option linter.all false
set_option maxRecDepth 100000
namespace Dl
open PySem L2 PyProof.Rows
/-! ### what names no thing from the n-th on -/
mutual
def D.cl : D → Nat → Bool
  | .tup xs, n => clL xs n
  | .lst xs, n => clL xs n
  | .rdl xs, n => clL xs n
  | .rdt xs, n => clL xs n
  | .obj _ gs, n => clF gs n
  | .exc _ gs, n => clF gs n
  | .dct gs, n => clK gs n
  | .own k, n => decide (k < n)
  | .non, _ => true
  | .bl _, _ => true
  | .int _, _ => true
  | .str _, _ => true
  | .ty _, _ => true
  | .loc _, _ => true
def clL : List D → Nat → Bool
  | [], _ => true
  | x :: xs, n => D.cl x n && clL xs n
def clF : List (Str × D) → Nat → Bool
  | [], _ => true
  | (_, x) :: xs, n => D.cl x n && clF xs n
def clK : List (Key × D) → Nat → Bool
  | [], _ => true
  | (_, x) :: xs, n => D.cl x n && clK xs n
end
def MO.cl : MO → Nat → Bool
  | .dead, _ => true
  | .lst xs, n => clL xs n
  | .ins _ gs, n => clF gs n
  | .dK gs, n => clK gs n
  | .dT gs, n => clL (gs.map (·.2)) n
  | .tab _ _, _ => true
theorem clL_iff {xs : List D} {n : Nat} : clL xs n = true ↔ ∀ x ∈ xs, x.cl n = true := by
  induction xs with
  | nil => simp [clL]
  | cons x xs ih => simp [clL, ih]
theorem clL_map {α : Type} {f : α → D} {xs : List α} {n : Nat} (h : ∀ x ∈ xs, (f x).cl n = true) : clL (xs.map f) n = true := by
  rw [clL_iff]
  intro x hx
  obtain ⟨a, ha, rfl⟩ := List.mem_map.mp hx
  exact h a ha
@[simp] theorem clL_append {xs ys : List D} {n : Nat} : clL (xs ++ ys) n = (clL xs n && clL ys n) := by
  induction xs with
  | nil => simp [clL]
  | cons x xs ih => simp [clL, ih, Bool.and_assoc]
section
variable {K : PySem.W.Frag} {G : Hp} {al be : List Addr}
mutual
theorem Rp.cl : ∀ {v : V} {d : D}, Rp K G al v d → d.cl al.length = true
  | _, _, .non => by simp [D.cl]
  | _, _, .bl _ => by simp [D.cl]
  | _, _, .int _ => by simp [D.cl]
  | _, _, .str _ => by simp [D.cl]
  | _, _, .ty _ => by simp [D.cl]
  | _, _, .tup _ r => by unfold D.cl; exact Rps.cl r
  | _, _, .lst _ r => by unfold D.cl; exact Rps.cl r
  | _, _, .rdl _ r => by unfold D.cl; exact Rps.cl r
  | _, _, .rdt _ r => by unfold D.cl; exact Rps.cl r
  | _, _, .obj _ r => by unfold D.cl; exact Rpf.cl r
  | _, _, .dct _ r => by unfold D.cl; exact Rpk.cl r
  | _, _, .own h => by unfold D.cl; exact decide_eq_true (List.getElem?_eq_some_iff.mp h).1
  | _, _, .loc _ => by simp [D.cl]
  | _, _, .exc _ _ r => by unfold D.cl; exact Rpf.cl r
theorem Rps.cl : ∀ {v : List V} {d : List D}, Rps K G al v d → clL d al.length = true
  | _, _, .nil => by simp [clL]
  | _, _, .cons h r => by unfold clL; rw [Rp.cl h, Rps.cl r]; rfl
theorem Rpf.cl : ∀ {v : List (Str × V)} {d : List (Str × D)}, Rpf K G al v d → clF d al.length = true
  | _, _, .nil => by simp [clF]
  | _, _, .cons h r => by unfold clF; rw [Rp.cl h, Rpf.cl r]; rfl
theorem Rpk.cl : ∀ {v : List (Key × V)} {d : List (Key × D)}, Rpk K G al v d → clK d al.length = true
  | _, _, .nil => by simp [clK]
  | _, _, .cons h r => by unfold clK; rw [Rp.cl h, Rpk.cl r]; rfl
end
mutual
theorem Rp.shrink : ∀ {v : V} {d : D}, Rp K G (al ++ be) v d → d.cl al.length = true → Rp K G al v d
  | _, _, .non, _ => .non
  | _, _, .bl b, _ => .bl b
  | _, _, .int i, _ => .int i
  | _, _, .str x, _ => .str x
  | _, _, .ty x, _ => .ty x
  | _, _, .tup e r, h => .tup e (Rps.shrink r (by unfold D.cl at h; exact h))
  | _, _, .lst e r, h => .lst e (Rps.shrink r (by unfold D.cl at h; exact h))
  | _, _, .rdl e r, h => .rdl e (Rps.shrink r (by unfold D.cl at h; exact h))
  | _, _, .rdt e r, h => .rdt e (Rps.shrink r (by unfold D.cl at h; exact h))
  | _, _, .obj e r, h => .obj e (Rpf.shrink r (by unfold D.cl at h; exact h))
  | _, _, .dct e r, h => .dct e (Rpk.shrink r (by unfold D.cl at h; exact h))
  | _, _, .own e, h => .own (by
      unfold D.cl at h
      rw [List.getElem?_append_left (of_decide_eq_true h)] at e
      exact e)
  | _, _, .loc a, _ => .loc a
  | _, _, .exc e d r, h => .exc e d (Rpf.shrink r (by unfold D.cl at h; exact h))
theorem Rps.shrink : ∀ {v : List V} {d : List D}, Rps K G (al ++ be) v d → clL d al.length = true → Rps K G al v d
  | _, _, .nil, _ => .nil
  | _, _, .cons r t, h => by
    unfold clL at h; simp at h
    exact .cons (Rp.shrink r h.1) (Rps.shrink t h.2)
theorem Rpf.shrink : ∀ {v : List (Str × V)} {d : List (Str × D)}, Rpf K G (al ++ be) v d → clF d al.length = true → Rpf K G al v d
  | _, _, .nil, _ => .nil
  | _, _, .cons r t, h => by
    unfold clF at h; simp at h
    exact .cons (Rp.shrink r h.1) (Rpf.shrink t h.2)
theorem Rpk.shrink : ∀ {v : List (Key × V)} {d : List (Key × D)}, Rpk K G (al ++ be) v d → clK d al.length = true → Rpk K G al v d
  | _, _, .nil, _ => .nil
  | _, _, .cons r t, h => by
    unfold clK at h; simp at h
    exact .cons (Rp.shrink r h.1) (Rpk.shrink t h.2)
end
end
def MuCl (μ : Mu) (n : Nat) : Prop := ∀ o ∈ μ, o.cl n = true
section
variable {K : PySem.W.Frag} {G H : Hp} {al be : List Addr} {μ ext : Mu}
theorem As.cl (A : As K G H al μ) : MuCl μ μ.length := fun o ho => by
  obtain ⟨k, hk⟩ := List.getElem?_of_mem ho
  obtain ⟨a, ha, ok⟩ := A.get hk
  rw [← A.len]
  cases o with
  | dead => rfl
  | lst ds => obtain ⟨_, _, _, r⟩ := ok; exact r.cl
  | ins C gs => obtain ⟨_, _, _, _, r⟩ := ok; exact r.cl
  | dK gs => obtain ⟨_, _, _, r⟩ := ok; exact r.cl
  | dT gs => obtain ⟨_, _, _, _, r⟩ := ok; exact r.cl
  | tab _ _ => rfl
theorem As.shrink (A : As K G H (al ++ be) (μ ++ ext)) (hl : al.length = μ.length) (hc : MuCl μ μ.length) : As K G H al μ := by
  refine ⟨A.sub, (List.nodup_append.mp A.nd).1, hl, fun a m => A.here a (List.mem_append_left _ m), fun k a o e1 e2 => ?_⟩
  have hk : k < al.length := (List.getElem?_eq_some_iff.mp e1).1
  have ok := A.ok k a o (by rw [List.getElem?_append_left hk]; exact e1) (by rw [List.getElem?_append_left (by rw [← hl]; exact hk)]; exact e2)
  have c := hc o (List.mem_of_getElem? e2)
  rw [← hl] at c
  cases o with
  | dead => trivial
  | lst ds => obtain ⟨g, vs, e, r⟩ := ok; exact ⟨g, vs, e, r.shrink c⟩
  | ins C gs => obtain ⟨g, dx, vs, e, r⟩ := ok; exact ⟨g, dx, vs, e, r.shrink c⟩
  | dK gs => obtain ⟨g, vs, e, r⟩ := ok; exact ⟨g, vs, e, r.shrink c⟩
  | dT gs => obtain ⟨g, vs, e, q, r⟩ := ok; exact ⟨g, vs, e, q, r.shrink c⟩
  | tab _ _ => exact ok
theorem Nx.shrink {G' H' : Hp} {al' : List Addr} (n : Nx G H al G' H' (al ++ al')) : Nx G H al G' H' al := ⟨n.g, Pre.refl _, n.keep, n.out, fun a m => .inl m⟩
end
/-! ### exceptions -/
abbrev PXT := Addr → List (Str × D) → Mu → Prop
/-- the own dict of an exception, frozen -/
def XRep (K : PySem.W.Frag) (G : Hp) (al : List Addr) (dd : Option Addr) (fs : List (Str × D)) : Prop := (dd = none ∧ fs = []) ∨ ∃ d vs, dd = some d ∧ G d = some (.xd vs) ∧ Rpf K G al vs fs
def XAg (K : PySem.W.Frag) (B : Bs) (PX : PXT) (E : XK) : Prop := ∀ C fs dd μ' G' H' al', B.le G' H' al' → As K G' H' al' μ' → XRep K G' al' dd fs → PX C fs μ' → E (.ref C) dd H'
theorem XAg.nx {K : PySem.W.Frag} {B : Bs} {PX : PXT} {E : XK} {G H : Hp} {al : List Addr} (n : B.le G H al) (h : XAg K B PX E) : XAg K ⟨G, H, al⟩ PX E := fun C fs dd μ' G' H' al' n' A r p => h C fs dd μ' G' H' al' (n.trans n') A r p
theorem XAg.none {K : PySem.W.Frag} {B : Bs} {E : XK} : XAg K B (fun _ _ _ => False) E := fun _ _ _ _ _ _ _ _ _ _ p => p.elim
theorem Rpf.nx {K : PySem.W.Frag} {G H G1 H1 : Hp} {al al1 : List Addr} (n : Nx G H al G1 H1 al1) {v : List (Str × V)} {d : List (Str × D)} (h : Rpf K G al v d) : Rpf K G1 al1 v d := h.mono n.g n.p
/-! ### contracts -/
abbrev CT := List D → Mu → (D → Mu → Prop) → PXT → Prop
def spD (K : PySem.W.Frag) (C : CT) : Sp := fun vs H Q E => ∃ G al ds μ P PX, As K G H al μ ∧ Rps K G al vs ds ∧ C ds μ P PX ∧ KV K G H al P Q ∧ XAg K ⟨G, H, al⟩ PX E
/-- behind a call: the callee's own things are forgotten, but those that are handed on -/
def Ret (n : Nat) (P : D → Mu → Prop) (d : D) (μ' : Mu) : Prop := ∃ μ1 ext, μ' = μ1 ++ ext ∧ n ≤ μ1.length ∧ MuCl μ1 μ1.length ∧ d.cl μ1.length = true ∧ P d μ1
def RetX (n : Nat) (PX : PXT) : PXT := fun C fs μ' => ∃ μ1 ext, μ' = μ1 ++ ext ∧ μ1.length = n ∧ MuCl μ1 n ∧ clF fs n = true ∧ PX C fs μ1
theorem XAg.ret {K : PySem.W.Frag} {G1 H1 G2 H2 : Hp} {al1 al2 : List Addr} {PX : PXT} {E : XK} (h : XAg K ⟨G1, H1, al1⟩ PX E) (n2 : Nx G1 H1 al1 G2 H2 al2) : XAg K ⟨G2, H2, al2⟩ (RetX al1.length PX) E := by
  intro C fs dd μ' G' H' al' n A' xr ⟨μ1, ext, e, hl, hcl, hf, hp⟩
  have n' : Nx G1 H1 al1 G' H' al' := n2.trans n
  obtain ⟨be, rfl⟩ := n'.p
  subst e
  refine h C fs dd μ1 G' H' al1 n'.shrink (A'.shrink hl.symm (by rw [hl]; exact hcl)) ?_ hp
  rcases xr with ⟨h1, h2⟩ | ⟨d, vs, h1, h2, h3⟩
  · exact .inl ⟨h1, h2⟩
  · exact .inr ⟨d, vs, h1, h2, h3.shrink hf⟩
def fnE (n : Nat) (P : D → Mu → Prop) : DEnds := { nx := fun _ μ' => Ret n P .non μ', rt := Ret n P }
theorem ret_same {μ ext : Mu} {n : Nat} {P : D → Mu → Prop} {d : D} (hn : n ≤ μ.length) (hc : MuCl μ μ.length) (hd : d.cl μ.length = true) (h : P d μ) : Ret n P d (μ ++ ext) := ⟨μ, ext, rfl, hn, hc, hd, h⟩
theorem ret_same0 {μ : Mu} {n : Nat} {P : D → Mu → Prop} {d : D} (hn : n ≤ μ.length) (hc : MuCl μ μ.length) (hd : d.cl μ.length = true) (h : P d μ) : Ret n P d μ := ⟨μ, [], by simp, hn, hc, hd, h⟩
theorem retx_same0 {μ : Mu} {PX : PXT} {C : Addr} {fs : List (Str × D)} (hc : MuCl μ μ.length) (hd : clF fs μ.length = true) (h : PX C fs μ) : RetX μ.length PX C fs μ := ⟨μ, [], by simp, rfl, hc, hd, h⟩
theorem MuCl.set {μ : Mu} {n k : Nat} {o : MO} (h : MuCl μ n) (ho : o.cl n = true) : MuCl (μ.set k o) n := fun x hx => by
  rcases List.mem_or_eq_of_mem_set hx with m | e
  · exact h x m
  · subst e; exact ho
theorem MuCl.get {μ : Mu} {n k : Nat} {o : MO} (h : MuCl μ n) (e : μ[k]? = some o) : o.cl n = true := h o (List.mem_of_getElem? e)
def startD (N : List Str) (ds : List D) : En := ds.map some ++ List.replicate (N.length - ds.length) none
theorem start_rp {K : PySem.W.Frag} {G : Hp} {al : List Addr} {N : List Str} {vs : List V} {ds : List D} (h : Rps K G al vs ds) : RpS K G al (L2.start N vs) (startD N ds) := by
  have hl := h.length
  refine ⟨by simp [L2.start, startD, hl], fun i d e => ?_⟩
  unfold startD at e
  unfold L2.start
  by_cases hi : i < ds.length
  · rw [List.getElem?_append_left (by simpa using hi), List.getElem?_map] at e
    cases q : ds[i]? with
    | none => rw [q] at e; cases e
    | some x =>
      rw [q] at e
      have ex : x = d := by simpa using e
      subst ex
      obtain ⟨v, hv, r⟩ := h.get q
      refine ⟨v, ?_, r⟩
      rw [List.getElem?_append_left (by simp [hl, hi]), List.getElem?_map, hv]
      rfl
  · rw [List.getElem?_append_right (by simp; omega), List.getElem?_replicate] at e
    split at e <;> simp at e
section
variable {P : Program} {w : World} {K : PySem.W.Frag} {mg : Str → Option Value} {base : Heap}
theorem sem_of {C : CT} {N : List Str} {t : XK → TS} (hn : ∀ ds μ P PX, C ds μ P PX → ds.length ≤ N.length) (sem : ∀ ds μ P PX, C ds μ P PX → MuCl μ μ.length → clL ds μ.length = true → ∀ B E, XAg K B (RetX μ.length PX) E → DS K B (t E) (startD N ds) μ (fnE μ.length P))
    {vs : List V} {H : Hp} {Q : VK} {E : XK} (h : spD K C vs H Q E) : t E { nx := fun _ H' => Q .non H', rt := Q } (L2.start N vs) H := by
  obtain ⟨G, al, ds, μ, P, PX, A, r, c, hQ, hX⟩ := h
  have hc := A.cl
  have sh : ∀ {v : V} {d : D} {μ' : Mu} {G' H' : Hp} {al' : List Addr}, Nx G H al G' H' al' → As K G' H' al' μ' → Rp K G' al' v d → Ret μ.length P d μ' → Q v H' := by
    intro v d μ' G' H' al' n A' rv ⟨μ1, ext, e, hl, hcl, hd, hp⟩
    subst e
    have hlen : μ1.length ≤ al'.length := by rw [A'.len]; simp
    have e1 : al' = al'.take μ1.length ++ al'.drop μ1.length := (List.take_append_drop _ _).symm
    have l1 : (al'.take μ1.length).length = μ1.length := by rw [List.length_take]; omega
    have pre : Pre al (al'.take μ1.length) := by
      obtain ⟨be, e2⟩ := n.p
      refine ⟨(be.take (μ1.length - al.length)), ?_⟩
      rw [e2, List.take_append]
      rw [List.take_of_length_le (by rw [A.len]; exact hl)]
    have n1 : Nx G H al G' H' (al'.take μ1.length) := ⟨n.g, pre, n.keep, n.out, fun a m => n.new a (List.mem_of_mem_take m)⟩
    rw [e1] at A' rv
    exact hQ v d μ1 G' H' _ n1 (A'.shrink l1 hcl) (rv.shrink (by rw [l1]; exact hd)) hp
  refine sem ds μ P PX c hc (by rw [← A.len]; exact r.cl) ⟨G, H, al⟩ E ?_ _ G H al .refl (start_rp r) A _ ⟨fun σ' ρ' μ' G' H' al' n hσ A' p => sh n A' .non p, fun v d μ' G' H' al' n A' rv p => sh n A' rv p, fun _ _ _ _ _ _ _ _ _ p => p.elim, fun _ _ _ _ _ _ _ _ _ p => p.elim⟩
  rw [← A.len]
  exact hX.ret .refl
end
/-! ### calls -/
section
variable {K : PySem.W.Frag} {B : Bs} {ρ : En} {μ : Mu} {te : TE} {ts : TA} {P : D → Mu → Prop} {PX : PXT} {E : XK} {C : CT} {dvs : List V} {dds : List D}
theorem de_call (hE : XAg K B PX E) (h : DA K B ts ρ μ fun ds μ1 => C ds μ1 P PX) : DE K B (tCall (spD K C) [] E ts) ρ μ P := fun σ G H al hB hσ hA Q hQ =>
  h σ G H al hB hσ hA _ fun vs ds μ1 G1 H1 al1 n1 A1 r1 p1 => by
    rw [List.append_nil]
    exact ⟨G1, al1, ds, μ1, P, PX, A1, r1, p1, hQ.nx n1, hE.nx (hB.trans n1)⟩
theorem de_meth {Cc : Addr} {m : Str} (hE : XAg K B PX E) (h : DE K B te ρ μ fun x μ1 => ∃ gs, (x = .obj Cc gs ∨ ∃ k, x = .own k ∧ μ1[k]? = some (.ins Cc gs)) ∧ gs.lookup m = none ∧ DA K B ts ρ μ1 fun ds μ2 => C (x :: ds) μ2 P PX) : DE K B (tMeth Cc m (spD K C) [] E te ts) ρ μ P := fun σ G H al hB hσ hA Q hQ =>
  h σ G H al hB hσ hA _ fun v x μ1 G1 H1 al1 n1 A1 r1 p1 => by
    obtain ⟨gs, hx, hl, p⟩ := p1
    have key : ∃ a dx fs, v = .ref a ∧ H1 a = some (.ins Cc dx fs) ∧ fs.lookup m = none := by
      rcases hx with rfl | ⟨k, rfl, hk⟩
      · cases r1 with | obj e rf => exact ⟨_, _, _, rfl, A1.sub _ _ e, rf.none hl⟩
      · obtain ⟨a, ha, ga, dx, fs, hv, rf⟩ := A1.get hk
        cases r1 with | own e => rw [ha] at e; cases e; exact ⟨_, _, _, rfl, hv, rf.none hl⟩
    obtain ⟨a, dx, fs, e, hv, hm⟩ := key
    refine ⟨a, dx, fs, e, hv, hm, p σ G1 H1 al1 (hB.trans n1) (hσ.nx n1) A1 _ fun vs ds μ2 G2 H2 al2 n2 A2 r2 p2 => ?_⟩
    rw [List.append_nil]
    exact ⟨G2, al2, x :: ds, μ2, P, PX, A2, .cons (r1.nx n2) r2, p2, hQ.nx (n1.trans n2), hE.nx (hB.trans (n1.trans n2))⟩
/-- C(..): the new instance is frozen behind its __init__ -/
theorem de_make {Cc : Addr} (hE : XAg K B PX E) (hd : ∀ G al, Rps K G al dvs dds) (h : DA K B ts ρ μ fun ds μ1 => C (.own μ1.length :: (ds ++ dds)) (μ1 ++ [.ins Cc []]) (fun d μ2 => d = .non ∧ ∃ gs, μ2 = μ1 ++ [.ins Cc gs] ∧ clF gs μ1.length = true ∧ P (.obj Cc gs) μ1) (RetX μ1.length PX)) : DE K B (tMake Cc (spD K C) dvs E ts) ρ μ P := fun σ G H al hB hσ hA Q hQ =>
  h σ G H al hB hσ hA _ fun vs ds μ1 G1 H1 al1 n1 A1 r1 p1 => by
    intro x dx hx hdx hne
    -- the own dict first
    have nx1 : x ≠ dx := hne.symm
    have A2 : As K G1 (upd H1 dx (.own x)) al1 μ1 ∧ Nx G1 H1 al1 G1 (upd H1 dx (.own x)) al1 := by
      have gd : G1 dx = none := A1.sub.free hdx
      have nal : dx ∉ al1 := fun m => A1.here dx m hdx
      refine ⟨⟨fun b u e => by rw [upd_ne (ne_of_none e gd)]; exact A1.sub _ _ e, A1.nd, A1.len, fun a m => ?_, fun k a o e1 e2 => ?_⟩, ⟨Same.refl _, Pre.refl _, fun a u h _ => by rw [upd_ne (ne_of_none h hdx)]; exact h, fun _ _ _ _ g => g, fun _ m => .inl m⟩⟩
      · have z : a ≠ dx := fun z => nal (z ▸ m)
        rw [upd_ne z]; exact A1.here a m
      · have z : a ≠ dx := fun z => nal (z ▸ List.mem_of_getElem? e1)
        exact OkO.mono (Same.refl _) (Pre.refl _) (fun _ g => g) (by rw [upd_ne z]) (A1.ok k a o e1 e2)
    obtain ⟨A2, n2⟩ := A2
    have hx2 : (upd H1 dx (.own x)) x = none := by rw [upd_ne nx1]; exact hx
    obtain ⟨A3, n3⟩ := A2.own (o := .ins Cc dx []) (m := .ins Cc []) hx2 ⟨A2.sub.free hx2, dx, [], upd_same, .nil⟩
    refine ⟨G1, al1 ++ [x], .own μ1.length :: (ds ++ dds), μ1 ++ [.ins Cc []], _, _, A3, .cons (.own (by rw [← A1.len]; simp)) ((((r1.nx n2).nx n3).append (hd _ _))), p1, ?_, by rw [← A1.len]; exact (hE.nx (hB.trans n1)).ret (n2.trans n3)⟩
    intro v d μ2 G4 H4 al4 n4 A4 r4 p4
    obtain ⟨rfl, gs, rfl, hcl, hp⟩ := p4
    cases r4
    refine ⟨rfl, ?_⟩
    have hal : al4[μ1.length]? = some x := n4.p.get (by rw [← A1.len]; simp)
    obtain ⟨a, ha, ga, dx4, fs4, hv4, rf4⟩ := A4.get (k := μ1.length) (m := .ins Cc gs) (by simp)
    rw [hal] at ha; cases ha
    obtain ⟨A5, n5⟩ := A4.freeze hal hv4 ga
    have nn : Nx G1 H1 al1 (upd G4 x (.ins Cc dx4 fs4)) H4 al4 := ((n2.trans n3).trans n4).trans n5
    obtain ⟨be, rfl⟩ := nn.p
    have e5 : (μ1 ++ [MO.ins Cc gs]).set μ1.length MO.dead = μ1 ++ [.dead] := by simp
    rw [e5] at A5
    refine hQ (.ref x) (.obj Cc gs) μ1 _ H4 al1 (n1.trans nn.shrink) (A5.shrink A1.len A1.cl) ?_ hp
    exact .obj upd_same ((rf4.nx n5).shrink (by rw [A1.len]; exact hcl))
theorem da_nd : ∀ G al, Rps K G al [] [] := fun _ _ => .nil
end
end Dl
set_option Elab.async false
set_option linter.all false
set_option maxRecDepth 100000
namespace L2
open PySem PySem.Spec PyProof.Rows
section
variable {X : Cx} {a b c d : Expr} {ta tb tc td : TE} {pos : Pos}
/-- a op1 b op2 c op3 d -/
def tChain3 (r r' r3 : R2) (ta tb tc td : TE) : TE := fun σ H Q => ta σ H fun x H1 => tb σ H1 fun y H2 => r x y H2 fun z H3 => ∃ k, z = .bl k ∧
  (if k = true then tc σ H3 fun w' H4 => r' y w' H4 fun z2 H5 => ∃ k2, z2 = .bl k2 ∧ (if k2 = true then td σ H5 fun u H6 => r3 w' u H6 Q else Q (.bl false) H5) else Q (.bl false) H3)
end
/-- two readings of one expression -/
theorem PE.or {X : Cx} {e : Expr} {t u : TE} (h : PE X e t) (h' : PE X e u) : PE X e (fun σ H Q => t σ H Q ∨ u σ H Q) := ⟨fun pins s σ H Q I hw => hw.elim (h.run pins s σ H Q I) (h'.run pins s σ H Q I)⟩
/-! ### operators of any kind -/
def rAddS : R2 := fun x y H Q => ∃ i j, x = .str i ∧ y = .str j ∧ i.length + j.length ≤ sizeLine ∧ Q (.str (i ++ j)) H
def rAddA (K : PySem.W.Frag) : R2 := fun x y H Q => rI0 (fun i j => .int (i + j)) x y H Q ∨ rCat x y H Q ∨ rAddS x y H Q ∨ rCatT K x y H Q
def rMulA : R2 := fun x y H Q => rI CMul (fun i j => .int (i * j)) x y H Q ∨ rI CMulW (fun i j => .int (i * j)) x y H Q ∨ rRep x y H Q
section
variable {X : Cx}
theorem op_addA : OpR X (binaryOp .Add) (rAddA X.K) := op_add.or (op_cat.or (op_add_str.or op_catT))
theorem op_mulA : OpR X (binaryOp .Mult) rMulA := op_mul.or (op_mulW.or op_rep)
end
def rFdivA : R2 := fun x y H Q => rI CDivW (fun i j => .int (i / j)) x y H Q ∨ rI CDivN (fun i j => .int (i.fdiv j)) x y H Q
def rModA : R2 := fun x y H Q => rI (fun _ j => 0 < j) (fun i j => .int (i % j)) x y H Q ∨ rI (fun _ j => j ≠ 0) (fun i j => .int (i.fmod j)) x y H Q
def rInSg : R2 := fun x y H Q => ∃ (c : Nat) (z : Str), x = .str ⟨#[c]⟩ ∧ y = .str z ∧ Q (.bl (decide (c ∈ z.cps.toList))) H
def rInSt : R2 := fun x y H Q => ∃ i j, x = .str i ∧ y = .str j ∧ Q (.bl (!(Builtin.Str.occurrences j i 0 j.length 1).isEmpty)) H
def rInA (K : PySem.W.Frag) : R2 := fun x y H Q => rIn K false x y H Q ∨ rInSg x y H Q ∨ rInSt x y H Q
section
variable {X : Cx}
theorem op_fdivA : OpR X (binaryOp .FloorDiv) rFdivA := op_fdivW.or op_fdivN
theorem op_modA : OpR X (binaryOp .Mod) rModA := op_mod.or op_modN
theorem op_inA : OpR X (compareOp .In) (rInA X.K) := op_in_seq.or (op_in_sign.or op_in_str)
end
def rNotInA (K : PySem.W.Frag) : R2 := fun x y H Q => rIn K true x y H Q ∨ (fun x y H Q => ∃ (c : Nat) (z : Str), x = .str ⟨#[c]⟩ ∧ y = .str z ∧ Q (.bl (!decide (c ∈ z.cps.toList))) H) x y H Q
theorem op_notInA {X : Cx} : OpR X (compareOp .NotIn) (rNotInA X.K) := op_notIn_seq.or op_notIn_sign
/-- a list, a tuple, a text walked -/
def iAny (K : PySem.W.Frag) (tl : TE) : TI := fun σ H R => tl σ H fun x H1 => (∃ a, x = .ref a ∧ (∃ xs, SqL K H1 a xs) ∧ R (Itl K a) H1) ∨ (∃ a, x = .ref a ∧ (∃ xs, SqT K H1 a xs) ∧ R (Itt K a) H1) ∨ ∃ s, x = .str s ∧ R (Its s) H1
theorem pi_any {X : Cx} {tg l : Expr} {tl : TE} (hl : PE X l tl) : PI X tg l (iAny X.K tl) := by
  refine ⟨fun pins s σ H R I h => ?_⟩
  refine thn (hl.run pins s σ H _ I h) fun v s1 ⟨x, H1, I1, r1, q1⟩ => ?_
  rcases q1 with ⟨a, e, ⟨xs, hq⟩, q⟩ | ⟨a, e, ⟨xs, hq⟩, q⟩ | ⟨z, e, q⟩
  · subst e
    cases r1
    obtain ⟨its, rv, p, hz⟩ := I1.list hq
    refine wpAny_pyIter_list p.isList ?_
    refine ⟨s1.heap.objs.size, [s1.heap.objs.size], _, _, H1, rfl, I1.kept (t' := s1.toks) fun b o e => Heap.get?_push_of_some _ e, turn_list a _, ⟨_, Heap.get?_push_size _ rfl, rfl, rfl⟩, fun b hb => ?_, q⟩
    have e : b = s1.heap.objs.size := by simpa using hb
    subst e
    exact I1.fpOk (Nat.le_refl _) (I1.hok.fresh (Nat.le_refl _))
  · subst e
    cases r1
    obtain ⟨its, rv, p, hz⟩ := I1.tuple hq
    refine wpAny_pyIter_tuple (show s1.heap.IsTuple a its.toArray from p) ?_
    refine ⟨s1.heap.objs.size, [s1.heap.objs.size], _, _, H1, rfl, I1.kept (t' := s1.toks) fun b o e => Heap.get?_push_of_some _ e, turn_tuple a _, ⟨_, Heap.get?_push_size _ rfl, rfl, rfl⟩, fun b hb => ?_, q⟩
    have e : b = s1.heap.objs.size := by simpa using hb
    subst e
    exact I1.fpOk (Nat.le_refl _) (I1.hok.fresh (Nat.le_refl _))
  · subst e
    obtain ⟨t, rfl⟩ := r1
    cases ha : z.cps.all (· < 128)
    · exact wpAny_pyIter_wide ha (pi_one (tk := s1.toks) I1 _ (turn_str _ z t "str_iterator" (.inr rfl)) ⟨_, Heap.get?_push_size _ rfl, rfl, rfl⟩ q)
    · exact wpAny_pyIter_ascii ha (pi_one (tk := s1.toks) I1 _ (turn_str _ z t "str_ascii_iterator" (.inl rfl)) ⟨_, Heap.get?_push_size _ rfl, rfl, rfl⟩ q)
def rSlA (K : PySem.W.Frag) : V → Option Int → Option Int → Hp → VK → Prop := fun x lo hi H Q => rSlL K x lo hi H Q ∨ (∃ z, x = .str z ∧ z.length ≤ sizeLine ∧ Q (.str (cutS z lo hi)) H) ∨ rSlT K x lo hi H Q
theorem sl_any {X : Cx} : SlR X (rSlA X.K) := sl_list.or (sl_str.or sl_tup)
/-- an own exception without an __init__ of its own -/
structure ExC (K : PySem.W.Frag) (mg : Str → Option Value) (x : Str) : Prop where
  xc : PySem.W.excIn K (He.ga K x) He.veBase "ValueError.__new__" = true
  gc : mg x = some (.ref (He.ga K x))
  kc : PySem.W.keepIn K (.ref (He.ga K x)) = true
  bc : PySem.W.subIn K (.ref (He.ga K x)) (.type "BaseException") = some true
  tc : PySem.W.typeIn K (.ref (He.ga K x)) = some (.type "type")
/-- a value's truth -/
def tTruth (K : PySem.W.Frag) (ta : TE) : TT := fun σ H Q => ta σ H fun x H' => ∃ k, TruV K x H' k ∧ Q k H'
/-- a raise of an own class without fields -/
def tRaise0 (C : Addr) (E : XK) : TS := fun _ σ H => E (.ref C) none H
def _root_.Dl.rLen (K : PySem.W.Frag) : List V → Hp → VK → Prop := fun xs H Q => ∃ x n, xs = [x] ∧ LenV K x H n ∧ Q (.int (n : Nat)) H
def rMax2 : List V → Hp → VK → Prop := fun xs H Q => ∃ i j, xs = [.int i, .int j] ∧ Q (.int (if j > i then j else i)) H
def rMin2 : List V → Hp → VK → Prop := fun xs H Q => ∃ i j, xs = [.int i, .int j] ∧ Q (.int (if j < i then j else i)) H
def rMaxA (K : PySem.W.Frag) : List V → Hp → VK → Prop := fun xs H Q => rMax2 xs H Q ∨ rMax K xs H Q
def rMinA (K : PySem.W.Frag) : List V → Hp → VK → Prop := fun xs H Q => rMin2 xs H Q ∨ rMin K xs H Q
theorem call_maxA {X : Cx} (hc : X.calm = true) : CallR X (.builtin "max") (rMaxA X.K) := (call_max2 hc).or (cr_max hc)
theorem call_minA {X : Cx} (hc : X.calm = true) : CallR X (.builtin "min") (rMinA X.K) := (call_min2 hc).or (cr_min hc)
def rListOf (K : PySem.W.Frag) : List V → Hp → VK → Prop := fun xs H Q => ∃ p ys, xs = [.ref p] ∧ (SqL K H p ys ∨ SqT K H p ys) ∧ ∀ l, H l = none → Q (.ref l) (upd H l (.lst ys))
end L2
namespace Dl
open PySem L2 PyProof.Rows
section
variable {K : PySem.W.Frag} {μ : Mu} {P : D → Mu → Prop} {i j : Int} {x y d : D} {ds es : List D}
theorem ro_addI (h : P (.int (i + j)) μ) : RO K (rAddA K) (.int i) (.int j) μ P := fun G H al v w A r1 r2 Q hQ => .inl (ro_i (f := fun i j => i + j) h G H al v w A r1 r2 Q hQ)
theorem ro_addL (h1 : Lt μ x ds) (h2 : Lt μ y es) (hs : ds.length + es.length ≤ 100000) (h : P (.lst (ds ++ es)) μ) : RO K (rAddA K) x y μ P := fun G H al v w A r1 r2 Q hQ => .inr (.inl (ro_cat h1 h2 hs h G H al v w A r1 r2 Q hQ))
theorem ro_addLO (h1 : Lt μ x ds) (h2 : Lt μ y es) (hs : ds.length + es.length ≤ 100000) (h : P (.own μ.length) (μ ++ [.lst (ds ++ es)])) : RO K (rAddA K) x y μ P := fun G H al v w A r1 r2 Q hQ => .inr (.inl (ro_catO h1 h2 hs h G H al v w A r1 r2 Q hQ))
theorem ro_mulI (hc : CMul i j) (h : P (.int (i * j)) μ) : RO K rMulA (.int i) (.int j) μ P := fun G H al v w A r1 r2 Q hQ => .inl (ro_ic (f := fun i j => i * j) hc h G H al v w A r1 r2 Q hQ)
theorem rc_max2' (h : P (.int (max i j)) μ) : RC K (rMaxA K) [.int i, .int j] μ P := fun G H al vs A r Q hQ => .inl (rc_max2 h G H al vs A r Q hQ)
theorem rc_min2' (h : P (.int (min i j)) μ) : RC K (rMinA K) [.int i, .int j] μ P := fun G H al vs A r Q hQ => .inl (rc_min2 h G H al vs A r Q hQ)
theorem rc_lenL (hl : Ls μ x ds) (h : P (.int (ds.length : Int)) μ) : RC K (rLen K) [x] μ P := rc_len hl h
theorem rc_lenT' (hl : Ts x ds) (h : P (.int (ds.length : Int)) μ) : RC K (rLen K) [x] μ P := rc_lenT hl h
theorem rc_lenS' {s : Str} (hs : s.length ≤ 100000) (h : P (.int (s.length : Int)) μ) : RC K (rLen K) [.str s] μ P := rc_lenS hs h
theorem rc_list (hl : Ls μ x ds) (h : P (.lst ds) μ) : RC K (rListOf K) [x] μ P := fun G H al vs A r Q hQ => by
  obtain ⟨v, rfl, r1⟩ := rps1 r
  obtain ⟨a, ws, rfl, s, rs⟩ := hl.get A r1
  refine ⟨a, ws, rfl, .inl s, fun p hp => ?_⟩
  obtain ⟨A2, n2⟩ := A.frz (o := .lst ws) hp
  exact hQ _ _ μ _ _ _ n2 A2 (.lst upd_same (rs.nx n2)) h
theorem rc_listO (hl : Ls μ x ds) (h : P (.own μ.length) (μ ++ [.lst ds])) : RC K (rListOf K) [x] μ P := fun G H al vs A r Q hQ => by
  obtain ⟨v, rfl, r1⟩ := rps1 r
  obtain ⟨a, ws, rfl, s, rs⟩ := hl.get A r1
  refine ⟨a, ws, rfl, .inl s, fun p hp => ?_⟩
  obtain ⟨A2, n2⟩ := A.own (o := .lst ws) (m := .lst ds) hp ⟨A.sub.free hp, _, upd_same, rs.mono (Same.refl _) ⟨[p], rfl⟩⟩
  exact hQ _ _ _ _ _ _ n2 A2 (.own (by rw [← A.len]; simp)) h
end
section
variable {K : PySem.W.Frag} {B : Bs} {ρ : En} {μ : Mu} {P : D → Mu → Prop} {ta tb te tc td : TE} {PT' : Bool → Mu → Prop}
theorem de_chain3 {r r' r3 : R2} (h : DE K B ta ρ μ fun x μ1 => DE K B tb ρ μ1 fun y μ2 => RO K r x y μ2 fun z μ3 => ∃ b, z = .bl b ∧ (b = true → DE K B tc ρ μ3 fun w μ4 => RO K r' y w μ4 fun z2 μ5 => ∃ b2, z2 = .bl b2 ∧
      (b2 = true → DE K B td ρ μ5 fun u μ6 => RO K r3 w u μ6 P) ∧ (b2 = false → P (.bl false) μ5)) ∧ (b = false → P (.bl false) μ3)) :
    DE K B (tChain3 r r' r3 ta tb tc td) ρ μ P := fun σ G H al hB hσ hA Q hQ =>
  h σ G H al hB hσ hA _ fun v d μ1 G1 H1 al1 n1 A1 r1 p1 => p1 σ G1 H1 al1 (hB.trans n1) (hσ.nx n1) A1 _ fun w e μ2 G2 H2 al2 n2 A2 r2 p2 =>
    p2 G2 H2 al2 v w A2 (r1.nx n2) r2 _ fun z dz μ3 G3 H3 al3 n3 A3 r3 p3 => by
      obtain ⟨b, rfl, pt, pf⟩ := p3
      cases r3
      refine ⟨b, rfl, ?_⟩
      have nn3 := (n1.trans n2).trans n3
      cases b with
      | false =>
        rw [if_neg (by simp)]
        exact hQ (.bl false) _ μ3 G3 H3 al3 nn3 A3 (.bl _) (pf rfl)
      | true =>
        rw [if_pos rfl]
        refine pt rfl σ G3 H3 al3 (hB.trans nn3) (hσ.nx nn3) A3 _ fun u du μ4 G4 H4 al4 n4 A4 r4 p4 => p4 G4 H4 al4 w u A4 ((r2.nx n3).nx n4) r4 _ fun z5 dz5 μ5 G5 H5 al5 n5 A5 r5 p5 => ?_
        obtain ⟨b2, rfl, pt2, pf2⟩ := p5
        cases r5
        refine ⟨b2, rfl, ?_⟩
        have nn5 := (nn3.trans n4).trans n5
        cases b2 with
        | false =>
          rw [if_neg (by simp)]
          exact hQ (.bl false) _ μ5 G5 H5 al5 nn5 A5 (.bl _) (pf2 rfl)
        | true =>
          rw [if_pos rfl]
          exact pt2 rfl σ G5 H5 al5 (hB.trans nn5) (hσ.nx nn5) A5 _ fun u6 du6 μ6 G6 H6 al6 n6 A6 r6 p6 => p6 G6 H6 al6 u u6 A6 ((r4.nx n5).nx n6) r6 Q (hQ.nx (nn5.trans n6))
theorem dt_truth (h : DE K B te ρ μ fun x μ1 => ∃ b, x = .bl b ∧ PT' b μ1) : DT K B (tTruth K te) ρ μ PT' := fun σ G H al hB hσ hA Q hQ =>
  h σ G H al hB hσ hA _ fun v d μ1 G1 H1 al1 n1 A1 r1 p1 => by
    obtain ⟨b, rfl, p⟩ := p1
    cases r1
    exact ⟨b, rfl, hQ b μ1 G1 H1 al1 n1 A1 p⟩
theorem ds_raise0 {C : Addr} {E : XK} {PX : PXT} {Pe : DEnds} (hE : XAg K B PX E) (h : PX C [] μ) : DS K B (tRaise0 C E) ρ μ Pe := fun σ G H al hB hσ hA De hD =>
  hE C [] none μ G H al hB hA (.inl ⟨rfl, rfl⟩) h
end
end Dl
set_option Elab.async false
set_option linter.all false
set_option maxRecDepth 100000
namespace Dl
open PySem L2 PyProof.Rows
section
variable {K : PySem.W.Frag} {μ : Mu} {P : D → Mu → Prop} {i j : Int} {x y d : D} {ds es : List D}
theorem ro_fdiv (hc : 0 < j) (hj : j.natAbs.log2 < 9000) (h : P (.int (i / j)) μ) : RO K rFdivA (.int i) (.int j) μ P := fun G H al v w A r1 r2 Q hQ => .inl (ro_ic (f := fun i j => i / j) ⟨hc, hj⟩ h G H al v w A r1 r2 Q hQ)
theorem ro_mod (hc : 0 < j) (h : P (.int (i % j)) μ) : RO K rModA (.int i) (.int j) μ P := fun G H al v w A r1 r2 Q hQ => .inl (ro_ic (f := fun i j => i % j) (C := fun _ j => 0 < j) hc h G H al v w A r1 r2 Q hQ)
theorem ro_pow (hc : CPow i j) (h : P (.int (i ^ j.toNat)) μ) : RO K (rI CPow fun i j => .int (i ^ j.toNat)) (.int i) (.int j) μ P := ro_ic (f := fun i j => i ^ j.toNat) hc h
theorem ro_isB {a b : Bool} (h : P (.bl (decide (a = b))) μ) : RO K rIsB (.bl a) (.bl b) μ P := fun G H al v w A r1 r2 Q hQ => by
  cases r1; cases r2
  exact ⟨a, b, rfl, rfl, hQ.now A (.bl _) h⟩
theorem ro_notB {a b : Bool} (h : P (.bl (!decide (a = b))) μ) : RO K rNotB (.bl a) (.bl b) μ P := fun G H al v w A r1 r2 Q hQ => by
  cases r1; cases r2
  exact ⟨a, b, rfl, rfl, hQ.now A (.bl _) h⟩
end
section
variable {K : PySem.W.Frag} {B : Bs} {ρ : En} {μ : Mu} {te ta : TE} {ts : TA} {PI' : List D → (Mu → Prop) → Mu → Prop} {P : DEnds} {t u v : TS}
/-- what a datum is walked as; S: what must stay of what may change -/
inductive Wk (μ : Mu) : D → List D → (Mu → Prop) → Prop
  | lst (ds : List D) : Wk μ (.lst ds) ds (fun _ => True)
  | rdl (ds : List D) : Wk μ (.rdl ds) ds (fun _ => True)
  | own {k : Nat} {ds : List D} (h : μ[k]? = some (.lst ds)) : Wk μ (.own k) ds (fun μ' => μ'[k]? = some (.lst ds))
  | tup (ds : List D) : Wk μ (.tup ds) ds (fun _ => True)
  | rdt (ds : List D) : Wk μ (.rdt ds) ds (fun _ => True)
  | str (s : Str) : Wk μ (.str s) (signsD s) (fun _ => True)
theorem itt_ok {G H : Hp} {al : List Addr} {a : Addr} {ds : List D} {S : Mu → Prop} (h : ∀ G2 H2 al2 μ2, Nx G H al G2 H2 al2 → As K G2 H2 al2 μ2 → S μ2 → ∃ vs, SqT K H2 a vs ∧ Rps K G2 al2 vs ds) : ItOk K (Itt K a) ds S G H al := fun G2 H2 al2 μ2 n A s => by
  obtain ⟨vs, sq, r⟩ := h G2 H2 al2 μ2 n A s
  refine ⟨fun i hi => ⟨vs, vs[i]'(by rw [r.length]; exact hi), sq, by simp⟩, fun i hi => ⟨vs, sq, by rw [r.length]; exact hi⟩, fun i x H3 y d hd => ?_⟩
  obtain ⟨rfl, y⟩ := y
  obtain ⟨d', hd', r'⟩ := r.getV (y vs sq)
  rw [hd] at hd'; cases hd'
  exact ⟨G2, .refl, A, r'⟩
theorem di_any (h : DE K B te ρ μ fun x μ1 => ∃ ds S, Wk μ1 x ds S ∧ PI' ds S μ1) : DI K B (iAny K te) ρ μ PI' := fun σ G H al hB hσ hA R hR =>
  h σ G H al hB hσ hA _ fun v d μ1 G1 H1 al1 n1 A1 r1 p1 => by
    obtain ⟨ds, S, wk, p⟩ := p1
    cases wk with
    | lst =>
      cases r1 with
      | lst e rs => exact .inl ⟨_, rfl, ⟨_, .inl (.inl (A1.sub _ _ e))⟩, hR _ ds _ μ1 G1 H1 al1 n1 A1 (itl_ok fun G2 H2 al2 μ2 n2 A2 _ => ⟨_, .inl (.inl (A2.sub _ _ (n2.g _ _ e))), rs.nx n2⟩) p⟩
    | rdl =>
      cases r1 with
      | rdl e rs => exact .inl ⟨_, rfl, ⟨_, sql_mono A1.sub e⟩, hR _ ds _ μ1 G1 H1 al1 n1 A1 (itl_ok fun G2 H2 al2 μ2 n2 A2 _ => ⟨_, sql_mono A2.sub (sql_mono n2.g e), rs.nx n2⟩) p⟩
    | own hk =>
      obtain ⟨a, ha, ga, vs, hv, rs⟩ := A1.get hk
      cases r1 with
      | own e =>
        rw [ha] at e; cases e
        refine .inl ⟨_, rfl, ⟨_, .inl (.inl hv)⟩, hR _ ds _ μ1 G1 H1 al1 n1 A1 (itl_ok fun G2 H2 al2 μ2 n2 A2 s => ?_) p⟩
        obtain ⟨a2, ha2, ga2, vs2, hv2, rs2⟩ := A2.get s
        rw [n2.p.get ha] at ha2; cases ha2
        exact ⟨vs2, .inl (.inl hv2), rs2⟩
    | tup =>
      cases r1 with
      | tup e rs => exact .inr (.inl ⟨_, rfl, ⟨_, .inl (.inl (A1.sub _ _ e))⟩, hR _ ds _ μ1 G1 H1 al1 n1 A1 (itt_ok fun G2 H2 al2 μ2 n2 A2 _ => ⟨_, .inl (.inl (A2.sub _ _ (n2.g _ _ e))), rs.nx n2⟩) p⟩)
    | rdt =>
      cases r1 with
      | rdt e rs => exact .inr (.inl ⟨_, rfl, ⟨_, sqt_mono A1.sub e⟩, hR _ ds _ μ1 G1 H1 al1 n1 A1 (itt_ok fun G2 H2 al2 μ2 n2 A2 _ => ⟨_, sqt_mono A2.sub (sqt_mono n2.g e), rs.nx n2⟩) p⟩)
    | str x =>
      cases r1
      refine .inr (.inr ⟨x, rfl, hR _ _ _ μ1 G1 H1 al1 n1 A1 (fun G2 H2 al2 μ2 n2 A2 _ => ?_) p⟩)
      have hl : (signsD x).length = x.cps.size := by simp [signsD]
      rw [hl]
      refine ⟨fun i hi => hi, fun i hi => hi, fun i y H3 hy d hd => ?_⟩
      obtain ⟨rfl, c, hc, rfl⟩ := hy
      have : d = .str ⟨#[c]⟩ := by
        simp only [signsD, List.getElem?_map, Array.getElem?_toList, hc] at hd
        exact (Option.some.inj hd).symm
      subst this
      exact ⟨G2, .refl, A2, .str _⟩
theorem di_enum' (h : DA K B ts ρ μ fun xs μ1 => ∃ x ds S, xs = [x] ∧ Ls μ1 x ds ∧ Wk μ1 x ds S ∧ PI' (enumD ds) S μ1) : DI K B (iEnum K ts) ρ μ PI' := di_enum (fun σ G H al hB hσ hA Q hQ => h σ G H al hB hσ hA Q fun vs ds' μ' G' H' al' n A r p => hQ vs ds' μ' G' H' al' n A r (by
  obtain ⟨x, ds, S, e, ls, wk, p⟩ := p
  refine ⟨x, ds, e, ?_⟩
  cases wk with
  | lst => exact .inl ⟨rfl, p⟩
  | rdl => exact .inr (.inl ⟨rfl, p⟩)
  | own hk => exact .inr (.inr ⟨_, rfl, hk, p⟩)
  | tup => cases ls
  | rdt => cases ls
  | str => cases ls))
/-! ### statements with what follows -/
theorem q_set {i : Nat} (h : DE K B te ρ μ fun d μ1 => DS K B u (ρ.set i (some d)) μ1 P) : DS K B (tSeq (tAsg te (gName i)) u) ρ μ P := ds_seq (ds_set h)
theorem q_asg {g : TG} (h : DE K B te ρ μ fun d μ1 => DG K B g d ρ μ1 fun ρ2 μ2 => DS K B u ρ2 μ2 P) : DS K B (tSeq (tAsg te g) u) ρ μ P := ds_seq (ds_asg h)
theorem q_drop (h : DE K B te ρ μ fun d μ1 => DS K B u ρ μ1 P) : DS K B (tSeq (tDrop te) u) ρ μ P := ds_seq (ds_drop h)
/-- an if without else -/
theorem q_when {c : TT} (h : DT K B c ρ μ fun b μ1 => (b = true → DS K B t ρ μ1 { P with nx := fun ρ1 μ1 => DS K B u ρ1 μ1 P }) ∧ (b = false → DS K B u ρ μ1 P)) : DS K B (tSeq (tIfS c t tNext) u) ρ μ P :=
  ds_seq (ds_if fun σ G H al hB hσ hA Q hQ => h σ G H al hB hσ hA Q fun b μ1 G1 H1 al1 n1 A1 p1 => hQ b μ1 G1 H1 al1 n1 A1 ⟨p1.1, fun e => ds_next (p1.2 e)⟩)
theorem s_when {c : TT} (h : DT K B c ρ μ fun b μ1 => (b = true → DS K B t ρ μ1 P) ∧ (b = false → P.nx ρ μ1)) : DS K B (tIfS c t tNext) ρ μ P :=
  ds_if fun σ G H al hB hσ hA Q hQ => h σ G H al hB hσ hA Q fun b μ1 G1 H1 al1 n1 A1 p1 => hQ b μ1 G1 H1 al1 n1 A1 ⟨p1.1, fun e => ds_next (p1.2 e)⟩
theorem q_if {c : TT} (h : DT K B c ρ μ fun b μ1 => (b = true → DS K B t ρ μ1 { P with nx := fun ρ1 μ1 => DS K B u ρ1 μ1 P }) ∧ (b = false → DS K B v ρ μ1 { P with nx := fun ρ1 μ1 => DS K B u ρ1 μ1 P })) : DS K B (tSeq (tIfS c t v) u) ρ μ P := ds_seq (ds_if h)
theorem q_for {wi : TI} {g : TG} {tb : TS} (h : DI K B wi ρ μ fun ds S μ1 => ∃ Iv : Nat → En → Mu → Prop, Iv 0 ρ μ1 ∧ (∀ i ρ' μ', i ≤ ds.length → Iv i ρ' μ' → S μ') ∧
      (∀ i d ρ' μ', ds[i]? = some d → Iv i ρ' μ' → DG K B g d ρ' μ' fun ρ2 μ2 => DS K B tb ρ2 μ2 { nx := Iv (i + 1), ct := Iv (i + 1), bk := fun ρ1 μ1 => DS K B u ρ1 μ1 P, rt := P.rt }) ∧ (∀ ρ' μ', Iv ds.length ρ' μ' → DS K B u ρ' μ' P)) : DS K B (tSeq (tFor wi g tb) u) ρ μ P := ds_seq (ds_for h)
theorem q_fld {f : Str} {tb : TE} (h : DE K B tb ρ μ fun y μ1 => DE K B ta ρ μ1 fun x μ2 => ∃ k C gs, x = .own k ∧ μ2[k]? = some (.ins C gs) ∧ Cls K C ∧ NoAttr K C f ∧ gs.length < 1000 ∧ DS K B u ρ (μ2.set k (.ins C (putD f y gs))) P) : DS K B (tSeq (sFld K ta tb f) u) ρ μ P := ds_seq (ds_fld h)
theorem q_par {i j : Nat} (h : DA K B ts ρ μ fun ds μ1 => ∃ x y, ds = [x, y] ∧ DS K B u ((ρ.set i (some x)).set j (some y)) μ1 P) : DS K B (tSeq (tPar i j ts) u) ρ μ P := ds_seq (ds_par h)
end
/-- the n-th thing from the end of what may change -/
theorem mu_last {μ : Mu} {o : MO} : (μ ++ [o])[μ.length]? = some o := by simp
theorem mu_old {μ ext : Mu} {k : Nat} {o : MO} (h : μ[k]? = some o) : (μ ++ ext)[k]? = some o := by
  rw [List.getElem?_append_left (List.getElem?_eq_some_iff.mp h).1]
  exact h
theorem set_last {μ : Mu} {o o' : MO} : (μ ++ [o]).set μ.length o' = μ ++ [o'] := by simp
theorem set_old {μ ext : Mu} {k : Nat} {o o' : MO} (h : μ[k]? = some o) : (μ ++ ext).set k o' = μ.set k o' ++ ext := by
  rw [List.set_append_left _ _ (List.getElem?_eq_some_iff.mp h).1]
theorem set_get {μ : Mu} {k : Nat} {o o' : MO} (h : μ[k]? = some o) : (μ.set k o')[k]? = some o' := by
  rw [List.getElem?_set_self (List.getElem?_eq_some_iff.mp h).1]
theorem set_set' {μ : Mu} {k : Nat} {o o' : MO} : (μ.set k o).set k o' = μ.set k o' := by simp
/-! ### defs by their contracts -/
section
variable {P : Program} {w : World} {K : PySem.W.Frag} {mg : Str → Option Value} {base : Heap}
theorem fn_DD {x qual : Str} {st : Stmt} {dvs : List V} {kws : List (Str × V)} {f : Addr} {fd : FuncData} {N ps : List Str} {k : Nat} {C : CT} {t : XK → TS} (F : FunD K x qual (defArgs st) (defBody st) (defScope st) dvs kws f fd) (S : FnScope N ps (defScope st)) (len : ∀ ds μ P PX, C ds μ P PX → ds.length = ps.length) (hN : ps.length ≤ N.length)
    (body : ∀ (cdv : Value) (A : Around) (outer : List Env) (s : Shared) (H : Hp) (E : XK), Room k (A.deeper (envOfC qual (defScope st) s.heap.objs.size f cdv)) → PSs (cxOf (L2.CX P w) P w K mg base N qual (defScope st) f cdv A outer s H E) (defBody st) (t E))
    (sem : ∀ ds μ P PX, C ds μ P PX → MuCl μ μ.length → clL ds μ.length = true → ∀ B E, XAg K B (RetX μ.length PX) E → DS K B (t E) (startD N ds) μ (fnE μ.length P)) : FnOk P w K mg base (L2.CX P w) (k + 1) f fd ps (spD K C) := by
  refine F.ok S (fun vs H Q E h => ?_) (fun cdv A outer s H vs Q E hr h => ⟨t E, body cdv A outer s H E hr, sem_of (fun ds μ P PX c => by rw [len ds μ P PX c]; exact hN) sem h⟩)
  obtain ⟨G, al, ds, μ, P, PX, A, r, c, _⟩ := h
  rw [r.length]
  exact len ds μ P PX c
end
end Dl
set_option Elab.async false
set_option linter.all false
set_option maxRecDepth 100000
namespace Dl
open PySem L2 PyProof.Rows
mutual
theorem D.cl_mono : ∀ (d : D) {n m : Nat}, n ≤ m → d.cl n = true → d.cl m = true
  | .tup xs, n, m, l, h => by unfold D.cl at h ⊢; exact clL_mono xs l h
  | .lst xs, n, m, l, h => by unfold D.cl at h ⊢; exact clL_mono xs l h
  | .rdl xs, n, m, l, h => by unfold D.cl at h ⊢; exact clL_mono xs l h
  | .rdt xs, n, m, l, h => by unfold D.cl at h ⊢; exact clL_mono xs l h
  | .obj _ gs, n, m, l, h => by unfold D.cl at h ⊢; exact clF_mono gs l h
  | .dct gs, n, m, l, h => by unfold D.cl at h ⊢; exact clK_mono gs l h
  | .own k, n, m, l, h => by unfold D.cl at h ⊢; simp at h ⊢; omega
  | .non, n, m, l, h => by simp [D.cl]
  | .bl _, n, m, l, h => by simp [D.cl]
  | .int _, n, m, l, h => by simp [D.cl]
  | .str _, n, m, l, h => by simp [D.cl]
  | .ty _, n, m, l, h => by simp [D.cl]
  | .loc _, n, m, l, h => by simp [D.cl]
  | .exc _ gs, n, m, l, h => by unfold D.cl at h ⊢; exact clF_mono gs l h
theorem clL_mono : ∀ (d : List D) {n m : Nat}, n ≤ m → clL d n = true → clL d m = true
  | [], _, _, _, _ => by simp [clL]
  | x :: xs, n, m, l, h => by
    unfold clL at h ⊢; simp at h ⊢
    exact ⟨D.cl_mono x l h.1, clL_mono xs l h.2⟩
theorem clF_mono : ∀ (d : List (Str × D)) {n m : Nat}, n ≤ m → clF d n = true → clF d m = true
  | [], _, _, _, _ => by simp [clF]
  | (_, x) :: xs, n, m, l, h => by
    unfold clF at h ⊢; simp at h ⊢
    exact ⟨D.cl_mono x l h.1, clF_mono xs l h.2⟩
theorem clK_mono : ∀ (d : List (Key × D)) {n m : Nat}, n ≤ m → clK d n = true → clK d m = true
  | [], _, _, _, _ => by simp [clK]
  | (_, x) :: xs, n, m, l, h => by
    unfold clK at h ⊢; simp at h ⊢
    exact ⟨D.cl_mono x l h.1, clK_mono xs l h.2⟩
end
theorem MO.cl_mono (o : MO) {n m : Nat} (l : n ≤ m) (h : o.cl n = true) : o.cl m = true := by
  cases o with
  | dead => rfl
  | lst xs => exact clL_mono xs l h
  | ins _ gs => exact clF_mono gs l h
  | dK gs => exact clK_mono gs l h
  | dT gs => exact clL_mono _ l h
  | tab _ _ => rfl
theorem MuCl.mono {μ : Mu} {n m : Nat} (h : MuCl μ n) (l : n ≤ m) : MuCl μ m := fun o ho => MO.cl_mono o l (h o ho)
theorem MuCl.app {μ : Mu} {o : MO} (h : MuCl μ μ.length) (ho : o.cl μ.length = true) : MuCl (μ ++ [o]) (μ ++ [o]).length := fun x hx => by
  rw [List.length_append]
  rcases List.mem_append.mp hx with m | m
  · exact MO.cl_mono x (by simp) (h x m)
  · simp at m; subst m; exact MO.cl_mono _ (by simp) ho
theorem br {b : Bool} {A C : Prop} (h1 : b = true → A) (h2 : b = false → C) : (b = true → A) ∧ (b = false → C) := ⟨h1, h2⟩
theorem br' {b : Bool} {A C : Prop} (h1 : b = false → A) (h2 : b = true → C) : (b = false → A) ∧ (b = true → C) := ⟨h1, h2⟩
theorem Wk.now {μ : Mu} {x : D} {ds : List D} {S : Mu → Prop} (h : Wk μ x ds S) : S μ := by
  cases h with
  | own h => exact h
  | _ => trivial
theorem Ls.wk {μ : Mu} {x : D} {ds : List D} (h : Ls μ x ds) : ∃ S, Wk μ x ds S := by
  cases h with
  | lst => exact ⟨_, .lst _⟩
  | rdl => exact ⟨_, .rdl _⟩
  | own h => exact ⟨_, .own h⟩
section
variable {K : PySem.W.Frag} {B : Bs} {ρ : En} {μ : Mu} {te : TE} {tt : TT} {wi : TI} {g : TG} {vs : List Nat} {P : D → Mu → Prop}
/-- [f d for d in ds], nothing changes -/
theorem lc_map (f : D → D) (hg : GW g vs) (h : DI K B wi ρ μ fun ds S μ1 => S μ1 ∧ ds.length ≤ 100000 ∧ (∀ (i : Nat) (d : D), ds[i]? = some d → DG K B g d (wipeD ρ vs) μ1 fun ρ2 μ2 => μ2 = μ1 ∧ DE K B te ρ2 μ1 fun y μ3 => y = f d ∧ μ3 = μ1) ∧ ∀ out, ds.map f = out → P (.lst out) μ1) : DE K B (tLc wi g tYes te vs) ρ μ P := by
  refine de_lc hg fun σ G H al hB hσ hA R hR => h σ G H al hB hσ hA R fun J ds S μ1 G1 H1 al1 n1 A1 ok p => hR J ds S μ1 G1 H1 al1 n1 A1 ok ?_
  obtain ⟨hS, hl, hs, hp⟩ := p
  refine ⟨hl, fun i acc μ' => acc = (ds.take i).map f ∧ μ' = μ1, ⟨by simp, rfl⟩, fun i acc μ' _ h => by rw [h.2]; exact hS, fun i d acc μ' hd h => ?_, fun acc μ' h => ?_⟩
  · obtain ⟨rfl, rfl⟩ := h
    refine fun σ G H al v hB hσ hA rv Q hQ => hs i d hd σ G H al v hB hσ hA rv Q fun σ2 ρ2 μ2 G2 H2 al2 n2 hσ2 A2 p2 => hQ σ2 ρ2 μ2 G2 H2 al2 n2 hσ2 A2 ?_
    obtain ⟨rfl, p2⟩ := p2
    refine dt_yes ⟨fun _ => p2.imp fun y μ3 ⟨e1, e2⟩ => ⟨?_, e2⟩, fun z => by cases z⟩
    rw [e1, List.take_add_one, hd]
    simp
  · obtain ⟨rfl, rfl⟩ := h
    rw [List.take_length]
    exact hp _ rfl
/-- [f d for d in ds if p d] -/
theorem lc_filt (p : D → Bool) (f : D → D) (hg : GW g vs) (h : DI K B wi ρ μ fun ds S μ1 => S μ1 ∧ ds.length ≤ 100000 ∧ (∀ (i : Nat) (d : D), ds[i]? = some d → DG K B g d (wipeD ρ vs) μ1 fun ρ2 μ2 => μ2 = μ1 ∧ DT K B tt ρ2 μ1 fun b μ3 => b = p d ∧ μ3 = μ1 ∧ (b = true → DE K B te ρ2 μ1 fun y μ4 => y = f d ∧ μ4 = μ1)) ∧ ∀ out, (ds.filter p).map f = out → P (.lst out) μ1) : DE K B (tLc wi g tt te vs) ρ μ P := by
  refine de_lc hg fun σ G H al hB hσ hA R hR => h σ G H al hB hσ hA R fun J ds S μ1 G1 H1 al1 n1 A1 ok p' => hR J ds S μ1 G1 H1 al1 n1 A1 ok ?_
  obtain ⟨hS, hl, hs, hp⟩ := p'
  refine ⟨hl, fun i acc μ' => acc = ((ds.take i).filter p).map f ∧ μ' = μ1, ⟨by simp, rfl⟩, fun i acc μ' _ h => by rw [h.2]; exact hS, fun i d acc μ' hd h => ?_, fun acc μ' h => ?_⟩
  · obtain ⟨rfl, rfl⟩ := h
    refine fun σ G H al v hB hσ hA rv Q hQ => hs i d hd σ G H al v hB hσ hA rv Q fun σ2 ρ2 μ2 G2 H2 al2 n2 hσ2 A2 p2 => hQ σ2 ρ2 μ2 G2 H2 al2 n2 hσ2 A2 ?_
    obtain ⟨rfl, p2⟩ := p2
    refine fun σ G H al hB hσ hA Q hQ => p2 σ G H al hB hσ hA Q fun b μ3 G3 H3 al3 n3 A3 p3 => hQ b μ3 G3 H3 al3 n3 A3 ?_
    obtain ⟨hb, rfl, p3⟩ := p3
    have e : (List.take (i + 1) ds) = List.take i ds ++ [d] := by rw [List.take_add_one, hd]; rfl
    refine ⟨fun hbt => (p3 hbt).imp fun y μ4 ⟨e1, e2⟩ => ⟨?_, e2⟩, fun hbf => ⟨?_, rfl⟩⟩
    · rw [e, List.filter_append, List.map_append, e1]
      rw [hb] at hbt
      simp [hbt]
    · rw [e, List.filter_append, List.map_append]
      rw [hb] at hbf
      simp [hbf]
  · obtain ⟨rfl, rfl⟩ := h
    rw [List.take_length]
    exact hp _ rfl
end
end Dl
set_option Elab.async false
set_option linter.all false
set_option maxRecDepth 100000
namespace Dl
open PySem L2 PyProof.Rows
/-- a law's end: the written part, the function object, the contract over every base -/
theorem walk_ofW {l : PySem.W.OpenLaw} {n k : Nat} {q : Program} {loose : List Str} {XP : (Str → Option Value) → Heap → Prop} {YP : World → Heap → Prop} {d : DefRec} {x : Str}
    (hn : l.most = some n) (hn2 : n ≤ sizeLine) (hdf : d.params.defaults = []) (hr : Room k callerA)
    (F : ∀ (w : World) (mg : Str → Option Value) (fa : Addr) (h : Heap), YP w h → h.Ns mainGlobals mg → mg d.name = some (.ref fa) →
      ∃ (K : PySem.W.Frag) (fd : FuncData) (sp : Sp), K.In h ∧ (∀ (s : Shared) (u : Value), BindsTo s fd ⟨[u], []⟩ [(x, u)]) ∧
        (∀ (H : Hp) (a : Addr) (ns : List Int), ns.length ≤ n → Only H → SqL K H a (ns.map V.int) → sp [.ref a] H (fun v _ => v = .bl true) fun _ _ _ => False) ∧
        ∀ base : Heap, K.In base → base.Ns mainGlobals mg → FnOk l.prog w K mg base (L2.CX l.prog w) k fa fd [x] sp) :
    PySem.W.WalkO q loose XP YP l.row.toRowW d [] (fun f vs => PySem.call f vs) := by
  refine Att.attach_call hn hdf fun w s0 s1 mg mb fa o pm cd doc a vs ns G Y ho hd hcd hmg hobj hints hlen hg => ?_
  obtain ⟨K, fd, sp, KX, hb, hsp, hF⟩ := F w mg fa _ Y G.T.g hmg
  refine law_call KX G.T.g G.T.b G.T.builtins G.T.nolimit hg hobj hints (Nat.le_trans hlen hn2) hr hF hb (fun H hO hS => hsp H a ns hlen hO hS) fun H e s' c => ?_
  obtain ⟨_, _, _, _, _, _, _, _, _, _, _, _, z⟩ := c
  exact z
theorem law_sp {K : PySem.W.Frag} {H : Hp} {a : Addr} {ns : List Int} {C : CT} (hS : SqL K H a (ns.map V.int)) (h : C [.rdl (ns.map D.int)] [] (fun d _ => d = .bl true) (fun _ _ _ => False)) : spD K C [.ref a] H (fun v _ => v = .bl true) (fun _ _ _ => False) := by
  refine ⟨H, [], [.rdl (ns.map D.int)], [], _, _, ⟨Same.refl _, by simp, rfl, by simp, fun k a o e _ => by simp at e⟩, .cons (.rdl hS (Rps.of_ints ns)) .nil, h, ?_, ?_⟩
  · intro v d μ' G' H' al' _ _ r p
    subst p
    cases r
    rfl
  · intro C fs dd μ' G' H' al' _ _ _ p
    exact p
end Dl
set_option Elab.async false
set_option linter.all false
set_option maxRecDepth 100000
namespace Dl
open PySem L2 PyProof.Rows
section
variable {K : PySem.W.Frag} {B : Bs} {ρ : En} {μ : Mu} {P : D → Mu → Prop} {te : TE} {x y : D} {ds : List D} {i j : Int}
/-- xs[::-1] -/
theorem de_revL (h : DE K B te ρ μ fun x μ1 => ∃ ds, Ls μ1 x ds ∧ P (.lst ds.reverse) μ1) : DE K B (tRevL K te) ρ μ P := fun σ G H al hB hσ hA Q hQ =>
  h σ G H al hB hσ hA _ fun v d μ1 G1 H1 al1 n1 A1 r1 p1 => by
    obtain ⟨ds, ls, p⟩ := p1
    obtain ⟨a, vs, rfl, sq, rs⟩ := ls.get A1 r1
    refine ⟨a, vs, rfl, sq, fun p' hp => ?_⟩
    obtain ⟨A2, n2⟩ := A1.frz (o := .lst vs.reverse) hp
    exact hQ _ _ μ1 _ _ _ (n1.trans n2) A2 (.lst upd_same (rs.reverse.nx n2)) p
theorem inV_strs (i : Str) (ns : List Str) : inV (.str i) (ns.map V.str) = decide (i ∈ ns) := by
  unfold inV
  induction ns with
  | nil => simp
  | cons n ns ih =>
    rw [List.map_cons, List.any_cons, ih]
    by_cases h : n = i
    · subst h; simp [eqV]
    · have h2 : ¬ i = n := fun e => h e.symm
      simp [eqV, h, h2]
theorem flat_strs (ns : List Str) : (ns.map V.str).all flatV = true := by simp [flatV]
theorem ro_notInS {s : Str} {ns : List Str} (hl : Ls μ y (ns.map D.str)) (h : P (.bl (!decide (s ∈ ns))) μ) : RO K (rNotInA K) (.str s) y μ P := fun G H al v w A r1 r2 Q hQ => by
  obtain ⟨a, vs, rfl, sq, rs⟩ := hl.get A r2
  cases r1
  have e := rs.strs; subst e
  refine .inl ⟨a, _, rfl, .inl sq, rfl, flat_strs ns, hQ.now A (.bl _) ?_⟩
  rw [if_pos rfl, inV_strs]; exact h
theorem eqv_nil (ds : List D) : eqvD (.lst ds) (.lst []) = decide (ds = []) := by
  cases ds with
  | nil => simp [eqvD_lst, eqvL, pyL, PyData.eqvAll]
  | cons d ds => simp [eqvD_lst, eqvL, pyL, PyData.eqvAll]
theorem ro_eqNil {n : Nat} (hx : Fz μ x (.lst ds)) (hs : shpL ds n = true) (h : P (.bl (decide (ds = []))) μ) (hn : n ≤ 63 := by decide) : RO K (rEqD K) x (.lst []) μ P :=
  ro_eqD (n := n + 1) (m := 1) hx (.id _) (by simpa [D.shp] using hs) rfl (by rw [eqv_nil]; exact h) (by omega)
/-- .. of at most a hundred thousand -/
def Sz (n : Nat) : Prop := n ≤ 100000
theorem de_tupZ {ts : TA} (h : DA K B ts ρ μ fun xs μ1 => Sz xs.length ∧ P (.tup xs) μ1) : DE K B (tTup ts) ρ μ P := de_tup h
theorem de_lstZ {ts : TA} (h : DA K B ts ρ μ fun xs μ1 => Sz xs.length ∧ P (.lst xs) μ1) : DE K B (tLst ts) ρ μ P := de_lst h
theorem de_lstOZ {ts : TA} (h : DA K B ts ρ μ fun xs μ1 => Sz xs.length ∧ P (.own μ1.length) (μ1 ++ [.lst xs])) : DE K B (tLst ts) ρ μ P := de_lstO h
/-- two things -/
def Two (ds : List D) (F : D → D → Prop) : Prop := ∃ x y, ds = [x, y] ∧ F x y
theorem two_i {F : D → D → Prop} (h : F x y) : Two [x, y] F := ⟨x, y, rfl, h⟩
theorem ds_parZ {ts : TA} {i j : Nat} {P : DEnds} (h : DA K B ts ρ μ fun ds μ1 => Two ds fun x y => P.nx ((ρ.set i (some x)).set j (some y)) μ1) : DS K B (tPar i j ts) ρ μ P := ds_par h
theorem q_parZ {ts : TA} {i j : Nat} {u : TS} {P : DEnds} (h : DA K B ts ρ μ fun ds μ1 => Two ds fun x y => DS K B u ((ρ.set i (some x)).set j (some y)) μ1 P) : DS K B (tSeq (tPar i j ts) u) ρ μ P := q_par h
theorem rs_anyL {lo hi : Option Int} (hl : Ls μ x ds) (h : P (.lst (cutD ds lo hi)) μ) : RS K (rSlA K) x lo hi μ P := fun G H al v A r Q hQ => .inl (rs_lst hl h G H al v A r Q hQ)
end
end Dl
set_option Elab.async false
set_option linter.all false
set_option maxRecDepth 100000
namespace L2
open PySem PySem.Spec PyProof.Rows
section
variable {X : Cx}
/-- o[i] of a list, by values -/
theorem get_list : PGet X (rIxL X.K) := by
  intro pins s σ H x y v u Q I rx ry h
  obtain ⟨p, xs, i, z, rfl, rfl, hq, he, q⟩ := h
  cases rx
  obtain ⟨t, rfl⟩ := ry
  obtain ⟨its, r, pl, hz⟩ := I.list hq
  obtain ⟨j, h1, h2, h3, h4, h5⟩ := atI_get he
  obtain ⟨w, ew, rw'⟩ := r.get h2
  have hl := r.length
  have hn := line63
  have fin : EP X pins σ Q w s := ⟨z, H, I, rw', q⟩
  by_cases h0 : 0 ≤ i
  · have hj : i.toNat = j := by
      rw [seqIndex_of h0 h5] at h1
      exact Option.some.inj h1
    exact wpAny_getItem_list pl.isList h0 (by omega) (by rw [hj]; simpa using ew) fin
  · have hj : (i + (its.toArray.size : Int)).toNat = j := by
      rw [seqIndex_neg (by omega) h4] at h1
      rw [List.size_toArray, ← hl]
      exact Option.some.inj h1
    exact wpAny_getItem_list_neg pl.isList (by omega) (by rw [List.size_toArray] <;> omega) (by omega) (by rw [hj]; simpa using ew) fin
end
end L2
namespace Dl
open PySem L2 PyProof.Rows
section
variable {K : PySem.W.Frag} {B : Bs} {ρ : En} {μ : Mu} {te to ti : TE} {t u : TS} {x y d : D} {ds : List D} {i j : Int}
theorem ro_ixLL {P : D → Mu → Prop} (hl : Ls μ x ds) (e : atI ds i = some d) (h : P d μ) : RO K (rIxL K) x (.int i) μ P := fun G H al v w A r1 r2 Q hQ => by
  obtain ⟨a, vs, rfl, sq, rs⟩ := hl.get A r1
  cases r2
  obtain ⟨w, hw, rw'⟩ := atI_rps rs e
  exact ⟨a, vs, i, w, rfl, rfl, sq, hw, hQ.now A rw' h⟩
theorem ds_augS {P : DEnds} {tip : TIp} {tset : TSet} {tget : V → V → Hp → VK → Prop} (h : DE K B to ρ μ fun o μ1 => DE K B ti ρ μ1 fun i μ2 => RO K tget o i μ2 fun x μ3 => DE K B te ρ μ3 fun y μ4 => RO K tip x y μ4 fun z μ5 => RSet K tset o i z μ5 fun μ6 => P.nx ρ μ6) : DS K B (tAugS to ti te tget tip tset) ρ μ P := fun σ G H al hB hσ hA De hD =>
  h σ G H al hB hσ hA _ fun vo o μ1 G1 H1 al1 n1 A1 r1 p1 => p1 σ G1 H1 al1 (hB.trans n1) (hσ.nx n1) A1 _ fun vi i μ2 G2 H2 al2 n2 A2 r2 p2 =>
    p2 G2 H2 al2 vo vi A2 (r1.nx n2) r2 _ fun vx x μ3 G3 H3 al3 n3 A3 r3 p3 =>
      p3 σ G3 H3 al3 ((hB.trans n1).trans (n2.trans n3)) (((hσ.nx n1).nx n2).nx n3) A3 _ fun vy y μ4 G4 H4 al4 n4 A4 r4 p4 =>
        p4 G4 H4 al4 vx vy A4 (r3.nx n4) r4 _ fun vz z μ5 G5 H5 al5 n5 A5 r5 p5 =>
          p5 G5 H5 al5 vo vi vz A5 ((((r1.nx n2).nx n3).nx n4).nx n5) (((r2.nx n3).nx n4).nx n5) r5 _ fun μ6 G6 H6 al6 n6 A6 p6 =>
            hD.nx _ _ μ6 G6 H6 al6 (((((n1.trans n2).trans n3).trans n4).trans n5).trans n6) ((((((hσ.nx n1).nx n2).nx n3).nx n4).nx n5).nx n6) A6 p6
theorem q_augS {P : DEnds} {tip : TIp} {tset : TSet} {tget : V → V → Hp → VK → Prop} (h : DE K B to ρ μ fun o μ1 => DE K B ti ρ μ1 fun i μ2 => RO K tget o i μ2 fun x μ3 => DE K B te ρ μ3 fun y μ4 => RO K tip x y μ4 fun z μ5 => RSet K tset o i z μ5 fun μ6 => DS K B u ρ μ6 P) : DS K B (tSeq (tAugS to ti te tget tip tset) u) ρ μ P := ds_seq (ds_augS h)
/-! ### fields, methods -/
/-- a field's data -/
def FldP (K : PySem.W.Frag) (μ : Mu) (x : D) (f : Str) (P : D → Prop) : Prop := ∃ C gs d, (x = .obj C gs ∨ ∃ k, x = .own k ∧ μ[k]? = some (.ins C gs)) ∧ Cls K C ∧ NoAttr K C f ∧ gs.lookup f = some d ∧ P d
theorem de_fldZ {f : Str} {P : D → Mu → Prop} (h : DE K B te ρ μ fun x μ1 => FldP K μ1 x f fun d => P d μ1) : DE K B (tFld K te f) ρ μ P := de_fld h
theorem fp_obj {f : Str} {C : Addr} {gs : List (Str × D)} {P : D → Prop} (c : Cls K C) (n : NoAttr K C f) (l : gs.lookup f = some d) (h : P d) : FldP K μ (.obj C gs) f P := ⟨C, gs, d, .inl rfl, c, n, l, h⟩
theorem fp_own {f : Str} {k : Nat} {C : Addr} {gs : List (Str × D)} {P : D → Prop} (hk : μ[k]? = some (.ins C gs)) (c : Cls K C) (n : NoAttr K C f) (l : gs.lookup f = some d) (h : P d) : FldP K μ (.own k) f P := ⟨C, gs, d, .inr ⟨k, rfl, hk⟩, c, n, l, h⟩
def MethP (μ : Mu) (Cc : Addr) (m : Str) (x : D) (P : Prop) : Prop := ∃ gs, (x = .obj Cc gs ∨ ∃ k, x = .own k ∧ μ[k]? = some (.ins Cc gs)) ∧ gs.lookup m = none ∧ P
theorem de_methZ {Cc : Addr} {m : Str} {C : CT} {E : XK} {PX : PXT} {ts : TA} {P : D → Mu → Prop} (hE : XAg K B PX E) (h : DE K B te ρ μ fun x μ1 => MethP μ1 Cc m x (DA K B ts ρ μ1 fun ds μ2 => C (x :: ds) μ2 P PX)) : DE K B (tMeth Cc m (spD K C) [] E te ts) ρ μ P := de_meth hE h
theorem mp_obj {Cc : Addr} {m : Str} {gs : List (Str × D)} {P : Prop} (l : gs.lookup m = none) (h : P) : MethP μ Cc m (.obj Cc gs) P := ⟨gs, .inl rfl, l, h⟩
theorem mp_own {Cc : Addr} {m : Str} {k : Nat} {gs : List (Str × D)} {P : Prop} (hk : μ[k]? = some (.ins Cc gs)) (l : gs.lookup m = none) (h : P) : MethP μ Cc m (.own k) P := ⟨gs, .inr ⟨k, rfl, hk⟩, l, h⟩
/-- a store into a field -/
def PutP (K : PySem.W.Frag) (μ : Mu) (x y : D) (f : Str) (P : Mu → Prop) : Prop := ∃ k C gs, x = .own k ∧ μ[k]? = some (.ins C gs) ∧ Cls K C ∧ NoAttr K C f ∧ gs.length < 1000 ∧ P (μ.set k (.ins C (putD f y gs)))
theorem ds_fldZ {f : Str} {tb : TE} {P : DEnds} (h : DE K B tb ρ μ fun y μ1 => DE K B te ρ μ1 fun x μ2 => PutP K μ2 x y f fun μ3 => P.nx ρ μ3) : DS K B (sFld K te tb f) ρ μ P := ds_fld h
theorem q_fldZ {f : Str} {tb : TE} {P : DEnds} (h : DE K B tb ρ μ fun y μ1 => DE K B te ρ μ1 fun x μ2 => PutP K μ2 x y f fun μ3 => DS K B u ρ μ3 P) : DS K B (tSeq (sFld K te tb f) u) ρ μ P := q_fld h
theorem pp_own {f : Str} {k : Nat} {C : Addr} {gs : List (Str × D)} {P : Mu → Prop} (hk : μ[k]? = some (.ins C gs)) (c : Cls K C) (n : NoAttr K C f) (l : gs.length < 1000) (h : P (μ.set k (.ins C (putD f y gs)))) : PutP K μ (.own k) y f P := ⟨k, C, gs, rfl, hk, c, n, l, h⟩
/-! ### steps in thought alone: what is known of the store is put otherwise -/
def Gh (K : PySem.W.Frag) (μ μ2 : Mu) : Prop := ∀ G H al, As K G H al μ → ∃ G', As K G' H al μ2 ∧ Nx G H al G' H al
theorem Gh.refl : Gh K μ μ := fun G H al A => ⟨G, A, .refl⟩
theorem Gh.trans {μ1 μ2 : Mu} (h : Gh K μ μ1) (h' : Gh K μ1 μ2) : Gh K μ μ2 := fun G H al A => by
  obtain ⟨G1, A1, n1⟩ := h G H al A
  obtain ⟨G2, A2, n2⟩ := h' G1 H al A1
  exact ⟨G2, A2, n1.trans n2⟩
/-- .. behind a statement -/
theorem ds_ghostN {P : DEnds} (h : DS K B t ρ μ { P with nx := fun ρ1 μ1 => ∃ μ2, Gh K μ1 μ2 ∧ P.nx ρ1 μ2 }) : DS K B t ρ μ P := fun σ G H al hB hσ hA De hD =>
  h σ G H al hB hσ hA De ⟨fun σ' ρ' μ' G' H' al' n' hσ' A' p => by
    obtain ⟨μ2, g, p⟩ := p
    obtain ⟨G1, A1, n1⟩ := g G' H' al' A'
    exact hD.nx σ' ρ' μ2 G1 H' al' (n'.trans n1) (hσ'.nx n1) A1 p, hD.rt, hD.bk, hD.ct⟩
end
theorem rpf_own {K : PySem.W.Frag} {G : Hp} {al : List Addr} {a : Addr} {j : Nat} {d : D} {f : Str} (ha : al[j]? = some a) (r : Rp K G al (.ref a) d) : ∀ {gs : List (Str × D)} {fs : List (Str × V)}, Rpf K G al fs gs → gs.lookup f = some (.own j) → Rpf K G al fs (putD f d gs)
  | [], _, _, e => by simp at e
  | (g, x) :: gs, _, h, e => by
    cases h with
    | @cons _ v vs _ _ r0 t =>
      unfold putD
      rw [List.lookup_cons] at e
      split
      · rename_i hg
        subst hg
        simp at e
        subst e
        cases r0 with
        | own e2 => rw [ha] at e2; cases e2; exact .cons r t
      · rename_i hg
        have hg2 : (f == g) = false := by simp; exact fun e => hg e.symm
        rw [hg2] at e
        exact .cons r0 (rpf_own ha r t e)
/-- a list in a field is frozen -/
theorem gh_fld {K : PySem.W.Frag} {μ : Mu} {k j : Nat} {C : Addr} {gs : List (Str × D)} {f : Str} {ds : List D} (hk : μ[k]? = some (.ins C gs)) (hl : gs.lookup f = some (.own j)) (hj : μ[j]? = some (.lst ds)) : Gh K μ ((μ.set j .dead).set k (.ins C (putD f (.lst ds) gs))) := fun G H al A => by
  obtain ⟨a, ha, ga, vs, hv, rs⟩ := A.get hj
  obtain ⟨A1, n1⟩ := A.freeze ha hv ga
  have hjk : j ≠ k := fun e => by rw [e, hk] at hj; cases hj
  have hk1 : (μ.set j .dead)[k]? = some (.ins C gs) := by rw [List.getElem?_set_ne hjk]; exact hk
  obtain ⟨b, hb, gb, dx, fs, hfs, rf⟩ := A1.get hk1
  have r2 : Rp K (upd G a (.lst vs)) al (.ref a) (.lst ds) := .lst upd_same (rs.nx n1)
  have hup : upd H b (.ins C dx fs) = H := by
    funext z
    by_cases hz : z = b
    · subst hz; rw [upd_same, hfs]
    · rw [upd_ne hz]
  obtain ⟨A2, n2⟩ := A1.put (o := .ins C dx fs) (m' := .ins C (putD f (.lst ds) gs)) hb hk1 (by simp) ⟨gb, dx, fs, upd_same, rpf_own ha r2 rf hl⟩
  rw [hup] at A2 n2
  exact ⟨_, A2, n1.trans n2⟩
theorem atNN {α : Type} {xs : List α} {i : Int} (h0 : 0 ≤ i) (h1 : i < xs.length) : ∃ x, atI xs i = some x ∧ xs[i.toNat]? = some x := by
  have h : i.toNat < xs.length := by omega
  refine ⟨xs[i.toNat], ?_, List.getElem?_eq_getElem h⟩
  have e : ((i.toNat : Nat) : Int) = i := by omega
  have := atI_nat (List.getElem?_eq_getElem h)
  rw [e] at this
  exact this
theorem log2S {m : Int} (h0 : 0 < m) (h : m < 2 ^ 200) : m.natAbs.log2 < 9000 := by
  have h1 : m.natAbs < 2 ^ 200 := by omega
  have : m.natAbs.log2 < 200 := (Nat.log2_lt (by omega)).mpr h1
  omega
end Dl
set_option Elab.async false
set_option linter.all false
set_option maxRecDepth 100000
/-! sets of any number of texts: how many there are -/
namespace DlSet
open PySem PySem.Spec PyProof.Rows
abbrev setO (led : Bool) : Obj := { cls := .type "set", dict := none, data := .set #[] 0 (.fresh 0 0 led) }
def ded (xs : List Str) (i : Nat) : List Str := (xs.take i).foldl (fun σ v => if σ.any (· == v) then σ else σ ++ [v]) []
theorem ded_succ {xs : List Str} {i : Nat} {x : Str} (h : xs[i]? = some x) : ded xs (i + 1) = if (ded xs i).any (· == x) then ded xs i else ded xs i ++ [x] := by
  unfold ded
  rw [List.take_add_one, h, List.foldl_append]
  rfl
theorem ded_len (xs : List Str) (i : Nat) : (ded xs i).length ≤ i := by
  induction i with
  | zero => simp [ded]
  | succ i ih =>
    cases q : xs[i]? with
    | none =>
      have : xs.take (i + 1) = xs.take i := by rw [List.take_add_one, q]; simp
      unfold ded at ih ⊢
      rw [this]; omega
    | some x =>
      rw [ded_succ q]
      split
      · omega
      · simp; omega
section
variable {prog : Program} {w : World} {A : Around} {R : Result → Shared → Prop} {I : Addr} {fp wr : List Addr} {G : Array GenState → Array GenState → Prop} {n : Nat} {P : Nat → Value → Prop} {St : Nat → Shared → Prop}
theorem loopS (W : WalksS prog w A.in1 I fp wr G n P St) (S : Addr) (hSf : S ∉ fp) (xs : List Str) (hsz : xs.length = n) (hb : n + 1 < scanBound)
    (hval : ∀ i v, P i v → ∃ t, v = .str (xs.getD i Str.empty) t) :
    ∀ (k i : Nat) (s : Shared), n - i = k → i ≤ n → St i s →
      s.heap.SetOf (PySem.strKind prog w) S (fun k' => (ded xs i).any (· == k')) (ded xs i).length →
      (∀ s', Moved (S :: wr) G s s' → s'.heap.SetOf (PySem.strKind prog w) S (fun k' => (ded xs n).any (· == k')) (ded xs n).length → R (.ok (.ret .none)) s') →
      codeAny (model prog w) A (.builtin "set.update.loop" ⟨[.ref S, .ref I], []⟩) R s := by
  have hSw : S ∉ wr := fun h => hSf (W.sub _ h)
  have hsub : ∀ b ∈ wr, b ∈ S :: wr := fun b hb => List.mem_cons_of_mem _ hb
  intro k
  induction k with
  | zero =>
    intro i s hk hi hst hS hR
    have hin : i = n := by omega
    subst hin
    refine codeAny_builtin PyProof.Rows.F.entry_set_update_loop ?_
    rw [Around.under_plainId PyProof.Rows.F.plain_set_update_loop _]
    show wpAny _ A.in1 (pyNext (.ref I) >>= _) _ _ s
    refine wpAny_bind (W.done s _ _ hst fun s' hm => ?_)
    show wpAny _ A.in1 (ret Value.none) _ _ s'
    refine wpAny_pure (hR s' (hm.mono hsub) ?_)
    obtain ⟨o, es, ep, t, ho, rest⟩ := hS
    exact ⟨o, es, ep, t, hm.heap S _ hSw ho, rest⟩
  | succ k ih =>
    intro i s hk hi hst hS hR
    have hlt : i < n := by omega
    have hx : xs[i]? = some (xs.getD i Str.empty) := by
      rw [List.getD_eq_getElem?_getD, List.getElem?_eq_getElem (by omega)]
      rfl
    refine codeAny_builtin PyProof.Rows.F.entry_set_update_loop ?_
    rw [Around.under_plainId PyProof.Rows.F.plain_set_update_loop _]
    show wpAny _ A.in1 (pyNext (.ref I) >>= _) _ _ s
    refine wpAny_bind (W.item i s _ _ hlt hst fun v s' hP hst' hm => ?_)
    obtain ⟨t, rfl⟩ := hval i v hP
    have hS' : s'.heap.SetOf (PySem.strKind prog w) S (fun k' => (ded xs i).any (· == k')) (ded xs i).length := by
      obtain ⟨o, es, ep, tb, ho, rest⟩ := hS
      exact ⟨o, es, ep, tb, hm.heap S _ hSw ho, rest⟩
    show wpAny _ A.in1 (holding [Value.str (xs.getD i Str.empty) t] (setAdd S (.str (xs.getD i Str.empty) t)) >>= _) _ _ s'
    refine wpAny_bind (wpAny_holding ?_)
    unfold setAdd
    refine wpAny_holding ?_
    refine wpAny_bind ((PySem.strKind prog w).pyHash (k := xs.getD i Str.empty) (strKind_is _ _ _ _) ?_)
    have hroom : (ded xs i).length + 1 < scanBound := by have := ded_len xs i; omega
    refine wpAny_setAddHashed_of (knd := PySem.strKind prog w) (s := { s' with toks := s'.toks + 1 }) (strKind_is _ _ _ _) rfl hS' hroom fun h' hsb hS2 => ?_
    have hSi : h'.SetOf (PySem.strKind prog w) S (fun k' => (ded xs (i + 1)).any (· == k')) (ded xs (i + 1)).length := by
      refine SetOf_congr hS2 (fun k' => ?_) ?_
      · rw [ded_succ hx]
        by_cases hc : (ded xs i).any (· == xs.getD i Str.empty) = true
        · rw [if_pos hc]
          by_cases e : k' = xs.getD i Str.empty
          · subst e; rw [hc]; simp
          · rw [decide_eq_false e, Bool.or_false]
        · rw [if_neg hc, List.any_append]
          congr 1
          by_cases e : k' = xs.getD i Str.empty
          · subst e; simp
          · have : (xs.getD i Str.empty == k') = false := by simpa [beq_iff_eq] using (fun h' => e h'.symm)
            simp only [List.any_cons, List.any_nil, Bool.or_false, this]
            simpa using e
      · rw [ded_succ hx]
        split <;> simp
    refine wpAny_pure ⟨plainId_quiet PyProof.Rows.F.plain_set_update_loop _, ih (i + 1) _ (by omega) hlt (W.frame _ s' _ _ hst' (Nat.le_succ _) fun b hb o e => ?_) hSi fun s'' hm'' hS'' => ?_⟩
    · rw [hsb.2 b (fun h : b = S => hSf (by rw [← h]; exact hb))]; exact e
    · refine hR s'' (Moved.trans W.gtrans ((hm.mono hsub).then_heap (Nat.le_succ _) fun b o hb e => ?_) hm'') hS''
      rw [hsb.2 b (fun h : b = S => hb (by rw [h]; exact List.mem_cons_self))]; exact e
end
section
variable {prog : Program} {w : World} {A : Around} {E : Value → Shared → Prop} {s : Shared}
set_option maxHeartbeats 3200000 in
theorem call_set_texts {l : Addr} {items : Array Value} {xs : List Str} {Q : Value → Shared → Prop}
    (hh : A.handled = none) (hl : s.heap.IsList l items) (hi : PyProof.Rows.StrsAre items.toList xs) (hb : items.size + 1 < scanBound)
    (h : ∀ (h' : Heap) (tk : Nat), h'.SetOf (PySem.strKind prog w) s.heap.objs.size (fun k' => (ded xs items.size).any (· == k')) (ded xs items.size).length →
      (∀ b o, b < s.heap.objs.size → s.heap.get? b = some o → h'.get? b = some o) → Q (.ref s.heap.objs.size) { s with heap := h', toks := tk }) :
    wpAny (model prog w) A (call (.type "set") [.ref l]) Q E s := by
  obtain ⟨c, tl, hmro⟩ := PySem.F.called_set.mro
  have hmade := PySem.F.called_set.made
  have hsub := PySem.F.called_set.sub
  refine wpAny_call (codeAny_of_tree ?_)
  show wpAny _ _ (callAny (.type "set") _) _ _ _
  refine wpAny_pure ⟨Code.quiet_builtin _ (by decide +kernel), codeAny_builtin PySem.F.entry_type_call ?_⟩
  rw [Around.under_plain (weight_type_call_type "set" [.ref l] []) rfl]
  have h1 := PySem.F.called_set.notType
  have h2 := PySem.F.called_set.canCreate
  have hct := PySem.F.typeCall_set_1 (.ref l)
  repeat (any_goals (first | assumption | wp_step))
  refine codeAny_mono (code_set_new_1 (.ref l) (E := E) (Q₁ := fun obj s₁ => ∃ led : Bool, obj = .ref s.heap.objs.size ∧ s₁ = { s with heap := s.heap.push (setO led) }) fun led => ⟨led, rfl, rfl⟩) fun r s₁ hr => ?_
  match r, hr with
  | .error e, hr => exact hr
  | .ok .next, hr => exact hr.elim
  | .ok .brk, hr => exact hr.elim
  | .ok .cont, hr => exact hr.elim
  | .ok (.ret obj), hr =>
    obtain ⟨led, rfl, rfl⟩ := hr
    have hS : (s.heap.push (setO led)).get? s.heap.objs.size = some (setO led) := Heap.get?_push_size _ rfl
    have hT : Shared.TypeIs { s with heap := s.heap.push (setO led) } (.ref s.heap.objs.size) "set" := ⟨_, hS, rfl⟩
    have hli := PySem.F.called_set.init.lookup
    have hbi := PySem.F.called_set.init.bind (.ref s.heap.objs.size)
    repeat (any_goals (first | assumption | wp_step))
    refine codeAny_mono (codeAny_call_builtin (R := wants (fun r s₂ => r = .none ∧ ∃ h' tk, s₂ = { s with heap := h', toks := tk } ∧
        h'.SetOf (PySem.strKind prog w) s.heap.objs.size (fun k' => (ded xs items.size).any (· == k')) (ded xs items.size).length ∧
        (∀ b o, b < s.heap.objs.size → s.heap.get? b = some o → h'.get? b = some o)) E) PySem.F.called_set.init.plain PySem.F.entry_set_init (check_set_init_1 hT ?_)) fun r₂ s₂ hr₂ => ?_
    · obtain ⟨⟨ocls, odict, odata, oslots⟩, hol, hcl, nl, hdl⟩ := hl
      simp only at hcl hdl
      subst hcl; subst hdl
      have hol' : (s.heap.push (setO led)).get? l = some { cls := .type "list", dict := odict, data := .seq items nl, slots := oslots } := Heap.get?_push_of_some _ hol
      have hsls := PySem.F.sub_list_set
      have hslf := PySem.F.sub_list_frozenset
      have hne : (Value.type "list" == Value.type "dict") = false := by decide
      have hl1 : (s.heap.push (setO led)).IsList l items := ⟨_, hol', rfl, nl, rfl⟩
      unfold Builtin.«set.__init__» noKeywords Builtin.Frozenset.updateFrom
      generalize hPI : pyIter = PI
      wp_walk
      subst hPI
      refine wpAny_pyIter_list hl1 ?_
      refine wpAny_bind (wpAny_runValue ?_)
      have hlS : l < s.heap.objs.size := Heap.lt_size hol
      have hh3 : A.in1.in1.in1.handled = none := by simp [hh]
      have hneI : l ≠ (s.heap.push (setO led)).objs.size := by
        rw [Heap.size_push]; exact Nat.ne_of_lt (Nat.lt_succ_of_lt hlS)
      have hSf : s.heap.objs.size ∉ [(s.heap.push (setO led)).objs.size, l] := by
        rw [Heap.size_push]
        intro hx
        rcases List.mem_cons.mp hx with e | e
        · exact Nat.ne_of_lt (Nat.lt_succ_self _) e
        · exact Nat.ne_of_gt hlS (List.mem_singleton.mp e)
      have hsz : xs.length = items.size := by rw [← StrsAre.len_eq hi, Array.length_toList]
      refine loopS ((Walks.list hh3 _ l hneI items).toS) s.heap.objs.size hSf xs hsz hb (fun i v hv => SS.strs_at hi i v (by rw [Array.getElem?_toList]; exact hv)) items.size 0 _ rfl (Nat.zero_le _)
        ⟨⟨_, Heap.get?_push_size _ rfl, rfl, rfl⟩, (hl1.push _)⟩ ?_ fun s' hm hS' => ?_
      · have hget : ((s.heap.push (setO led)).push { cls := .type "list_iterator", data := .fields #[.ref l, .int 0 0] }).get? s.heap.objs.size = some (setO led) := Heap.get?_push_of_some _ hS
        exact PyProof.Rows.SetOf_congr ((PyProof.Rows.setObjOf_fresh (knd := PySem.strKind prog w) led).setOf hget (by unfold scanBound; omega)) (fun _ => by simp [ded]) (by simp [ded])
      · obtain ⟨h', g', d', tk', os'⟩ := s'
        have eg : g' = s.gens := hm.gens
        have ed : d' = s.drawn := hm.drawn
        have eo : os' = s.os := hm.os
        subst eg; subst ed; subst eo
        show wpAny _ _ _ _ _ _
        refine wpAny_pure ?_
        show wpAny _ _ (ret Value.none) _ _ _
        refine wpAny_pure ⟨rfl, h', tk', rfl, hS', fun b o hb' e => ?_⟩
        refine hm.heap b o ?_ (Heap.get?_push_of_some _ (Heap.get?_push_of_some _ e))
        intro hx
        rw [Heap.size_push] at hx
        rcases List.mem_cons.mp hx with e' | e'
        · exact Nat.ne_of_lt hb' e'
        · exact Nat.ne_of_lt (Nat.lt_succ_of_lt hb') (List.mem_singleton.mp e')
    · match r₂, hr₂ with
      | .error e, hr₂ => exact hr₂
      | .ok .next, hr₂ => exact hr₂.elim
      | .ok .brk, hr₂ => exact hr₂.elim
      | .ok .cont, hr₂ => exact hr₂.elim
      | .ok (.ret r), hr₂ =>
        obtain ⟨rfl, h', tk, rfl, hS', hk'⟩ := hr₂
        repeat (any_goals (first | assumption | wp_step))
        exact h _ _ hS' hk'
end
end DlSet
namespace L2
open PySem PySem.Spec PyProof.Rows
/-- len(set(xs)) of a list of texts -/
def tLenSetS (K : PySem.W.Frag) (ta : TE) : TE := fun σ H Q => ta σ H fun x H1 => ∃ (l : Addr) (xs : List Str), x = .ref l ∧ SqL K H1 l (xs.map V.str) ∧ xs.length ≤ 4000 ∧ Q (.int ((DlSet.ded xs xs.length).length : Nat)) H1
theorem pe_lenSetS {X : Cx} {a : Expr} {ta : TE} {p p2 q pos : Pos} (hg : Gl X "len") (hm : X.mg "len" = none) (hg2 : Gl X "set") (hm2 : X.mg "set" = none) (ha : PE X a ta) (hc : X.calm = true := by rfl)
    (na : starEach [a] X.env = (false, eval a X.env) :: starEach [] X.env := by rfl) : PE X (.Call (.Name "len" p) [.Call (.Name "set" p2) [a] [] q] [] pos) (tLenSetS X.K ta) := by
  refine ⟨fun pins s σ H Q I h => ?_⟩
  refine Call_ (ld_blt I hg hm boot_len ?_)
  refine PyProof.Rows.callWith_builtin1 (PyProof.Rows.args_cons ?_ rfl) rfl rfl
  refine Call_ (ld_blt I hg2 hm2 boot_set ?_)
  refine PyProof.Rows.callWith_type1 (PyProof.Rows.args_cons (thn (ha.run pins s σ H _ I h) fun v s1 ⟨x, H1, I1, r1, q1⟩ => PyProof.Rows.args_nil ?_) na) na rfl
  obtain ⟨l, xs, rfl, hq, hl, q1⟩ := q1
  cases r1
  obtain ⟨its, r, pl, hz⟩ := I1.list hq
  have hlen : its.toArray.size = xs.length := by rw [List.size_toArray, ← r.length, List.length_map]
  refine DlSet.call_set_texts (I1.ok.hd hc) pl.isList (by simpa using strsAre_of r) (by rw [hlen]; unfold scanBound; omega) fun h' tk hS hk => ?_
  refine PyProof.Rows.args_nil ?_
  rw [hlen] at hS
  obtain ⟨o, es, ep, t, ho, hex, hd, _, _, _, hf, hn⟩ := hS
  have I2 : Inv X pins σ H1 { s1 with heap := h', toks := tk } := I1.kept fun b o e => hk b o (Heap.lt_size e) e
  have hdl := DlSet.ded_len xs xs.length
  exact call_len_set ho hex hd hf (by rw [hn] <;> omega) ⟨.int _, H1, I2.tok _, ⟨_, by rw [hn]⟩, q1⟩
end L2
set_option Elab.async false
set_option linter.all false
set_option maxRecDepth 100000
namespace L2
open PySem
def rJoin (K : PySem.W.Frag) : V → List V → Hp → VK → Prop := fun x xs H Q => ∃ a p, ∃ ys : List Str, x = .str a ∧ xs = [.ref p] ∧ (SqL K H p (ys.map V.str) ∨ SqT K H p (ys.map V.str)) ∧ (ys.map (·.length)).sum + ys.length * a.length ≤ 16777216 ∧ Q (.str (Txt.join a ys)) H
end L2
namespace Dl
open PySem L2 PyProof.Rows
section
variable {K : PySem.W.Frag} {B : Bs} {ρ : En} {μ : Mu} {P : D → Mu → Prop} {te : TE} {x y : D} {ds : List D} {i j : Int}
theorem ty_str {s : Str} : ∀ G H al v, As K G H al μ → Rp K G al v (.str s) → tyV K "str" v H := fun G H al v A r => by
  cases r
  rfl
theorem rm_join {a : Str} {ys : List Str} (hl : Ls μ x (ys.map D.str)) (hz : (ys.map (·.length)).sum + ys.length * a.length ≤ 100000) (h : P (.str (Txt.join a ys)) μ) : RM K (rJoin K) (.str a) [x] μ P := fun G H al v vs A r rs Q hQ => by
  obtain ⟨w, rfl, r1⟩ := rps1 rs
  obtain ⟨p, ws, rfl, sq, rs2⟩ := hl.get A r1
  cases r
  have e := rs2.strs
  subst e
  exact ⟨a, p, ys, rfl, rfl, .inl sq, by omega, hQ.now A (.str _) h⟩
theorem de_lenSetS (h : DE K B te ρ μ fun x μ1 => ∃ xs : List Str, Ls μ1 x (xs.map D.str) ∧ xs.length ≤ 4000 ∧ P (.int ((DlSet.ded xs xs.length).length : Nat)) μ1) : DE K B (tLenSetS K te) ρ μ P := fun σ G H al hB hσ hA Q hQ =>
  h σ G H al hB hσ hA _ fun v d μ1 G1 H1 al1 n1 A1 r1 p1 => by
    obtain ⟨xs, ls, hl, p⟩ := p1
    obtain ⟨a, vs, rfl, sq, rs⟩ := ls.get A1 r1
    have e := rs.strs
    subst e
    exact ⟨a, xs, rfl, sq, hl, (hQ.nx n1).now A1 (.int _) p⟩
theorem da_imp {ta : TA} {P' Q' : List D → Mu → Prop} (h : DA K B ta ρ μ P') (i : ∀ b μ', P' b μ' → Q' b μ') : DA K B ta ρ μ Q' := fun σ G H al hB hσ hA Q hQ => h σ G H al hB hσ hA Q fun vs b μ' G' H' al' n A r p => hQ vs b μ' G' H' al' n A r (i b μ' p)
/-- is None -/
def IsNP (x : D) (Q : Bool → Prop) : Prop := ∃ b, (b = true ↔ x = .non) ∧ Q b
theorem de_isNZ (h : DE K B te ρ μ fun x μ1 => IsNP x fun b => P (.bl b) μ1) : DE K B (tIsN te) ρ μ P := de_isN h
theorem de_notNZ (h : DE K B te ρ μ fun x μ1 => IsNP x fun b => P (.bl (!b)) μ1) : DE K B (tNotN te) ρ μ P := de_notN h
theorem np_t {Q : Bool → Prop} (h : Q true) : IsNP .non Q := ⟨true, by simp, h⟩
theorem np_f {Q : Bool → Prop} (hx : x ≠ .non) (h : Q false) : IsNP x Q := ⟨false, by simp [hx], h⟩
theorem np_int {Q : Bool → Prop} {i : Int} (h : Q false) : IsNP (.int i) Q := np_f (by simp) h
theorem np_bl {Q : Bool → Prop} {i : Bool} (h : Q false) : IsNP (.bl i) Q := np_f (by simp) h
theorem np_str {Q : Bool → Prop} {i : Str} (h : Q false) : IsNP (.str i) Q := np_f (by simp) h
theorem np_lst {Q : Bool → Prop} {i : List D} (h : Q false) : IsNP (.lst i) Q := np_f (by simp) h
theorem np_tup {Q : Bool → Prop} {i : List D} (h : Q false) : IsNP (.tup i) Q := np_f (by simp) h
theorem np_own {Q : Bool → Prop} {i : Nat} (h : Q false) : IsNP (.own i) Q := np_f (by simp) h
theorem np_obj {Q : Bool → Prop} {C : Addr} {gs : List (Str × D)} (h : Q false) : IsNP (.obj C gs) Q := np_f (by simp) h
/-- a sign in a text -/
theorem ro_inSg {c : Nat} {z : Str} (h : P (.bl (decide (c ∈ z.cps.toList))) μ) : RO K (rInA K) (.str ⟨#[c]⟩) (.str z) μ P := fun G H al v w A r1 r2 Q hQ => by
  cases r1; cases r2
  exact .inr (.inl ⟨c, z, rfl, rfl, hQ.now A (.bl _) h⟩)
end
/-! ### names -/
def letters : List Nat := (List.range 26).map (· + 97)
def nameOk (s : Str) : Prop := 1 ≤ s.length ∧ s.length ≤ 8 ∧ ∀ c ∈ s.cps.toList, c ∈ letters
instance (s : Str) : Decidable (nameOk s) := by unfold nameOk; infer_instance
theorem letters_str : ("abcdefghijklmnopqrstuvwxyz" : Str).cps.toList = letters := by decide +kernel
theorem nameOk.strOk {s : Str} (h : nameOk s) : PyData.strOk s = true := by
  unfold PyData.strOk
  rw [← Array.all_toList, List.all_eq_true]
  intro c hc
  have := h.2.2 c hc
  unfold letters at this
  obtain ⟨i, hi, rfl⟩ := List.mem_map.mp this
  have := List.mem_range.mp hi
  simp; omega
theorem join_signs (cs : List Nat) : Txt.join ("" : Str) (cs.map fun c => (⟨#[c]⟩ : Str)) = ⟨cs.toArray⟩ := by
  have h1 : TL.joinL [] (cs.map fun c => [c]) = cs := by
    induction cs with
    | nil => rfl
    | cons c cs ih =>
      cases cs with
      | nil => rfl
      | cons d ds =>
        simp only [List.map_cons, TL.joinL] at ih ⊢
        rw [ih]
        rfl
  have h2 := SX.join_S [] (cs.map fun c => [c])
  rw [h1, List.map_map] at h2
  exact h2
end Dl
set_option Elab.async false
set_option linter.all false
set_option maxRecDepth 100000
/-! range of numbers of any size -/
namespace Dl
open PySem L2 PyProof.Rows
section
variable {X : Cx} {tg : Expr}
def iRng2W (ta : TA) : TI := fun σ H R => ta σ H fun vs H1 => ∃ i j : Int, vs = [.int i, .int j] ∧ R (Itr i (j - i).toNat) H1
end
section
variable {K : PySem.W.Frag} {B : Bs} {ρ : En} {μ : Mu} {ts : TA} {PI' : List D → (Mu → Prop) → Mu → Prop}
theorem di_range2W (h : DA K B ts ρ μ fun xs μ1 => ∃ lo n : Int, xs = [.int lo, .int n] ∧ PI' (rangeD lo (n - lo).toNat) (fun _ => True) μ1) : DI K B (iRng2W ts) ρ μ PI' := fun σ G H al hB hσ hA R hR =>
  h σ G H al hB hσ hA _ fun vs ds μ1 G1 H1 al1 n1 A1 r1 p1 => by
    obtain ⟨lo, n, rfl, p⟩ := p1
    obtain ⟨v, w, rfl, q1, q2⟩ := rps2 r1
    cases q1; cases q2
    exact ⟨lo, n, rfl, hR _ _ _ μ1 G1 H1 al1 n1 A1 itr_ok p⟩
end
end Dl
set_option Elab.async false
set_option linter.all false
set_option maxRecDepth 100000
namespace Dl
open PySem L2 PyProof.Rows
section
variable {K : PySem.W.Frag} {B : Bs} {ρ : En} {μ : Mu} {ts : TA} {u : TS} {x y z : D}
def Three (ds : List D) (F : D → D → D → Prop) : Prop := ∃ x y z, ds = [x, y, z] ∧ F x y z
theorem three_i {F : D → D → D → Prop} (h : F x y z) : Three [x, y, z] F := ⟨x, y, z, rfl, h⟩
theorem ds_par3 {i j l : Nat} {P : DEnds} (h : DA K B ts ρ μ fun ds μ1 => Three ds fun x y z => P.nx (((ρ.set i (some x)).set j (some y)).set l (some z)) μ1) : DS K B (tPar3 i j l ts) ρ μ P := fun σ G H al hB hσ hA De hD =>
  h σ G H al hB hσ hA _ fun vs ds μ1 G1 H1 al1 n1 A1 r1 p1 => by
    obtain ⟨x, y, z, rfl, p⟩ := p1
    obtain ⟨v, ws, rfl, rx, r2⟩ := rps_cons r1
    obtain ⟨w, u, rfl, ry, rz⟩ := rps2 r2
    exact ⟨_, _, _, rfl, hD.nx _ _ μ1 G1 H1 al1 n1 ((((hσ.nx n1).set i rx).set j ry).set l rz) A1 p⟩
theorem q_par3 {i j l : Nat} {P : DEnds} (h : DA K B ts ρ μ fun ds μ1 => Three ds fun x y z => DS K B u (((ρ.set i (some x)).set j (some y)).set l (some z)) μ1 P) : DS K B (tSeq (tPar3 i j l ts) u) ρ μ P := ds_seq (ds_par3 h)
theorem ro_eqNI {i : Int} {P : D → Mu → Prop} (h : P (.bl false) μ) : RO K (rEqD K) .non (.int i) μ P := ro_eqD (n := 0) (m := 0) (.id _) (.id _) rfl rfl (by rw [show eqvD .non (.int i) = false by simp only [eqvD, D.py, PyData.eqv]]; exact h)
end
end Dl
set_option Elab.async false
set_option linter.all false
set_option maxRecDepth 100000
/-! dicts with keys ints and texts -/
namespace Dl
open PySem L2
def keyD : Key → D
  | .inl i => .int i
  | .inr s => .str s
def valD (kvs : List (Key × D)) (k : Key) : Option D := (kvs.find? fun kv => decide (kv.1 = k)).map (·.2)
def putKD (kvs : List (Key × D)) (k : Key) (v : D) : List (Key × D) :=
  if (kvs.any fun kv => decide (kv.1 = k)) = true then kvs.map (fun kv => if kv.1 = k then (kv.1, v) else kv) else kvs ++ [(k, v)]
theorem rp_key {K : PySem.W.Frag} {G : Hp} {al : List Addr} {v : V} {k : Key} (h : Rp K G al v (keyD k)) : v = kV k := by
  cases k with
  | inl i => cases h; rfl
  | inr s => cases h; rfl
section
variable {K : PySem.W.Frag} {G H : Hp} {al : List Addr}
theorem Rpk.val : ∀ {gs : List (Key × D)} {kvs : List (Key × V)}, Rpk K G al kvs gs → ∀ k, (∀ d, valD gs k = some d → ∃ v, valV kvs k = some v ∧ Rp K G al v d) ∧ (valD gs k = none → valV kvs k = none)
  | [], _, h, k => by cases h; exact ⟨fun d e => (by cases e), fun _ => rfl⟩
  | (f, x) :: gs, _, h, k => by
    cases h with
    | @cons f v vs d ds r t =>
      have ih := t.val k
      by_cases e : f = k
      · refine ⟨fun d' e' => ?_, fun e' => ?_⟩
        · simp [valD, List.find?_cons, e] at e'
          subst e'
          exact ⟨v, valV_pos e, r⟩
        · simp [valD, List.find?_cons, e] at e'
      · have e1 : valD ((f, x) :: gs) k = valD gs k := by simp [valD, List.find?_cons, e]
        rw [e1, valV_neg (p := (f, v)) e]
        exact ih
theorem Rpk.any : ∀ {gs : List (Key × D)} {kvs : List (Key × V)}, Rpk K G al kvs gs → ∀ k, (kvs.any fun kv => decide (kv.1 = k)) = (gs.any fun kv => decide (kv.1 = k))
  | [], _, h, k => by cases h; rfl
  | (f, x) :: gs, _, h, k => by
    cases h with
    | cons r t => simp only [List.any_cons, t.any k]
theorem Rpk.append : ∀ {gs fs : List (Key × D)} {kvs ls : List (Key × V)}, Rpk K G al kvs gs → Rpk K G al ls fs → Rpk K G al (kvs ++ ls) (gs ++ fs)
  | [], _, _, _, h, h' => by cases h; exact h'
  | _ :: _, _, _, _, h, h' => by cases h with | cons r t => exact .cons r (t.append h')
theorem Rpk.repl {k : Key} {v : V} {d : D} (r : Rp K G al v d) : ∀ {gs : List (Key × D)} {kvs : List (Key × V)}, Rpk K G al kvs gs → Rpk K G al (kvs.map fun kv => if kv.1 = k then (kv.1, v) else kv) (gs.map fun kv => if kv.1 = k then (kv.1, d) else kv)
  | [], _, h => by cases h; exact .nil
  | (f, x) :: gs, _, h => by
    cases h with
    | cons r' t =>
      simp only [List.map_cons]
      by_cases e : f = k
      · rw [if_pos e, if_pos e]; exact .cons r (t.repl r)
      · rw [if_neg e, if_neg e]; exact .cons r' (t.repl r)
theorem Rpk.put {gs : List (Key × D)} {kvs : List (Key × V)} (h : Rpk K G al kvs gs) (k : Key) {v : V} {d : D} (r : Rp K G al v d) : Rpk K G al (putK kvs k v) (putKD gs k d) := by
  unfold putK putKD
  rw [h.any k]
  split
  · exact h.repl r
  · exact h.append (.cons r .nil)
theorem Rpk.length : ∀ {gs : List (Key × D)} {kvs : List (Key × V)}, Rpk K G al kvs gs → kvs.length = gs.length
  | [], _, h => by cases h; rfl
  | _ :: _, _, h => by cases h with | cons _ t => simp [t.length]
end
/-- a dict as it stands -/
inductive Dt (μ : Mu) : D → List (Key × D) → Prop
  | dct (gs : List (Key × D)) : Dt μ (.dct gs) gs
  | own {k : Nat} {gs : List (Key × D)} (h : μ[k]? = some (.dK gs)) : Dt μ (.own k) gs
theorem Dt.get {K : PySem.W.Frag} {G H : Hp} {al : List Addr} {μ : Mu} {v : V} {d : D} {gs : List (Key × D)} (h : Dt μ d gs) (A : As K G H al μ) (r : Rp K G al v d) : ∃ a kvs, v = .ref a ∧ Rd H a (.dK kvs) ∧ Rpk K G al kvs gs := by
  cases h with
  | dct => cases r with | dct e rs => exact ⟨_, _, rfl, rd_mono A.sub e, rs⟩
  | own hk =>
    obtain ⟨a, ha, ga, vs, hv, rs⟩ := A.get hk
    cases r with
    | own e => rw [ha] at e; cases e; exact ⟨_, vs, rfl, .inl hv, rs⟩
section
variable {K : PySem.W.Frag} {B : Bs} {ρ : En} {μ : Mu} {td ty tv tx : TE} {P : D → Mu → Prop} {u : TS}
def DGetP (μ : Mu) (x y : D) (F : D → Prop) : Prop := ∃ gs k d, Dt μ x gs ∧ y = keyD k ∧ valD gs k = some d ∧ F d
def DInP (μ : Mu) (x y : D) (F : Bool → Prop) : Prop := ∃ gs k, Dt μ x gs ∧ y = keyD k ∧ F (valD gs k).isSome
theorem dgp_s {x d : D} {gs : List (Key × D)} {s : Str} {F : D → Prop} (h : Dt μ x gs) (e : valD gs (.inr s) = some d) (f : F d) : DGetP μ x (.str s) F := ⟨gs, .inr s, d, h, rfl, e, f⟩
theorem Rpk.isSome {G : Hp} {al : List Addr} {gs : List (Key × D)} {kvs : List (Key × V)} (h : Rpk K G al kvs gs) (k : Key) : (valV kvs k).isSome = (valD gs k).isSome := by
  cases q : valD gs k with
  | none => rw [(h.val k).2 q]; rfl
  | some d =>
    obtain ⟨v, e, _⟩ := (h.val k).1 d q
    rw [e]; rfl
theorem dget_k {H : Hp} {a : Addr} {kvs : List (Key × V)} {k : Key} (e : Rd H a (.dK kvs)) : DGet H a (kV k) (valV kvs k) := .inl ⟨kvs, k, e, rfl, rfl⟩
theorem de_dget (h : DE K B td ρ μ fun x μ1 => DE K B ty ρ μ1 fun y μ2 => DGetP μ2 x y fun d => P d μ2) : DE K B (tDGet td ty) ρ μ P := fun σ G H al hB hσ hA Q hQ =>
  h σ G H al hB hσ hA _ fun vx x μ1 G1 H1 al1 n1 A1 r1 p1 => p1 σ G1 H1 al1 (hB.trans n1) (hσ.nx n1) A1 _ fun vy y μ2 G2 H2 al2 n2 A2 r2 p2 => by
    obtain ⟨gs, k, d, dt, rfl, e, p⟩ := p2
    obtain ⟨a, kvs, rfl, ha, rk⟩ := dt.get A2 (r1.nx n2)
    obtain rfl := rp_key r2
    obtain ⟨v, ev, rv⟩ := (rk.val k).1 d e
    exact ⟨a, v, rfl, by rw [← ev]; exact dget_k ha, hQ v d μ2 G2 H2 al2 (n1.trans n2) A2 rv p⟩
theorem de_din (h : DE K B ty ρ μ fun y μ1 => DE K B td ρ μ1 fun x μ2 => DInP μ2 x y fun b => P (.bl b) μ2) : DE K B (tDIn ty td) ρ μ P := fun σ G H al hB hσ hA Q hQ =>
  h σ G H al hB hσ hA _ fun vy y μ1 G1 H1 al1 n1 A1 r1 p1 => p1 σ G1 H1 al1 (hB.trans n1) (hσ.nx n1) A1 _ fun vx x μ2 G2 H2 al2 n2 A2 r2 p2 => by
    obtain ⟨gs, k, dt, rfl, p⟩ := p2
    obtain ⟨a, kvs, rfl, ha, rk⟩ := dt.get A2 r2
    obtain rfl := rp_key r1
    refine ⟨a, _, rfl, dget_k ha, ?_⟩
    rw [rk.isSome k]
    exact hQ _ _ μ2 G2 H2 al2 (n1.trans n2) A2 (.bl _) p
theorem de_dnin (h : DE K B ty ρ μ fun y μ1 => DE K B td ρ μ1 fun x μ2 => DInP μ2 x y fun b => P (.bl (!b)) μ2) : DE K B (tDNotIn ty td) ρ μ P := fun σ G H al hB hσ hA Q hQ =>
  h σ G H al hB hσ hA _ fun vy y μ1 G1 H1 al1 n1 A1 r1 p1 => p1 σ G1 H1 al1 (hB.trans n1) (hσ.nx n1) A1 _ fun vx x μ2 G2 H2 al2 n2 A2 r2 p2 => by
    obtain ⟨gs, k, dt, rfl, p⟩ := p2
    obtain ⟨a, kvs, rfl, ha, rk⟩ := dt.get A2 r2
    obtain rfl := rp_key r1
    refine ⟨a, _, rfl, dget_k ha, ?_⟩
    rw [rk.isSome k]
    exact hQ _ _ μ2 G2 H2 al2 (n1.trans n2) A2 (.bl _) p
/-! ### displays -/
/-! ### freezing -/
end
end Dl
set_option Elab.async false
set_option linter.all false
set_option maxRecDepth 100000
/-! min(xs, default=d) -/
set_option Elab.async false
set_option linter.all false
set_option maxRecDepth 100000
namespace Dl
open PySem L2
section
variable {K : PySem.W.Frag} {B : Bs} {ρ : En} {μ : Mu} {PG' : En → Mu → Prop}
/-- a list unpacked -/
theorem dg_unl {n : Nat} {gs : TGs} {ds : List D} {x : D} (hl : Ls μ x ds) (hn : ds.length = n) (h : DGs K B gs ds ρ μ PG') : DG K B (gUnl K n gs) x ρ μ PG' := fun σ G H al v hB hσ hA r Q hQ => by
  obtain ⟨a, ws, rfl, s, rs⟩ := hl.get hA r
  exact ⟨a, ws, rfl, s, rs.length.trans hn, h σ G H al ws hB hσ hA rs Q hQ⟩
end
end Dl
set_option Elab.async false
set_option linter.all false
set_option maxRecDepth 100000
namespace Dl
open PySem L2
section
variable {K : PySem.W.Frag} {B : Bs} {ρ : En} {μ : Mu} {te : TE} {tt : TT} {wi : TI} {g : TG} {vs : List Nat} {P : D → Mu → Prop}
/-- .. or not frozen: it may still change -/
theorem de_lcF (hg : GW g vs) (h : DI K B wi ρ μ fun ds S μ1 => ds.length ≤ 100000 ∧ ∃ Iv : Nat → List D → Mu → Prop, Iv 0 [] μ1 ∧ (∀ i acc μ', i ≤ ds.length → Iv i acc μ' → S μ') ∧
      (∀ i d acc μ', ds[i]? = some d → Iv i acc μ' → DG K B g d (wipeD ρ vs) μ' fun ρ2 μ2 => DT K B tt ρ2 μ2 fun b μ3 => (b = true → DE K B te ρ2 μ3 fun y μ4 => Iv (i + 1) (acc ++ [y]) μ4) ∧ (b = false → Iv (i + 1) acc μ3)) ∧
      (∀ acc μ', Iv ds.length acc μ' → P (.lst acc) μ' ∨ P (.own μ'.length) (μ' ++ [.lst acc]))) : DE K B (tLc wi g tt te vs) ρ μ P := fun σ G H al hB hσ hA Q hQ =>
  h σ G H al hB hσ hA _ fun J ds S μ1 G1 H1 al1 n1 A1 ok p1 => by
    obtain ⟨hlen, Iv, h0, hS, hs, hd⟩ := p1
    intro Dl hDl
    have nDl : Dl ∉ al1 := fun m => A1.here Dl m hDl
    have gDl : G1 Dl = none := A1.sub.free hDl
    -- a store to the list that is made
    have store : ∀ {G' H' al' μ' ac}, Nx G1 H1 al1 G' H' al' → As K G' H' al' μ' → G' Dl = none → Dl ∉ al' → As K G' (upd H' Dl (.lst ac)) al' μ' ∧ Nx G1 H1 al1 G' (upd H' Dl (.lst ac)) al' := by
      intro G' H' al' μ' ac n A g' nal
      refine ⟨⟨fun b u e => by rw [upd_ne (ne_of_none e g')]; exact A.sub _ _ e, A.nd, A.len, fun a m => ?_, fun k a o e1 e2 => ?_⟩, ⟨n.g, n.p, fun a u h m => ?_, n.out, n.new⟩⟩
      · have z : a ≠ Dl := fun z => nal (z ▸ m)
        rw [upd_ne z]; exact A.here a m
      · have z : a ≠ Dl := fun z => nal (z ▸ List.mem_of_getElem? e1)
        exact OkO.mono (Same.refl _) (Pre.refl _) (fun _ g => g) (by rw [upd_ne z]) (A.ok k a o e1 e2)
      · rw [upd_ne (ne_of_none h hDl)]; exact n.keep a u h m
    -- Dl stays where it is through a step
    have stay : ∀ {G' H' al' G'' H'' al'' u}, Nx G' H' al' G'' H'' al'' → H' Dl = some (.lst u) → G' Dl = none → Dl ∉ al' → H'' Dl = some (.lst u) ∧ G'' Dl = none ∧ Dl ∉ al'' := by
      intro G' H' al' G'' H'' al'' u n h g' nal
      refine ⟨n.keep Dl (.lst u) h nal, n.out Dl (by rw [h]; simp) (fun vs e => by rw [h] at e; cases e) nal g', fun m => ?_⟩
      rcases n.new Dl m with z | z
      · exact nal z
      · rw [h] at z; cases z
    obtain ⟨A0, N0⟩ := store (ac := []) .refl A1 gDl nDl
    refine ⟨fun i m H' => m = ds.length - i ∧ i ≤ ds.length ∧ ∃ G' al' μ' acc vacc, Nx G1 H1 al1 G' H' al' ∧ As K G' H' al' μ' ∧ H' Dl = some (.lst vacc) ∧ Rps K G' al' vacc acc ∧ G' Dl = none ∧ Dl ∉ al' ∧ acc.length ≤ i ∧ Iv i acc μ',
      ⟨ds.length, by simp, Nat.zero_le _, G1, al1, μ1, [], [], N0, A0, upd_same, .nil, gDl, nDl, Nat.le_refl _, h0⟩, ?_⟩
    rintro i m H' ⟨rfl, hi, G', al', μ', acc, vacc, n', A', hv, rv, g', nal, hacc, iv⟩
    obtain ⟨go, stop, yld⟩ := ok G' H' al' μ' n' A' (hS i acc μ' hi iv)
    by_cases hlt : i < ds.length
    · refine .inr ⟨go i hlt, fun H2 => ∃ G2 al2 μ2 acc vacc, Nx G1 H1 al1 G2 H2 al2 ∧ As K G2 H2 al2 μ2 ∧ H2 Dl = some (.lst vacc) ∧ Rps K G2 al2 vacc acc ∧ G2 Dl = none ∧ Dl ∉ al2 ∧ acc.length ≤ i + 1 ∧ Iv (i + 1) acc μ2, fun H2 q => ⟨ds.length - (i + 1), by omega, rfl, hlt, q⟩, fun x H3 y => ?_⟩
      obtain ⟨G3, n3, A3, r3⟩ := yld i x H3 y _ (List.getElem?_eq_getElem hlt)
      obtain ⟨hv3, g3, nal3⟩ := stay n3 hv g' nal
      have nn3 := n'.trans n3
      have hw : RpS K G3 al' (wipe σ vs) (wipeD ρ vs) := wipe_rps ((hσ.nx n1).nx nn3) vs
      have q := hs i _ acc μ' (List.getElem?_eq_getElem hlt) iv (wipe σ vs) G3 H3 al' x (((hB.trans n1).trans n').trans n3) hw A3 r3
      have q2 := hg x (wipe σ vs) H3 _ (q (fun σ2 H2 => tt σ2 H2 fun b H3 => if b = true then te σ2 H3 fun y H4 => ∃ acc, H4 Dl = some (.lst acc) ∧ acc.length < sizeLine ∧ (∃ G2 al2 μ2 acc' vacc, Nx G1 H1 al1 G2 (upd H4 Dl (.lst (acc ++ [y]))) al2 ∧ As K G2 (upd H4 Dl (.lst (acc ++ [y]))) al2 μ2 ∧ (upd H4 Dl (.lst (acc ++ [y]))) Dl = some (.lst vacc) ∧ Rps K G2 al2 vacc acc' ∧ G2 Dl = none ∧ Dl ∉ al2 ∧ acc'.length ≤ i + 1 ∧ Iv (i + 1) acc' μ2)
          else (∃ G2 al2 μ2 acc' vacc, Nx G1 H1 al1 G2 H3 al2 ∧ As K G2 H3 al2 μ2 ∧ H3 Dl = some (.lst vacc) ∧ Rps K G2 al2 vacc acc' ∧ G2 Dl = none ∧ Dl ∉ al2 ∧ acc'.length ≤ i + 1 ∧ Iv (i + 1) acc' μ2)) fun σ4 ρ4 μ4 G4 H4 al4 n4 hσ4 A4 p4 => ?_)
      · rw [wipe_wipe σ vs vs fun _ h => h] at q2
        exact q2
      · obtain ⟨hv4, g4, nal4⟩ := stay n4 hv3 g3 nal3
        have nn4 := nn3.trans n4
        refine p4 σ4 G4 H4 al4 ((hB.trans n1).trans nn4) hσ4 A4 _ fun b μ5 G5 H5 al5 n5 A5 p5 => ?_
        obtain ⟨hv5, g5, nal5⟩ := stay n5 hv4 g4 nal4
        have nn5 := nn4.trans n5
        cases b with
        | false =>
          rw [if_neg (by simp)]
          exact ⟨G5, al5, μ5, acc, vacc, nn5, A5, hv5, (((rv.nx n3).nx n4).nx n5), g5, nal5, Nat.le_succ_of_le hacc, p5.2 rfl⟩
        | true =>
          rw [if_pos rfl]
          refine p5.1 rfl σ4 G5 H5 al5 ((hB.trans n1).trans nn5) (hσ4.nx n5) A5 _ fun yv y μ6 G6 H6 al6 n6 A6 r6 p6 => ?_
          obtain ⟨hv6, g6, nal6⟩ := stay n6 hv5 g5 nal5
          have rv6 := (((rv.nx n3).nx n4).nx n5).nx n6
          obtain ⟨A7, n7⟩ := store (ac := vacc ++ [yv]) (nn5.trans n6) A6 g6 nal6
          refine ⟨vacc, hv6, ?_, G6, al6, μ6, acc ++ [y], vacc ++ [yv], n7, A7, upd_same, rv6.append (.cons r6 .nil), g6, nal6, by simp; omega, p6⟩
          rw [rv6.length]
          exact Nat.lt_of_lt_of_le (Nat.lt_of_le_of_lt hacc (Nat.lt_of_lt_of_le hlt hlen)) (by decide)
    · have e : i = ds.length := by omega
      subst e
      refine .inl ⟨stop _ (Nat.le_refl _), ?_⟩
      rcases hd acc μ' iv with pf | po
      rotate_left
      · have A7 : As K G' H' (al' ++ [Dl]) (μ' ++ [.lst acc]) := by
          refine ⟨A'.sub, ?_, by simp [A'.len], fun a m => ?_, fun k a o e1 e2 => ?_⟩
          · rw [List.nodup_append]
            exact ⟨A'.nd, by simp, fun a ha b hb => by
              obtain rfl := List.mem_singleton.mp hb
              exact fun e => nal (e ▸ ha)⟩
          · rcases List.mem_append.mp m with c | c
            · exact A'.here a c
            · obtain rfl := List.mem_singleton.mp c
              rw [hv]; simp
          · rcases Nat.lt_or_ge k al'.length with c | c
            · rw [List.getElem?_append_left c] at e1
              rw [List.getElem?_append_left (by rw [← A'.len]; exact c)] at e2
              exact OkO.mono (Same.refl _) ⟨[Dl], rfl⟩ (fun _ g => g) rfl (A'.ok k a o e1 e2)
            · rw [List.getElem?_append_right c] at e1
              rw [List.getElem?_append_right (by rw [← A'.len]; exact c)] at e2
              have hk : k - al'.length = 0 := by
                have := (List.getElem?_eq_some_iff.mp e1).1
                simp at this; omega
              rw [hk] at e1
              rw [← A'.len, hk] at e2
              simp at e1 e2
              subst e1; subst e2
              exact ⟨g', vacc, hv, rv.mono (Same.refl _) ⟨[Dl], rfl⟩⟩
        have n7 : Nx G1 H1 al1 G' H' (al' ++ [Dl]) := ⟨n'.g, n'.p.trans ⟨[Dl], rfl⟩, n'.keep, n'.out, fun a m => by
          rcases List.mem_append.mp m with c | c
          · exact n'.new a c
          · obtain rfl := List.mem_singleton.mp c
            exact .inr hDl⟩
        exact hQ _ _ _ _ _ _ (n1.trans n7) A7 (.own (by rw [← A'.len]; simp)) po
      have s1 : Same G' (upd G' Dl (.lst vacc)) := fun b u e => by rw [upd_ne (ne_of_none e g')]; exact e
      have A7 : As K (upd G' Dl (.lst vacc)) H' al' μ' := by
        refine ⟨fun b u e => ?_, A'.nd, A'.len, A'.here, fun k a o e1 e2 => ?_⟩
        · by_cases hb : b = Dl
          · subst hb; rw [upd_same] at e; rw [← e]; exact hv
          · rw [upd_ne hb] at e; exact A'.sub _ _ e
        · have z : a ≠ Dl := fun z => nal (z ▸ List.mem_of_getElem? e1)
          exact OkO.mono s1 (Pre.refl _) (fun _ g => by rw [upd_ne z]; exact g) rfl (A'.ok k a o e1 e2)
      have n7 : Nx G1 H1 al1 (upd G' Dl (.lst vacc)) H' al' := ⟨n'.g.trans s1, n'.p, n'.keep, fun a h t m g => by
        have z : a ≠ Dl := fun z => h (by rw [z]; exact hDl)
        rw [upd_ne z]; exact n'.out a h t m g, n'.new⟩
      exact hQ _ _ _ _ _ _ (n1.trans n7) A7 (.lst upd_same (rv.mono s1 (Pre.refl _))) pf
end
def rAbs : List V → Hp → VK → Prop := fun xs H Q => ∃ i, xs = [.int i] ∧ Q (.int (if i < 0 then -i else i)) H
section
variable {K : PySem.W.Frag} {μ : Mu} {P : D → Mu → Prop} {i : Int} {d : D} {ds : List D}
theorem rc_abs (h : P (.int (i.natAbs : Int)) μ) : RC K rAbs [.int i] μ P := fun G H al vs A r Q hQ => by
  obtain ⟨v, rfl, r1⟩ := rps1 r
  cases r1
  refine ⟨i, rfl, ?_⟩
  rw [show (if i < 0 then -i else i) = (i.natAbs : Int) by split <;> omega]
  exact hQ.now A (.int _) h
end
end Dl
set_option Elab.async false
set_option linter.all false
set_option maxRecDepth 100000
/-! a def called through its class, C.m(..); a head with more facts -/
namespace Dl
open PySem L2 PyProof.Rows
/-! ### the head, with more facts -/
abbrev AlX : Type := He.AlD × Bool
def exAll (ex : List (PySem.W.Frag → Bool)) (K : PySem.W.Frag) : Bool := ex.all fun e => e K
theorem exAll_at {ex : List (PySem.W.Frag → Bool)} {K : PySem.W.Frag} (h : exAll ex K = true) (i : Nat) {e : PySem.W.Frag → Bool} (he : ex[i]? = some e := by rfl) : e K = true := List.all_eq_true.mp h e (List.mem_of_getElem? he)
end Dl
set_option Elab.async false
set_option linter.all false
set_option maxRecDepth 100000
/-! list(range(a, b)) of numbers of any size -/
set_option Elab.async false
set_option linter.all false
set_option maxRecDepth 100000
/-! int of a truth value; isinstance of own classes: what of the head it wants -/
namespace Dl
open PySem L2 PyProof.Rows
def obtB (x : Str) (K : PySem.W.Frag) : Bool := He.eqO (PySem.W.findIn K (.ref (He.ga K x)) "__class__") (some (some (.builtin "object.__class__"))) && (He.eqO (PySem.W.specialIn K (.builtin "object.__class__") "__get__") (some (some (.builtin "getset_descriptor.__get__"))) &&
  (decide (PySem.W.takesIn K (.builtin "object.__class__") = some true) && decide (PySem.W.mroIn K (He.ga K x) (.type "object") = some true)))
theorem obtB_ok {K : PySem.W.Frag} {x : Str} (c : Cls K (He.ga K x)) (h : obtB x K = true) : ObT K (He.ga K x) := by
  unfold obtB at h
  obtain ⟨h1, h2⟩ := He.ba h
  obtain ⟨h3, h4⟩ := He.ba h2
  obtain ⟨h5, h6⟩ := He.ba h4
  exact ⟨c, He.eqO_ok h1, He.eqO_ok h3, of_decide_eq_true h5, of_decide_eq_true h6⟩
def isB (x y : Str) (b : Bool) (K : PySem.W.Frag) : Bool := decide (PySem.W.kitOne K (.ref (He.ga K x)) (.ref (He.ga K y)) = some b)
theorem isB_ok {K : PySem.W.Frag} {x y : Str} {b : Bool} (h : isB x y b K = true) : PySem.W.kitOne K (.ref (He.ga K x)) (.ref (He.ga K y)) = some b := of_decide_eq_true h
end Dl
set_option Elab.async false
set_option linter.all false
set_option maxRecDepth 100000
/-! sorted(set(xs)) of a list of ints -/
set_option Elab.async false
set_option linter.all false
set_option maxRecDepth 100000
/-! list.count of texts; slices stored; dict(pairs), d.get(k, x) -/
set_option Elab.async false
set_option linter.all false
set_option Elab.async false
set_option linter.all false
set_option maxRecDepth 100000
set_option maxHeartbeats 2000000
/-! exceptions that are caught and kept as values -/
namespace PySem.W
open PySem PySem.Spec PySem.Calls PyProof.Rows
end PySem.W
namespace Dl
open PySem PySem.Spec PyProof.Rows L2
/-- e.n, e a caught exception -/
def tXfK (K : PySem.W.Frag) (n : Str) (te : TE) : TE := fun σ H Q => te σ H fun x H1 => ∃ (a C dx : Addr) (fs : List (Str × V)) (v : V), x = .ref a ∧ H1 a = some (ExV (.ref C) (some dx) a) ∧ H1 dx = some (.xd fs) ∧ XfC K C ∧ PySem.W.findIn K (.ref C) n = some none ∧ fs.lookup n = some v ∧ Q v H1
end Dl
set_option Elab.async false
set_option linter.all false
set_option maxRecDepth 100000
set_option maxHeartbeats 2000000
/-! exceptions over data: raised with fields, caught, looked at -/
namespace Dl
open PySem PySem.Spec PyProof.Rows L2
/-! ### raise C(e, ..), C's own __init__ -/
/-! ### try -/
abbrev PWT := Addr → List (Str × D) → En → Mu → Prop
section
variable {K : PySem.W.Frag} {B : Bs} {ρ : En} {μ : Mu} {te ta : TE} {ts : TA} {P : D → Mu → Prop} {PW : PWT} {W : WX} {C : CT} {dvs : List V} {dds : List D}
/-! ### isinstance, fields -/
theorem de_xf {n : Str} (h : DE K B te ρ μ fun x μ1 => ∃ Cc gs d, x = .exc Cc gs ∧ XfC K Cc ∧ PySem.W.findIn K (.ref Cc) n = some none ∧ gs.lookup n = some d ∧ P d μ1) : DE K B (tXfK K n te) ρ μ P := fun σ G H al hB hσ hA Q hQ =>
  h σ G H al hB hσ hA _ fun v x μ1 G1 H1 al1 n1 A1 r1 p1 => by
    obtain ⟨Cc, gs, d, rfl, hx, hn, hl, p⟩ := p1
    cases r1 with
    | exc e hd rf =>
      obtain ⟨w, lw, rw'⟩ := rf.look hl
      rcases hd with ⟨rfl, rfl⟩ | ⟨dx, rfl, hd⟩
      · cases lw
      · exact ⟨_, Cc, dx, _, w, rfl, A1.sub _ _ e, A1.sub _ _ hd, hx, hn, lw, hQ _ _ μ1 _ _ _ n1 A1 rw' p⟩
end
/-! ### what the text says of the refusals -/
/-- fields of a refusal -/
structure KXf (K : PySem.W.Frag) (x : Str) (fs : List Str) : Prop where
  xf : XfC K (He.ga K x)
  no : ∀ f ∈ fs, PySem.W.findIn K (.ref (He.ga K x)) f = some none
  ox : OexC K (He.ga K x)
end Dl
set_option Elab.async false
set_option linter.all false
set_option maxRecDepth 100000
/-! small rules: exceptions and None, == of texts -/
namespace Dl
open PySem L2 PyProof.Rows
section
variable {K : PySem.W.Frag} {B : Bs} {ρ : En} {μ : Mu} {te : TE} {P : D → Mu → Prop}
theorem np_exc {Q : Bool → Prop} {C : Addr} {gs : List (Str × D)} (h : Q false) : IsNP (.exc C gs) Q := np_f (by simp) h
theorem ro_eqS {i j : Str} (h1 : PyData.strOk i = true) (h2 : PyData.strOk j = true) (h : P (.bl (decide (i = j))) μ) : RO K (rEqD K) (.str i) (.str j) μ P := ro_eqD (n := 0) (m := 0) (.id _) (.id _) h1 h2 (by rw [eqvD_str]; exact h)
theorem ro_neS {i j : Str} (h1 : PyData.strOk i = true) (h2 : PyData.strOk j = true) (h : P (.bl (!decide (i = j))) μ) : RO K (rNeD K) (.str i) (.str j) μ P := ro_neD (n := 0) (m := 0) (.id _) (.id _) h1 h2 (by rw [eqvD_str]; exact h)
theorem ro_eqSS {i : Str} (h1 : PyData.strOk i = true) (h : P (.bl true) μ) : RO K (rEqD K) (.str i) (.str i) μ P := ro_eqS h1 h1 (by simpa using h)
theorem ro_neSS {i : Str} (h1 : PyData.strOk i = true) (h : P (.bl false) μ) : RO K (rNeD K) (.str i) (.str i) μ P := ro_neS h1 h1 (by simpa using h)
theorem ro_eqSd {i j : Str} (h1 : PyData.strOk i = true) (h2 : PyData.strOk j = true) (hn : i ≠ j) (h : P (.bl false) μ) : RO K (rEqD K) (.str i) (.str j) μ P := ro_eqS h1 h2 (by simpa [hn] using h)
theorem ro_neSd {i j : Str} (h1 : PyData.strOk i = true) (h2 : PyData.strOk j = true) (hn : i ≠ j) (h : P (.bl true) μ) : RO K (rNeD K) (.str i) (.str j) μ P := ro_neS h1 h2 (by simpa [hn] using h)
/-- fields of a caught exception -/
def XfP (K : PySem.W.Frag) (n : Str) (x : D) (Q : D → Prop) : Prop := ∃ Cc gs d, x = .exc Cc gs ∧ XfC K Cc ∧ PySem.W.findIn K (.ref Cc) n = some none ∧ gs.lookup n = some d ∧ Q d
theorem de_xfZ {n : Str} (h : DE K B te ρ μ fun x μ1 => XfP K n x fun d => P d μ1) : DE K B (tXfK K n te) ρ μ P := de_xf h
theorem xf_i {n x : Str} {fs : List Str} {gs : List (Str × D)} {d : D} {Q : D → Prop} (k : KXf K x fs) (hn : n ∈ fs) (hl : gs.lookup n = some d) (h : Q d) : XfP K n (.exc (He.ga K x) gs) Q := ⟨_, _, _, rfl, k.xf, k.no _ hn, hl, h⟩
end
end Dl
set_option Elab.async false
set_option linter.all false
set_option maxRecDepth 100000
/-! range downwards -/
set_option Elab.async false
set_option linter.all false
set_option maxRecDepth 100000
/-! tuple(x), a number in a tuple, list(dict) -/
set_option Elab.async false
set_option linter.all false
set_option maxRecDepth 100000
set_option maxHeartbeats 2000000
/-! lambdas handed to a def -/
set_option Elab.async false
set_option linter.all false
set_option maxRecDepth 100000
set_option maxHeartbeats 2000000
/-! lambdas over data; the head and the end with tables -/
set_option Elab.async false
set_option linter.all false
set_option maxRecDepth 100000
/-! str(i) -/
set_option Elab.async false
set_option linter.all false
set_option maxRecDepth 100000
/-! x in l, items of any depth -/
set_option Elab.async false
set_option linter.all false
set_option maxRecDepth 100000
/-! the head's facts over a told list of objects -/
namespace Dl
open PySem L2 PyProof.Rows
def obsLG (as : List Addr) (fa : List He.Fa) (fn : List He.DefD) (ex : List (PySem.W.Frag → Bool)) (g : Addr → Option Obj) : AlX := (He.obsD fa fn (He.frG g as), exAll ex (He.frG g as))
def hookL (as : List Addr) (fa : List He.Fa) (fn : List He.DefD) (ex : List (PySem.W.Frag → Bool)) : PySem.W.Hook where
  α := AlX
  obs := fun s => obsLG as fa fn ex s.heap.get?
  val := fun _ => (He.valD fn, true)
  says := fun _ h => ∃ K : PySem.W.Frag, K.In h ∧ He.SaysD fa fn K ∧ exAll ex K = true
  of := fun _ _ e => ⟨_, He.frG_in, congrArg Prod.fst e, congrArg Prod.snd e⟩
  keeps := fun _ _ _ ⟨K, hK, c⟩ k => ⟨K, PySem.W.Frag.In.keeps hK k, c⟩
theorem obsLG_eq {as : List Addr} {fa : List He.Fa} {fn : List He.DefD} {ex : List (PySem.W.Frag → Bool)} {g : Addr → Option Obj} {s : Shared} (h : ∀ a, g a = s.heap.get? a) : obsLG as fa fn ex g = (hookL as fa fn ex).obs s := by
  have e : g = s.heap.get? := funext h
  rw [e] <;> rfl
/-! with tables -/
/-! ### the run, looked at thrice -/
/-! ### a slice as a target; room -/
end Dl
set_option Elab.async false
set_option linter.all false
set_option maxRecDepth 100000
/-! a dict that is walked stands locked for that time -/
namespace Dl
open PySem L2
/-- G2 is G1 but for locks of dicts -/
def Lk (G G' : Hp) : Prop := ∀ b o, G b = some o → G' b = some o ∨ ((∃ kvs, o = .dK kvs ∨ ∃ o', o = .frz o' (.dK kvs)) ∧ ∀ kvs, Rd G b (.dK kvs) → Rd G' b (.dK kvs))
section
variable {K : PySem.W.Frag} {G G' : Hp} {al al' : List Addr}
theorem Lk.plain (s : Lk G G') {b : Addr} {o : HO} (h : G b = some o) (n1 : ∀ kvs, o ≠ .dK kvs) (n2 : ∀ o' kvs, o ≠ .frz o' (.dK kvs)) : G' b = some o := by
  rcases s b o h with z | ⟨⟨kvs, z | ⟨o', z⟩⟩, _⟩
  · exact z
  · exact absurd z (n1 kvs)
  · exact absurd z (n2 o' kvs)
end
end Dl
set_option Elab.async false
set_option linter.all false
set_option maxRecDepth 100000
/-! Dl37: == and != of things of own classes, any answer -/
namespace Dl
open PySem L2 PyProof.Rows
/-- a class that has no != of its own -/
structure NeO (K : PySem.W.Frag) (C : Addr) : Prop where
  ne : PySem.W.findIn K (.ref C) "__ne__" = some (some (.builtin "object.__ne__"))
  ob : PySem.W.mroIn K C (.type "object") = some true
def neB (x : Str) (K : PySem.W.Frag) : Bool := He.eqO (PySem.W.findIn K (.ref (He.ga K x)) "__ne__") (some (some (.builtin "object.__ne__"))) && decide (PySem.W.mroIn K (He.ga K x) (.type "object") = some true)
theorem neB_ok {K : PySem.W.Frag} {x : Str} (h : neB x K = true) : NeO K (He.ga K x) := by
  unfold neB at h
  obtain ⟨h1, h2⟩ := He.ba h
  exact ⟨He.eqO_ok h1, of_decide_eq_true h2⟩
/-- what == of a class asks: things of the class, numbers, lists, tuples -/
structure KEq (K : PySem.W.Frag) (x : Str) : Prop where
  ob : ObT K (He.ga K x)
  is : PySem.W.kitOne K (.ref (He.ga K x)) (.ref (He.ga K x)) = some true
  no : ∀ n ∈ (["int", "list", "tuple"] : List String), PySem.W.kitOne K (.type n) (.ref (He.ga K x)) = some false ∧ PySem.W.notFirst K (He.ga K x) (.type n) = true
def keqB (x : Str) (K : PySem.W.Frag) : Bool := obtB x K && (isB x x true K && (["int", "list", "tuple"] : List String).all fun n => decide (PySem.W.kitOne K (.type n) (.ref (He.ga K x)) = some false) && PySem.W.notFirst K (He.ga K x) (.type n))
theorem keqB_ok {K : PySem.W.Frag} {x : Str} (c : Cls K (He.ga K x)) (h : keqB x K = true) : KEq K x := by
  unfold keqB at h
  obtain ⟨h1, h2⟩ := He.ba h
  obtain ⟨h3, h4⟩ := He.ba h2
  refine ⟨obtB_ok c h1, isB_ok h3, fun n hn => ?_⟩
  have := List.all_eq_true.mp h4 n hn
  obtain ⟨a, b⟩ := He.ba this
  exact ⟨of_decide_eq_true a, b⟩
theorem KEq.nf {K : PySem.W.Frag} {x : Str} (k : KEq K x) : PySem.W.notFirst K (He.ga K x) (.ref (He.ga K x)) = true := by simp [PySem.W.notFirst]
/-- .. things of another class -/
structure KNe (K : PySem.W.Frag) (x y : Str) : Prop where
  ob : ObT K (He.ga K y)
  is : PySem.W.kitOne K (.ref (He.ga K y)) (.ref (He.ga K x)) = some false
  nf : PySem.W.notFirst K (He.ga K x) (.ref (He.ga K y)) = true
def kneB (x y : Str) (K : PySem.W.Frag) : Bool := obtB y K && (isB y x false K && PySem.W.notFirst K (He.ga K x) (.ref (He.ga K y)))
theorem kneB_ok {K : PySem.W.Frag} {x y : Str} (c : Cls K (He.ga K y)) (h : kneB x y K = true) : KNe K x y := by
  unfold kneB at h
  obtain ⟨h1, h2⟩ := He.ba h
  obtain ⟨h3, h4⟩ := He.ba h2
  exact ⟨obtB_ok c h1, isB_ok h3, h4⟩
/-- x == y by the own == of the class at C -/
def rEqO (K : PySem.W.Frag) (C : Addr) (sp : Sp) (E : XK) : R2 := fun x y H Q => ∃ a dx fs tb, x = .ref a ∧ H a = some (.ins C dx fs) ∧ TyX K H y tb ∧ PySem.W.notFirst K C tb = true ∧ sp [x, y] H (fun z H' => ∃ b, z = .bl b ∧ Q (.bl b) H') E
def rNeO (K : PySem.W.Frag) (C : Addr) (sp : Sp) (E : XK) : R2 := fun x y H Q => ∃ a dx fs tb, x = .ref a ∧ H a = some (.ins C dx fs) ∧ TyX K H y tb ∧ PySem.W.notFirst K C tb = true ∧ sp [x, y] H (fun z H' => ∃ b, z = .bl b ∧ Q (.bl (!b)) H') E
section
variable {prog : Program} {w : World} {A : Around} {E : Value → Shared → Prop} {s : Shared} {K : PySem.W.Frag} {x C L f : Addr} {h₀ : Heap} {m : Str → Option Value} {ox : Obj} {od : Option Obj} {b tb : Value}
/-- the slot of object is found and called -/
theorem bound_ne {M : Model} {args : List Value} {Q : Option Value → Shared → Prop} (X : K.In s.heap) (I : PySem.W.InstAt s.heap x ox C od) (hs : PySem.W.findIn K (.ref C) "__ne__" = some (some (.builtin "object.__ne__")))
    (h : wpAny M A (call (.builtin "object.__ne__") (.ref x :: args)) (fun v => Q (some v)) E s) : wpAny M A (callSpecialIfBound? (.ref x) "__ne__" args) Q E s := by
  simp only [callSpecialIfBound?, bindSpecialIfBound?]
  refine wpAny_holding (wpAny_bind (wpAny_bind (wpAny_bind (I.type.here ((PySem.W.looks_findIn X hs).here ?_)))))
  refine wpAny_bind (wpAny_askSetting (wpAny_ite ?_))
  simp only [F.cmp_object.ne.bind]
  have fin : wpAny M A (call (.builtin "object.__ne__") ([.ref x] ++ args) >>= fun v => pure (some v)) Q E s := wpAny_bind (wpAny_mono h (fun v s' h' => wpAny_pure h') fun _ _ h' => h')
  split
  · exact wpAny_bind (wpAny_pure (wpAny_pure (by exact fin)))
  · exact wpAny_tryCatch (wpAny_bind (wpAny_pure (wpAny_pure (by exact fin))))
theorem ne_body {Q : Fin → Shared → Prop} (hu : A.units < cLine) (X : K.In s.heap) (I : PySem.W.InstAt s.heap x ox C od) (hs : PySem.W.findIn K (.ref C) "__eq__" = some (some (.ref f))) (hf : PySem.W.isFn K (.ref f) = true)
    (h : wpAny (model prog w) A (call (.ref f) [.ref x, b]) (fun v s' => ∃ k, v = .bool k ∧ Q (.done (.ret (.bool (!k)))) s') E s) : wpAny (model prog w) A (Builtin.«object.__ne__» ⟨[.ref x, b], []⟩) Q E s := by
  unfold Builtin.«object.__ne__»
  repeat (first
    | with_reducible refine wpAny_cRoomFor hu ?_
    | (refine wpAny_bind (m := callSpecialIfBound? (.ref x) (Str.ofString "__eq__") [b])
        (PySem.W.ifBound_K X I hs hf (wpAny_mono h (fun r s' hr => by
          obtain ⟨k, rfl, hq⟩ := hr
          repeat (first | exact hq | exact wpAny_pure hq | exact wpAny_truthy_bool hq | (refine wpAny_bind (m := truthy (.bool _)) (wpAny_truthy_bool ?_)) | wp_step)) fun _ _ e => e)))
    | wp_step)
theorem cmp_ne {Q : Value → Shared → Prop} (hu : A.units < cLine) (hu1 : A.in1.units < cLine) (X : K.In s.heap) (I : PySem.W.InstAt s.heap x ox C od) (hb : PySem.W.Looks (model prog w) s.heap (typeOf b) tb) (hn : PySem.W.notFirst K C tb = true)
    (o : NeO K C) (hs : PySem.W.findIn K (.ref C) "__eq__" = some (some (.ref f))) (hf : PySem.W.isFn K (.ref f) = true)
    (h : wpAny (model prog w) A.in1 (call (.ref f) [.ref x, b]) (fun v s' => ∃ k, v = .bool k ∧ Q (.bool (!k)) s') E s) : wpAny (model prog w) A (richCompare .NotEq (.ref x) b) Q E s := by
  have one : wpAny (model prog w) A (tryCompare (.ref x) (cmpInfo .NotEq).2.1 b) (fun r s' => ∃ v, r = some v ∧ Q v s') E s := by
    unfold tryCompare
    refine wpAny_bind (bound_ne X I o.ne (wpAny_call (codeAny_call_builtin F.cmp_object.ne.plain F.cmpEntry_ne
      (PySem.W.check_slot F.cmpKind_ne F.cmpSplit_ne (I.type.andThen (PySem.W.looks_mroIn X o.ob)) (F.cmpArgs_ne _ _) (ne_body (A := A.in1) hu1 X I hs hf (wpAny_mono h (fun v s' hv => ?_) fun _ _ e => e))))))
    obtain ⟨k, rfl, hq⟩ := hv
    exact ⟨k, rfl, wpAny_pure ⟨_, rfl, hq⟩⟩
  unfold richCompare
  simp only [oneThing_ref]
  refine wpAny_holding (wpAny_bind (wpAny_cRoomFor hu ?_))
  refine wpAny_bind (I.type.here (wpAny_bind (hb.here ?_)))
  split
  · rename_i q
    have e : PySem.W.subIn K tb (.ref C) = some false := by
      rcases Bool.or_eq_true_iff.mp hn with e | e
      · rw [beq_iff_eq.mp e] at q; simp at q
      · exact beq_iff_eq.mp e
    refine wpAny_bind ((PySem.W.looks_subIn X e).here ?_)
    simp only [Bool.false_eq_true, if_false]
    refine wpAny_bind (wpAny_mono one (fun r s' z => ?_) fun _ _ e => e)
    obtain ⟨v, rfl, hq⟩ := z
    exact wpAny_pure hq
  · refine wpAny_bind (wpAny_pure ?_)
    simp only [Bool.false_eq_true, if_false]
    refine wpAny_bind (wpAny_mono one (fun r s' z => ?_) fun _ _ e => e)
    obtain ⟨v, rfl, hq⟩ := z
    exact wpAny_pure hq
end
section
variable {X : Cx} {CX : CXT} {C g : Addr} {n : Nat} {fd : FuncData} {ps : List Str} {sp : Sp} {E : XK}
theorem op_eqO (m : Meth X.K C "__eq__" g) (F : FnOk X.prog X.w X.K X.mg X.base CX n g fd ps sp) (hr : Room n X.A) (hb : Binds X.K fd ps []) (hx : Passes CX X E) : OpR X (compareOp .Eq) (rEqO X.K C sp E) := by
  intro pins s σ H x y v u Q I rx ry h
  obtain ⟨a, dx, fs, tb, rfl, ha, ty, hn, q⟩ := h
  cases (show v = Value.ref a from rx)
  obtain ⟨mA, J, _⟩ := ins_get I.hok ha
  obtain ⟨od, J, _⟩ := J.look
  obtain ⟨Pk, kit, hp, _⟩ := kit_of I ry ty
  obtain ⟨m', hF⟩ := I.fr
  show wpAny (model X.prog X.w) X.A (richCompare .Eq (.ref a) u) (EP X pins σ Q) X.xe s
  refine PySem.W.cmp_K (op := .Eq) (tb := tb) hr.units0 hF I.ok.mod.kin J (kit.ty _ _ I.kIn hp) hn m.at_ m.fn ?_
  refine wpAny_mono (run_fn (vs := [.ref a, y]) (dvs := []) F hr hb .nil hx I (.cons rfl (.cons ry .nil)) (show sp ([.ref a, y] ++ []) H _ E from q)) (fun w s' z => ?_) fun _ _ x => x
  obtain ⟨z', H', I', rz, b, rfl, qz⟩ := z
  cases (show w = Value.bool b from rz)
  exact ⟨.bl b, H', I', rfl, qz⟩
theorem op_neO (m : Meth X.K C "__eq__" g) (o : NeO X.K C) (F : FnOk X.prog X.w X.K X.mg X.base CX n g fd ps sp) (hr : Room (n + 1) X.A) (hb : Binds X.K fd ps []) (hx : Passes CX X E) : OpR X (compareOp .NotEq) (rNeO X.K C sp E) := by
  intro pins s σ H x y v u Q I rx ry h
  obtain ⟨a, dx, fs, tb, rfl, ha, ty, hn, q⟩ := h
  cases (show v = Value.ref a from rx)
  obtain ⟨mA, J, _⟩ := ins_get I.hok ha
  obtain ⟨od, J, _⟩ := J.look
  obtain ⟨Pk, kit, hp, _⟩ := kit_of I ry ty
  show wpAny (model X.prog X.w) X.A (richCompare .NotEq (.ref a) u) (EP X pins σ Q) X.xe s
  refine cmp_ne hr.units0 hr.in1.units0 I.kIn J (kit.ty _ _ I.kIn hp) hn o m.at_ m.fn ?_
  have r2 : Vals [V.ref a, y] [Value.ref a, u] := .cons rfl (.cons ry .nil)
  have hl := F.len _ _ _ _ q
  refine wpAny_call (codeAny_mono (F.run X.A.in1 X.stack s H ⟨[.ref a, u], []⟩ [.ref a, u] [.ref a, y] _ E hr.in1 I.env0.in1 (by
    have := hb s [.ref a, u] I.kIn (by simpa using hl)
    simpa using this) r2 q) fun r s' hq => ?_)
  cases r with
  | error e => exact hx pins σ H s e s' I hq
  | ok fl =>
    cases fl with
    | ret w =>
      obtain ⟨z', H', I', rz, b, rfl, qz⟩ := I.after hq
      cases (show w = Value.bool b from rz)
      exact ⟨b, rfl, .bl (!b), H', I', rfl, qz⟩
    | next => exact False.elim hq
    | brk => exact False.elim hq
    | cont => exact False.elim hq
end
section
variable {K : PySem.W.Frag} {μ : Mu} {P : D → Mu → Prop} {x y : D} {C : Addr} {gs : List (Str × D)} {tb : Value} {Ct : CT} {E : XK}
/-- a thing of the class at C -/
def InO (μ : Mu) (C : Addr) (x : D) : Prop := ∃ gs, x = .obj C gs ∨ ∃ k, x = .own k ∧ μ[k]? = some (.ins C gs)
theorem InO.get {G H : Hp} {al : List Addr} {v : V} (h : InO μ C x) (A : As K G H al μ) (r : Rp K G al v x) : ∃ a dx fs, v = .ref a ∧ H a = some (.ins C dx fs) := by
  obtain ⟨gs, rfl | ⟨k, rfl, hk⟩⟩ := h
  · cases r with
    | obj e rf => exact ⟨_, _, _, rfl, A.sub _ _ e⟩
  · obtain ⟨a, ha, ok⟩ := A.get hk
    cases r with
    | own e =>
      rw [ha] at e
      cases e
      obtain ⟨ga, dx, fs, hv, rf⟩ := ok
      exact ⟨_, _, _, rfl, hv⟩
theorem ro_eqO (hx : InO μ C x) (ht : TyDV K μ y tb) (hn : PySem.W.notFirst K C tb = true) (h : Ct [x, y] μ (fun z μ' => ∃ b, z = .bl b ∧ P (.bl b) μ') (fun _ _ _ => False)) : RO K (rEqO K C (spD K Ct) E) x y μ P := fun G H al v w A rx ry Q hQ => by
  obtain ⟨a, dx, fs, rfl, ha⟩ := hx.get A rx
  refine ⟨a, dx, fs, tb, rfl, ha, ht.tyx A ry, hn, G, al, [x, y], μ, _, _, A, .cons rx (.cons ry .nil), h, fun z d μ' G' H' al' n A' r p => ?_, XAg.none⟩
  obtain ⟨b, rfl, p⟩ := p
  cases r
  exact ⟨b, rfl, hQ _ _ μ' G' H' al' n A' (.bl b) p⟩
theorem ro_neO (hx : InO μ C x) (ht : TyDV K μ y tb) (hn : PySem.W.notFirst K C tb = true) (h : Ct [x, y] μ (fun z μ' => ∃ b, z = .bl b ∧ P (.bl (!b)) μ') (fun _ _ _ => False)) : RO K (rNeO K C (spD K Ct) E) x y μ P := fun G H al v w A rx ry Q hQ => by
  obtain ⟨a, dx, fs, rfl, ha⟩ := hx.get A rx
  refine ⟨a, dx, fs, tb, rfl, ha, ht.tyx A ry, hn, G, al, [x, y], μ, _, _, A, .cons rx (.cons ry .nil), h, fun z d μ' G' H' al' n A' r p => ?_, XAg.none⟩
  obtain ⟨b, rfl, p⟩ := p
  cases r
  exact ⟨b, rfl, hQ _ _ μ' G' H' al' n A' (.bl (!b)) p⟩
/-- two readings of an operation -/
def rOr (r r' : R2) : R2 := fun x y H Q => r x y H Q ∨ r' x y H Q
theorem op_or {X : Cx} {f : Value → Value → Sem Value} {r r' : R2} (h : OpR X f r) (h' : OpR X f r') : OpR X f (rOr r r') := by
  intro pins s σ H x y v u Q I rx ry q
  rcases q with q | q
  · exact h pins s σ H x y v u Q I rx ry q
  · exact h' pins s σ H x y v u Q I rx ry q
theorem ro_orL {r r' : R2} (h : RO K r x y μ P) : RO K (rOr r r') x y μ P := fun G H al v w A rx ry Q hQ => .inl (h G H al v w A rx ry Q hQ)
theorem ro_orR {r r' : R2} (h : RO K r' x y μ P) : RO K (rOr r r') x y μ P := fun G H al v w A rx ry Q hQ => .inr (h G H al v w A rx ry Q hQ)
end
end Dl
set_option Elab.async false
set_option linter.all false
set_option maxRecDepth 100000
/-! the top's run in pieces, the state behind each told -/
namespace Dl
open PySem PySem.W PySem.Calls PyProof.Rows HandSHeadRun
section
variable (st : SharedT → Thread → Option (SharedT × Thread)) (n0 : Nat) (ann : Option Value)
/-- so many steps, none of them the last one -/
def stepsF : Nat → SharedT → Thread → Option (SharedT × Thread)
  | 0, s, t => some (s, t)
  | m + 1, s, t => match through t with
    | true => none
    | false => match stepOk n0 ann t with
      | false => none
      | true => match st s t with
        | none => none
        | some (s2, t2) => frS s2 fun s2 => stepsF m s2 t2
/-- to the end of a piece of the text -/
def pieceF (b : Nat) : Nat → SharedT → Thread → Option (Flow × SharedT × Code × Pos)
  | 0, _, _ => none
  | m + 1, s, t => match endAt b t with
    | some f => some (f, s, t.code, t.pos)
    | none => match stepOk n0 ann t with
      | false => none
      | true => match st s t with
        | none => none
        | some (s2, t2) => frS s2 fun s2 => pieceF b m s2 t2
end
section
variable {tb : String → Option Builtin} {p : Program} {w : World} {n0 : Nat} {ann : Option Value}
theorem stepsF_ok : ∀ {m : Nat} {s s' : SharedT} {t t' : Thread}, stepsF (stepT (denote tb) p w) n0 ann m s t = some (s', t') → topGo tb p w n0 ann m s.abs t = some (s'.abs, t')
  | 0, _, _, _, _, h => by cases h; rfl
  | m + 1, s, s', t, t', h => by
    unfold stepsF at h
    unfold topGo
    cases e1 : through t with
    | true => rw [e1] at h; cases h
    | false =>
      cases e2 : stepOk n0 ann t with
      | false => rw [e1, e2] at h; cases h
      | true =>
        cases e3 : stepT (denote tb) p w s t with
        | none => rw [e1, e2, e3] at h; cases h
        | some r =>
          rw [e1, e2, e3] at h
          have h2 : (frS r.1 fun s2 => stepsF (stepT (denote tb) p w) n0 ann m s2 r.2) = some (s', t') := h
          rw [frS_eq] at h2
          have e4 := stepT_spec (s' := r.1) (t' := r.2) e3
          simp only [e4]
          exact stepsF_ok h2
theorem pieceF_ok {b : Nat} : ∀ {m : Nat} {s s' : SharedT} {t : Thread} {f : Flow} {c : Code} {q : Pos}, pieceF (stepT (denote tb) p w) n0 ann b m s t = some (f, s', c, q) → segRun tb p w n0 ann b m s.abs t = some (f, s'.abs, c, q)
  | 0, _, _, _, _, _, _, h => by cases h
  | m + 1, s, s', t, f, c, q, h => by
    unfold pieceF at h
    unfold segRun
    cases e1 : endAt b t with
    | some g => rw [e1] at h; cases h; rfl
    | none =>
      cases e2 : stepOk n0 ann t with
      | false => rw [e1, e2] at h; cases h
      | true =>
        cases e3 : stepT (denote tb) p w s t with
        | none => rw [e1, e2, e3] at h; cases h
        | some r =>
          rw [e1, e2, e3] at h
          have h2 : (frS r.1 fun s2 => pieceF (stepT (denote tb) p w) n0 ann b m s2 r.2) = some (f, s', c, q) := h
          rw [frS_eq] at h2
          have e4 := stepT_spec (s' := r.1) (t' := r.2) e3
          simp only [e4]
          exact pieceF_ok h2
end
/-- the step, by the library's twins -/
noncomputable abbrev stQ (p : Program) (w : World) : SharedT → Thread → Option (SharedT × Thread) := stepQ (denQ tabQ) p w
theorem stQ_eq (p : Program) (w : World) : stepT (denote treeTable) p w = stQ p w := by
  unfold stQ
  rw [stepQ_eq, denQ_eq, tabQ_eq]
abbrev cdOf (p : Program) (env : Env) : Code := .body (behindTheImports p) env
section
variable {p : Program} {w : World} {n0 : Nat} {ann : Option Value} {env : Env} {qp pos pos' : Pos} {S S' r : SharedT}
theorem cp_piece {a b m N : Nat} (h : pieceF (stQ p w) n0 ann 1 m S (piecesOf (((behindTheImports p).drop a).take b) env (cdOf p env) pos [topFrame qp]) = some (.next, S', cdOf p env, pos'))
    (k : topRun treeTable p w n0 ann N S'.abs (restOf ((behindTheImports p).drop (a + b)) env (cdOf p env) pos' [topFrame qp]) = some r.abs) :
    topRun treeTable p w n0 ann (m + N) S.abs (restOf ((behindTheImports p).drop a) env (cdOf p env) pos [topFrame qp]) = some r.abs := by
  rw [← stQ_eq] at h
  have z := piece_app (pieceF_ok h) (rest := (behindTheImports p).drop (a + b)) k
  rw [← List.drop_drop, List.take_append_drop] at z
  exact z
theorem cp_last {a m : Nat} (e : (behindTheImports p).drop a = []) (h : goF (stQ p w) n0 ann m S ⟨doneF .next, cdOf p env, pos, [topFrame qp]⟩ = some r) :
    topRun treeTable p w n0 ann m S.abs (restOf ((behindTheImports p).drop a) env (cdOf p env) pos [topFrame qp]) = some r.abs := by
  rw [← stQ_eq] at h
  rw [e]
  exact piece_nil (goF_ok h)
theorem cp_block {m N : Nat} (h : pieceF (stQ p w) n0 ann 1 m S (blockOf (behindTheImports p) env (cdOf p env) pos [topFrame qp]) = some (.next, S', cdOf p env, pos'))
    (k : topRun treeTable p w n0 ann N S'.abs (restOf ((behindTheImports p).drop 0) env (cdOf p env) pos' [topFrame qp]) = some r.abs) :
    topRun treeTable p w n0 ann (m + N) S.abs ⟨denote treeTable (cdOf p env), cdOf p env, pos, [topFrame qp]⟩ = some r.abs := by
  rw [← stQ_eq] at h
  exact piece_block (pieceF_ok h) k
theorem cp_pre {m N : Nat} {t : Thread} (h : stepsF (stQ p w) n0 ann m S t = some (S', ⟨denQ tabQ (cdOf p env), cdOf p env, pos, [topFrame qp]⟩))
    (k : topRun treeTable p w n0 ann N S'.abs ⟨denote treeTable (cdOf p env), cdOf p env, pos, [topFrame qp]⟩ = some r.abs) : topRun treeTable p w n0 ann (m + N) S.abs t = some r.abs := by
  rw [← stQ_eq] at h
  have e : denQ tabQ (cdOf p env) = denote treeTable (cdOf p env) := by rw [denQ_eq, tabQ_eq]
  rw [e] at h
  exact go_top (stepsF_ok h) k
end
/-- the top, told by its end -/
structure TopEnd (r : OpenRow) (q : Program) (loose : List PySem.Str) (H : Hook) (ob : SharedT → H.α) (M : Nat) (w : World) (os : OsState) (s : SharedT) : Prop where
  run : topRun treeTable r.prog w (boot_heap w.params).objs.size (bootAnn w) M ⟨boot_heap w.params, #[], boot_drawn, boot_toks, os⟩ (topStub r.prog) = some s.abs
  l1 : looksF r.prog (boot_heap w.params) s.abs = true
  l2 : seenQ q loose (importedModules r.prog.main.body) (fun s => xlAt q [] s && recOk r.toRowW.records s) s.abs = openGood q loose
  l3 : ob s = H.val w
theorem cp_boot {p : Program} {w : World} {os : OsState} {T : BT} {n N : Nat} {r : SharedT} (e : putAll (boot_heap w.params).objs.toList .nil 0 = some (T, n))
    (k : topRun treeTable p w n (bootAnn w) N (bootT w os (T, n)).abs (topStub p) = some r.abs) :
    topRun treeTable p w (boot_heap w.params).objs.size (bootAnn w) N ⟨boot_heap w.params, #[], boot_drawn, boot_toks, os⟩ (topStub p) = some r.abs := by
  have eh := putAll_heap e
  have en : n = (boot_heap w.params).objs.size := by
    rw [← eh]
    exact (absHeap_size T n _).symm
  subst en
  have eb : (bootT w os (T, (boot_heap w.params).objs.size)).abs = ⟨boot_heap w.params, #[], boot_drawn, boot_toks, os⟩ := by
    unfold bootT SharedT.abs
    rw [eh]
  rw [eb] at k
  exact k
theorem cp_mono {p : Program} {w : World} {n0 : Nat} {ann : Option Value} {N M : Nat} {s r : Shared} {t : Thread} (le : Nat.ble N M = true) (k : topRun treeTable p w n0 ann N s t = some r) : topRun treeTable p w n0 ann M s t = some r := by
  have z := topRun_mono (M - N) N s t r k
  have := Nat.le_of_ble_eq_true le
  rw [Nat.add_sub_cancel' this] at z
  exact z
theorem left_cp {p q : Program} {loose : List PySem.Str} {Xt : Shared → Bool} {α : Type} {Yf : Shared → α} {Ya : World → α} {N M : Nat}
    (e : opening p = plainProg p.main.scope.names) (hN : Nat.ble 600 N = true) (f : ∀ s, fenceModules? p s = some s) (le : Nat.ble M N = true)
    (run : ∀ (w : World) (os : OsState), ∃ s : SharedT, topRun treeTable p w (boot_heap w.params).objs.size (bootAnn w) M ⟨boot_heap w.params, #[], boot_drawn, boot_toks, os⟩ (topStub p) = some s.abs ∧ looksF p (boot_heap w.params) s.abs = true ∧ openSeen q loose (importedModules p.main.body) Xt true s.abs = openGood q loose ∧ Yf s.abs = Ya w) : LeftO p q loose Xt Yf Ya N true := by
  intro w
  obtain ⟨⟨h, gs, d, k, os⟩, a, a'⟩ := Option.map_eq_some_iff.mp (boot_open e hN f w)
  have a4 : h = boot_heap w.params ∧ gs = Array.mk [] ∧ d = boot_drawn ∧ k = boot_toks := by simpa using a'
  obtain ⟨rfl, rfl, rfl, rfl⟩ := a4
  obtain ⟨s, r, z1, z2, z3⟩ := run w os
  have r2 := cp_mono le r
  have top : topFrom treeTable p w N ⟨boot_heap w.params, Array.mk [], boot_drawn, boot_toks, os⟩ = some s.abs := by
    unfold topFrom
    dsimp only
    rw [boot_ns]
    have r3 : topRun treeTable p w (boot_heap w.params).objs.size ((boot_heap w.params).nsMap mainGlobals "__annotations__") N ⟨boot_heap w.params, Array.mk [], boot_drawn, boot_toks, os⟩ (topStub p) = some s.abs := r2
    have z4 : (staticsOk (importedModules p.main.body) (boot_heap w.params) s.abs.heap && namesBound p s.abs.heap && gensDone s.abs && laidKept (boot_heap w.params) s.abs.heap) = true := z1
    have r4 : ∀ k : Shared → Option Shared, (topRun treeTable p w (boot_heap w.params).objs.size ((boot_heap w.params).nsMap mainGlobals "__annotations__") N ⟨boot_heap w.params, Array.mk [], boot_drawn, boot_toks, os⟩ (topStub p)).bind k = k s.abs := fun k => by rw [r3]; rfl
    refine (r4 _).trans ?_
    rw [z4]
  unfold openEnds
  rw [a]
  show (topFrom treeTable p w N _).map _ = _
  rw [top]
  exact congrArg some (Prod.ext z2 z3)
theorem head_cp {r : OpenRow} {q : Program} {H : Hook} {ob : SharedT → H.α} {M : Nat} {loose : List PySem.Str} {d : DefRec} {kwd : List (PySem.Str × PySem.Expr)} (ho : ∀ s : SharedT, ob s = H.obs s.abs)
    (e : opening r.prog = plainProg r.prog.main.scope.names) (f : ∀ s, fenceModules? r.prog s = some s) (run : ∀ w os, ∃ s, TopEnd r q loose H ob M w os s)
    (hdef : defOf q r.name = some (d, kwd)) (hp : r.prog.theDef r.name = some (d.params, d.body, d.scope)) (hk : kwWritten? d.params.kwonlyargs d.params.kw_defaults = some kwd)
    (hwr : (!r.writes || r.records.isEmpty) = true) (k1 : r.wellSaid = true) (ok : (chainsOk q && opensWell r.prog && (frees r.toRowW && r.within.isEmpty)) = true) (hb : r.prog.bare) (hw : r.toRowW.promised)
    (call : WalkO q loose (XL q []) H.says r.toRowW d kwd fun f vs => PySem.call f vs) : r.Holds := by
  have left : LeftO r.prog q loose (fun s => xlAt q [] s && recOk r.toRowW.records s) H.obs H.val (M + 600) true := by
    refine left_cp (M := M) e (Nat.ble_eq_true_of_le (by omega)) f (Nat.ble_eq_true_of_le (by omega)) fun w os => ?_
    obtain ⟨s, z⟩ := run w os
    refine ⟨s, z.run, z.l1, ?_, (ho s).symm.trans z.l3⟩
    rw [seenQ_eq]
    exact z.l2
  exact holds_open (r := r) (q := q) (loose := loose) (XP := XL q []) (YP := H.says) (d := d) (kwd := kwd) left H.of H.keeps (fun s z => xl_of s (Bool.and_eq_true_iff.mp z).1) XL.keeps hdef hp hk (fun s z => recFacts_of (Bool.and_eq_true_iff.mp z).2) hwr k1 ok hb hw call
end Dl
namespace Dl
open PySem PySem.W L2
/-! words for the states -/
abbrev vi (i : Int) (t : Nat) : Value := .int i t
abbrev vs (x : String) (t : Nat) : Value := .str (Str.ofString x) t
abbrev vr (a : Nat) : Value := .ref a
abbrev vt (x : String) : Value := .type x
abbrev vb (x : String) : Value := .builtin x
abbrev vn : Value := .none
abbrev ob_tu (l : List Value) : Obj := ⟨.type "tuple", none, .seq l.toArray 0, #[]⟩
abbrev ob_co (l : List Value) : Obj := ⟨.type "code", none, .fields l.toArray, #[]⟩
abbrev ob_fi (c : Value) (l : List Value) : Obj := ⟨c, none, .fields l.toArray, #[]⟩
abbrev en (P : Params) (x : String) (t : Nat) (v : Value) : DictEntry := ⟨PyData.keyHash P (Str.ofString x), .str (Str.ofString x) t, v⟩
abbrev ob_di (l : List DictEntry) (n : Nat) : Obj := ⟨.type "dict", none, .dict l.toArray n, #[]⟩
abbrev ob_fu (c : Value) (s : Stmt) (x q : String) (g : Addr) (df kd dc md : Value) (an : Option Addr) (cd ct : Value) : Obj :=
  ⟨c, none, .func { name := Str.ofString x, qualname := Str.ofString q, params := defArgs s, body := .stmts (defBody s), scope := defScope s, globals := g, closure := [], defaults := df, kwdefaults := kd, doc := dc, pyModule := md, annotations := an, code := cd, closureTuple := ct, builtins := 0 }, #[]⟩
abbrev bn (o : Obj) (l r : BT) : BT := .node o l r
abbrev bz : BT := .nil
noncomputable abbrev stA' (T : Params → BT) (n toks : Nat) (w : World) (os : OsState) : SharedT := ⟨T w.params, n, (boot_heap w.params).life, #[], boot_drawn, toks, os⟩
end Dl
set_option Elab.async false
set_option linter.all false
set_option maxRecDepth 100000
/-! l.count(x), l.index(x) over data -/
namespace L2
open PySem PySem.Spec PyProof.Rows
end L2
set_option Elab.async false
set_option linter.all false
set_option maxRecDepth 100000
namespace Dl
open PySem L2 PyProof.Rows
/-! ### looked at as it is now, however deep -/
inductive Al2 (R : D → D → Prop) : List D → List D → Prop
  | nil : Al2 R [] []
  | cons {x d : D} {xs ds : List D} : R x d → Al2 R xs ds → Al2 R (x :: xs) (d :: ds)
theorem Al2.refl {R : D → D → Prop} (h : ∀ x, R x x) : ∀ xs : List D, Al2 R xs xs
  | [] => .nil
  | x :: xs => .cons (h x) (Al2.refl h xs)
theorem Al2.app {R : D → D → Prop} : ∀ {xs ds ys es : List D}, Al2 R xs ds → Al2 R ys es → Al2 R (xs ++ ys) (ds ++ es)
  | _, _, _, _, .nil, h => h
  | _, _, _, _, .cons a b, h => .cons a (b.app h)
/-- to a depth -/
def FzN (μ : Mu) : Nat → D → D → Prop
  | 0, x, d => x = d
  | n + 1, x, d => x = d ∨ (∃ k xs ds, x = .own k ∧ d = .lst ds ∧ μ[k]? = some (.lst xs) ∧ Al2 (FzN μ n) xs ds) ∨ (∃ xs ds, x = .tup xs ∧ d = .tup ds ∧ Al2 (FzN μ n) xs ds) ∨ (∃ xs ds, x = .lst xs ∧ d = .lst ds ∧ Al2 (FzN μ n) xs ds)
theorem FzN.id {μ : Mu} : ∀ {n : Nat} (d : D), FzN μ n d d
  | 0, _ => rfl
  | _ + 1, _ => .inl rfl
theorem fzn_own {μ : Mu} {n k : Nat} {xs ds : List D} (h : μ[k]? = some (.lst xs)) (hl : Al2 (FzN μ n) xs ds) : FzN μ (n + 1) (.own k) (.lst ds) := .inr (.inl ⟨k, xs, ds, rfl, rfl, h, hl⟩)
theorem al2_dp {K : PySem.W.Frag} {G H : Hp} {al : List Addr} {R : D → D → Prop} (h : ∀ {v : V} {x d : D} {n : Nat}, R x d → d.shp n = true → Rp K G al v x → Dp K H v d.py) : ∀ {vs : List V} {xs ds : List D} {n : Nat}, Al2 R xs ds → shpL ds n = true → Rps K G al vs xs → DpAll K H vs (pyL ds)
  | _, _, _, _, .nil, _, .nil => by unfold pyL; exact .nil
  | _, _, _, n, .cons a b, hs, .cons r t => by
    unfold pyL; unfold shpL at hs; simp at hs
    exact .cons (h a hs.1 r) (al2_dp h b hs.2 t)
theorem FzN.dp {K : PySem.W.Frag} {G H : Hp} {al : List Addr} {μ : Mu} (A : As K G H al μ) : ∀ {q : Nat} {v : V} {x d : D} {n : Nat}, FzN μ q x d → d.shp n = true → Rp K G al v x → Dp K H v d.py
  | 0, _, _, _, _, h, hs, r => by
    cases h
    exact dp_of A.sub hs r
  | q + 1, v, x, d, n, h, hs, r => by
    rcases h with rfl | ⟨k, xs, ds, rfl, rfl, hk, hl⟩ | ⟨xs, ds, rfl, rfl, hl⟩ | ⟨xs, ds, rfl, rfl, hl⟩
    · exact dp_of A.sub hs r
    · obtain ⟨a, ha, ga, ws, hv, rw'⟩ := A.get hk
      cases r with
      | own e =>
        rw [ha] at e; cases e
        unfold D.py; unfold D.shp at hs; simp at hs
        exact .lst (.inl (.inl hv)) (al2_dp (fun a b c => FzN.dp A a b c) hl hs.2 rw')
    · cases r with
      | tup e r =>
        unfold D.py; unfold D.shp at hs; simp at hs
        exact .tup (.inl (.inl (A.sub _ _ e))) (al2_dp (fun a b c => FzN.dp A a b c) hl hs.2 r)
    · cases r with
      | lst e r =>
        unfold D.py; unfold D.shp at hs; simp at hs
        exact .lst (.inl (.inl (A.sub _ _ e))) (al2_dp (fun a b c => FzN.dp A a b c) hl hs.2 r)
section
variable {K : PySem.W.Frag} {μ : Mu} {P : D → Mu → Prop} {x y d e : D}
theorem ro_eqN {n m q r : Nat} (hx : FzN μ q x d) (hy : FzN μ r y e) (h1 : d.shp n = true) (h2 : e.shp m = true) (h : P (.bl (eqvD d e)) μ) (hn : n ≤ 64 := by decide) (hm : m ≤ 64 := by decide) : RO K (rEqD K) x y μ P := fun G H al v w A r1 r2 Q hQ =>
  ⟨d.py, e.py, hx.dp A h1 r1, hy.dp A h2 r2, shaped_of hn h1, shaped_of hm h2, hQ.now A (.bl _) h⟩
theorem ro_neN {n m q r : Nat} (hx : FzN μ q x d) (hy : FzN μ r y e) (h1 : d.shp n = true) (h2 : e.shp m = true) (h : P (.bl (!eqvD d e)) μ) (hn : n ≤ 64 := by decide) (hm : m ≤ 64 := by decide) : RO K (rNeD K) x y μ P := fun G H al v w A r1 r2 Q hQ =>
  ⟨d.py, e.py, hx.dp A h1 r1, hy.dp A h2 r2, shaped_of hn h1, shaped_of hm h2, hQ.now A (.bl _) h⟩
end
end Dl
set_option Elab.async false
set_option linter.all false
set_option maxRecDepth 100000
namespace L2
open PySem
end L2
set_option Elab.async false
set_option linter.all false
set_option maxRecDepth 100000
/-! dicts with tuple keys -/
namespace Dl
open PySem PySem.Spec PyProof.Rows L2
/-! ### .. over data -/
/-! ### a dict with tuple keys stands locked while it is walked -/
section
variable {K : PySem.W.Frag} {G G' : Hp} {al al' : List Addr} {a : Addr}
def Un (G G' : Hp) (a : Addr) : Prop := (∃ o kvs, G a = some (.frz o (.dT kvs))) ∧ ∀ b, b ≠ a → G' b = G b
theorem Un.plain (s : Un G G' a) {b : Addr} {o : HO} (h : G b = some o) (n : ∀ o' kvs, o ≠ .frz o' (.dT kvs)) : G' b = some o := by
  obtain ⟨⟨o1, kvs, e⟩, u⟩ := s
  rw [u b fun z => by rw [z, e] at h; cases h; exact n _ _ rfl]
  exact h
end
end Dl
/-! d.get(None), d.pop(k), dict(d): dicts with tuple keys -/
/-! dicts with tuple keys, as data -/
namespace Dl
open PySem L2
section
variable {K : PySem.W.Frag} {G H : Hp} {al : List Addr}
theorem Rps.app {us vs : List V} {ds es : List D} (h : Rps K G al us ds) (h' : Rps K G al vs es) : Rps K G al (us ++ vs) (ds ++ es) := by
  induction ds generalizing us with
  | nil => cases h; exact h'
  | cons d ds ih => cases h with | cons r t => exact .cons r (ih t)
end
end Dl
/-! zip of two lists or two tuples; isinstance(x, (list, tuple)) -/
set_option Elab.async false
set_option linter.all false
set_option maxRecDepth 100000
/-! a tuple of texts that stands in a module -/
set_option Elab.async false
set_option linter.all false
set_option maxRecDepth 100000
/-! dicts with tuple keys: their keys walked -/
namespace Dl
open PySem PySem.Spec PyProof.Rows L2
theorem Al2.len {R : D → D → Prop} : ∀ {xs ds : List D}, Al2 R xs ds → xs.length = ds.length
  | _, _, .nil => rfl
  | _, _, .cons _ t => by simp [t.len]
theorem Al2.get {R : D → D → Prop} : ∀ {xs ds : List D}, Al2 R xs ds → ∀ {i : Nat} {x : D}, xs[i]? = some x → ∃ d, ds[i]? = some d ∧ R x d
  | _, _, .cons a t, 0, x, h => by cases h; exact ⟨_, rfl, a⟩
  | _, _, .cons a t, i + 1, x, h => t.get (by simpa using h)
end Dl
set_option Elab.async false
set_option linter.all false
set_option maxRecDepth 100000
/-! sorted(..) of data -/
namespace L2
open PySem PySem.Spec PyProof.Rows PySem.Calls
end L2
set_option Elab.async false
set_option linter.all false
set_option maxRecDepth 100000
/-! a method called with its two arguments by name, the other way about, in a try's body -/
set_option Elab.async false
set_option linter.all false
set_option maxRecDepth 100000
/-! try: .. with except clauses that keep no name -/
namespace L2
open PySem PySem.Spec PyProof.Rows
inductive HdsM (X : Cx) : List ExceptHandler → List (Value × TS) → Prop
  | nil : HdsM X [] []
  | cons {x : Str} {c : Value} {ts : TS} {b₀ : Stmt} {suite : List Stmt} {np pos' : Pos} {hds : List ExceptHandler} {l : List (Value × TS)} (hc : Names X x c)
      (hsu : ∀ (a : Addr) (pn : List (Addr × Obj)), PSs (X.suite a pn) (b₀ :: suite) ts) (r : HdsM X hds l) :
      HdsM X (.ExceptHandler (some (.Name x np)) none (b₀ :: suite) pos' :: hds) ((c, ts) :: l)
def many3 (l : List (Value × TS)) : List (Value × (Addr → Value → Option Addr → TS)) := l.map fun p => (p.1, fun _ _ _ => p.2)
theorem HdsM.ok {X : Cx} : ∀ {hds : List ExceptHandler} {l : List (Value × TS)}, HdsM X hds l → HdsOk X hds (many3 l)
  | _, _, .nil => .nil
  | _, _, .cons hc hsu r => .cons hc (fun a oe cls d pn _ _ => hsu a ((a, oe) :: pn)) r.ok
end L2
set_option Elab.async false
set_option linter.all false
set_option maxRecDepth 100000
/-! xs.insert(i, y) -/
set_option Elab.async false
set_option linter.all false
set_option maxRecDepth 100000
/-! dicts with tuple keys: sorted(d), d.pop(k) -/
namespace L2
open PySem PySem.Spec PyProof.Rows PySem.Calls
end L2
namespace L2.DX
open PySem PySem.Spec PyProof.Rows L2
end L2.DX
set_option Elab.async false
set_option linter.all false
set_option maxRecDepth 100000
/-! for k in reversed(range(n)) -/
set_option Elab.async false
set_option linter.all false
set_option maxRecDepth 100000
/-! texts: split, int(text), str of both, steps of two -/
namespace L2
open PySem
end L2
set_option Elab.async false
set_option linter.all false
set_option maxRecDepth 100000
/-! [G a for a in xs] told by what the data are of -/
set_option Elab.async false
set_option linter.all false
set_option maxRecDepth 100000
/-! len(x) of a thing whose class has its own __len__ -/
namespace L2
open PySem Builtin
end L2
set_option Elab.async false
set_option Elab.async false
set_option linter.all false
set_option maxRecDepth 100000
/-! text * int -/
namespace L2
open PySem PySem.Spec PyProof.Rows
end L2
set_option Elab.async false
set_option linter.all false
set_option maxRecDepth 100000
/-! a dict display that is frozen at once -/
set_option Elab.async false
set_option linter.all false
set_option maxRecDepth 100000
/-! a constructor called with keywords: the arguments in the parameters' order -/
namespace L2
open PySem PySem.Spec PyProof.Rows
/-- the values by keyword, put in the order of the parameters -/
def permL {α : Type} (perm : List Nat) (ws : List α) : List α := perm.filterMap fun i => ws[i]?
theorem vals_get : ∀ {vs : List V} {us : List Value}, Vals vs us → ∀ i : Nat, (vs[i]? = none ∧ us[i]? = none) ∨ ∃ v u, vs[i]? = some v ∧ us[i]? = some u ∧ RelV v u
  | _, _, .nil, i => .inl ⟨by simp, by simp⟩
  | _, _, .cons r t, 0 => .inr ⟨_, _, rfl, rfl, r⟩
  | _, _, .cons r t, i + 1 => by simpa using vals_get t i
theorem vals_perm {vs : List V} {us : List Value} (h : Vals vs us) : ∀ perm : List Nat, Vals (permL perm vs) (permL perm us)
  | [] => .nil
  | i :: perm => by
    unfold permL
    rcases vals_get h i with ⟨e1, e2⟩ | ⟨v, u, e1, e2, r⟩
    · rw [List.filterMap_cons_none e1, List.filterMap_cons_none e2]
      exact vals_perm h perm
    · rw [List.filterMap_cons_some e1, List.filterMap_cons_some e2]
      exact .cons r (vals_perm h perm)
end L2
namespace Dl
open PySem L2 PyProof.Rows
section
variable {K : PySem.W.Frag} {B : Bs} {ρ : En} {μ : Mu}
theorem rps_get {G : Hp} {al : List Addr} : ∀ {vs : List V} {ds : List D}, Rps K G al vs ds → ∀ i : Nat, (vs[i]? = none ∧ ds[i]? = none) ∨ ∃ v d, vs[i]? = some v ∧ ds[i]? = some d ∧ Rp K G al v d
  | _, _, .nil, i => .inl ⟨by simp, by simp⟩
  | _, _, .cons r t, 0 => .inr ⟨_, _, rfl, rfl, r⟩
  | _, _, .cons r t, i + 1 => by simpa using rps_get t i
theorem rps_perm {G : Hp} {al : List Addr} {vs : List V} {ds : List D} (h : Rps K G al vs ds) : ∀ perm : List Nat, Rps K G al (permL perm vs) (permL perm ds)
  | [] => .nil
  | i :: perm => by
    unfold permL
    rcases rps_get h i with ⟨e1, e2⟩ | ⟨v, u, e1, e2, r⟩
    · rw [List.filterMap_cons_none e1, List.filterMap_cons_none e2]
      exact rps_perm h perm
    · rw [List.filterMap_cons_some e1, List.filterMap_cons_some e2]
      exact .cons r (rps_perm h perm)
end
end Dl
set_option Elab.async false
set_option linter.all false
set_option maxRecDepth 100000
/-! a function called with keywords: the arguments in the parameters' order -/
namespace L2
open PySem PySem.Spec PyProof.Rows
end L2
set_option Elab.async false
set_option linter.all false
set_option maxRecDepth 100000
/-! t < u of tuples of ints, len(set(xs)) of a list of such tuples -/
namespace L2
open PySem PySem.Spec PyProof.Rows
end L2
set_option Elab.async false
set_option linter.all false
set_option maxRecDepth 100000
/-! dict(zip(a, b)) -/
set_option Elab.async false
set_option linter.all false
set_option maxRecDepth 100000
/-! list(zip(a, b)), the first of keys -/
namespace Dl
open PySem L2 PyProof.Rows
def ZSt (S z TI TO i1 i2 l1 l2 : Addr) (xs ys : Array Value) (i : Nat) (h : Heap) : Prop := IsPair h TI (.ref i1) (.ref i2) ∧ h.IsListIter i1 l1 i ∧ h.IsListIter i2 l2 i ∧ h.IsList l1 xs ∧ h.IsList l2 ys ∧
  ((IsZip h z TI TO .none ∧ ∃ a b, IsPair h TO a b) ∨ ∃ T f oT, IsZipHeld h z TI TO T f ∧ h.get? T = some oT ∧ T ≠ z ∧ T ≠ i1 ∧ T ≠ i2 ∧ T ≠ S)
/-- S is none of these -/
def ZOff (S z TI TO i1 i2 l1 l2 : Addr) : Prop := S ≠ z ∧ S ≠ TI ∧ S ≠ TO ∧ S ≠ i1 ∧ S ≠ i2 ∧ S ≠ l1 ∧ S ≠ l2
section
variable {prog : Program} {w : World} {A : Around} {E : Value → Shared → Prop} {s : Shared} {S z TI TO i1 i2 l1 l2 : Addr} {xs ys : Array Value} {i : Nat}
theorem ZSt.keep {h h' : Heap} (st : ZSt S z TI TO i1 i2 l1 l2 xs ys i h) (o : ZOff S z TI TO i1 i2 l1 l2) (hk : ∀ b o, b ≠ S → h.get? b = some o → h'.get? b = some o) : ZSt S z TI TO i1 i2 l1 l2 xs ys i h' := by
  obtain ⟨hTI, h1, h2, hl1, hl2, hz⟩ := st
  obtain ⟨dz, dTI, dTO, di1, di2, dl1, dl2⟩ := o
  refine ⟨hk _ _ (Ne.symm dTI) hTI, h1.at fun o e => hk _ o (Ne.symm di1) e, h2.at fun o e => hk _ o (Ne.symm di2) e, hl1.at fun o e => hk _ o (Ne.symm dl1) e, hl2.at fun o e => hk _ o (Ne.symm dl2) e, ?_⟩
  rcases hz with ⟨hz, a, b, hTO⟩ | ⟨T, f, oT, hz, hT, r1, r2, r3, r4⟩
  · exact .inl ⟨hk _ _ (Ne.symm dz) hz, a, b, hk _ _ (Ne.symm dTO) hTO⟩
  · exact .inr ⟨T, f, oT, hk _ _ (Ne.symm dz) hz, hk _ _ r4 hT, r1, r2, r3, r4⟩
theorem ZSt.next (st : ZSt S z TI TO i1 i2 l1 l2 xs ys i s.heap) (D : ZipApart z TI TO i1 i2 l1 l2) (hd : S < s.heap.objs.size) (hix : i < xs.size) (hiy : i < ys.size) {Q : Option Value → Shared → Prop}
    (hQ : ∀ h', IsPair h' s.heap.objs.size xs[i] ys[i] → ZSt S z TI TO i1 i2 l1 l2 xs ys (i + 1) h' → h'.objs.size = s.heap.objs.size + 1 → (∀ c o, c ∉ [z, TO, i1, i2] → s.heap.get? c = some o → h'.get? c = some o) → Q (some (.ref s.heap.objs.size)) { s with heap := h' }) :
    wpAny (model prog w) A (pyNext (.ref z)) Q E s := by
  obtain ⟨hTI, h1, h2, hl1, hl2, hz⟩ := st
  have ex := Array.getElem?_eq_getElem hix
  have ey := Array.getElem?_eq_getElem hiy
  have lt : ∀ {c o}, s.heap.get? c = some o → s.heap.objs.size ≠ c := fun e => Nat.ne_of_gt (Heap.lt_size e)
  have n1 : s.heap.objs.size ≠ i1 := let ⟨_, e, _⟩ := h1; lt e
  have n2 : s.heap.objs.size ≠ i2 := let ⟨_, e, _⟩ := h2; lt e
  rcases hz with ⟨hz, a, b, hTO⟩ | ⟨T, f, oT, hz, hT, r1, r2, r3, r4⟩
  · refine wpAny_pyNext_zip_item D hz hTI hTO h1 h2 hl1 hl2 ex ey fun h' a1 a2 a3 a4 a5 a6 hk => ?_
    exact hQ h' a5 ⟨hk _ _ D.TIz D.TITO D.TIi1 D.TIi2 hTI, a3, a4, hl1.at fun o e => hk _ o D.l1z D.l1TO D.l1i1 D.l1i2 e, hl2.at fun o e => hk _ o D.l2z D.l2TO D.l2i1 D.l2i2 e,
      .inr ⟨s.heap.objs.size, false, _, a1, a5, lt hz, n1, n2, Nat.ne_of_gt hd⟩⟩ a6 fun c o hc e => hk c o (fun x => hc (by simp [x])) (fun x => hc (by simp [x])) (fun x => hc (by simp [x])) (fun x => hc (by simp [x])) e
  · refine wpAny_pyNext_zip_item_held D hz hT hTI h1 h2 hl1 hl2 ex ey fun h' a1 a3 a4 a5 a6 hk => ?_
    exact hQ h' a5 ⟨hk _ _ D.TIz D.TIi1 D.TIi2 hTI, a3, a4, hl1.at fun o e => hk _ o D.l1z D.l1i1 D.l1i2 e, hl2.at fun o e => hk _ o D.l2z D.l2i1 D.l2i2 e,
      .inr ⟨T, true, oT, a1, hk _ _ r1 r2 r3 hT, r1, r2, r3, r4⟩⟩ a6 fun c o hc e => hk c o (fun x => hc (by simp [x])) (fun x => hc (by simp [x])) (fun x => hc (by simp [x])) e
end
end Dl
set_option Elab.async false
set_option linter.all false
set_option maxRecDepth 100000
/-! repr(..) of data, told in the law itself: nothing is under way there -/
namespace L2
open PySem PySem.Spec PyProof.Rows
end L2
namespace L2
open PySem PySem.Spec PyProof.Rows
end L2
namespace L2
open PySem PySem.Spec PyProof.Rows
end L2
set_option Elab.async false
set_option linter.all false
/-! the whole of a tuple, cut: the tuple itself -/
namespace L2
open PySem PySem.Spec PyProof.Rows HT
end L2
set_option Elab.async false
set_option linter.all false
set_option maxRecDepth 100000
/-! a constructor called with keywords, defaults filling up; outside a try -/
namespace L2
open PySem PySem.Spec PyProof.Rows
/-- the values by keyword and the defaults, put in the order of the parameters -/
def gKD (perm : List Nat) {α : Type} (us its ws : List α) : List α := us ++ permL perm (ws ++ its)
def tPermD (n m : Nat) (perm : List Nat) (dvs : List V) (t tk : TA) : TA := fun σ H Q => t σ H fun vs H1 => tk σ H1 fun zs H2 => vs.length = n ∧ zs.length = m ∧ Q (vs ++ permL perm (zs ++ dvs)) H2
structure KBm (K : PySem.W.Frag) (fd : FuncData) (ps : List Str) (n : Nat) (ks : List Str) (perm : List Nat) (dvs : List V) : Prop where
  ex : ∃ g, KBn K fd ps n ks g (fun vs zs => gKD perm vs dvs zs)
theorem kbm_def {K : PySem.W.Frag} {x qual : Str} {params : Arguments} {body : List Stmt} {scope : Scope} {dvs : List V} {kws : List (Str × V)} {f : Addr} {fd : FuncData} {ps : List Str}
    (F : FunD K x qual params body scope dvs kws f fd) (hd : dvs ≠ []) (n : Nat) (ks : List Str) (perm : List Nat)
    (h : ∀ (T : Addr) (kV doc pm : Value) (an : Option Addr) (cdv ct : Value) (us its ws : List Value), us.length = n → its.length = dvs.length → ws.length = ks.length →
      ∃ k, bindArgs (PySem.W.fnOf x qual params body scope (.ref T) kV doc pm an cdv ct) ⟨us, ks.zip ws⟩ = seqItems? (.ref T) >>= k ∧ k (some its.toArray) = pure (ps.zip (gKD perm us its ws))) :
    KBm K fd ps n ks perm dvs := by
  obtain ⟨its, hb⟩ := FunD.kbindsD F n ks (fun {α} us its ws => gKD perm (α := α) us its ws) hd (fun r1 r2 r3 => r1.append (vals_perm (r3.append r2) perm)) h
  exact ⟨_, hb⟩
section
variable {X : Cx} {CX : CXT} {k n : Nat} {f C : Addr} {fd : FuncData} {ps ks : List Str} {sp : Sp} {E : XK} {x : Str} {p pos : Pos} {e : Expr} {es : List Expr} {kws : List Keyword} {t tk : TA} {perm : List Nat} {dvs : List V}
theorem make_perm {m : Nat} : tMakeN C n m sp (fun vs zs => gKD perm vs dvs zs) E t tk = tMake C sp [] E (tPermD n m perm dvs t tk) := by
  funext σ H Q
  unfold tMakeN tMake tPermD gKD
  simp only [List.append_nil, List.cons_append]
theorem make_perm0 {m : Nat} : tMakeK C n m sp (fun vs zs => gKD perm vs dvs zs) E t tk = tMake C sp [] E (tPermD n m perm dvs t tk) := by
  funext σ H Q
  unfold tMakeK tMake tPermD gKD
  simp only [List.append_nil, List.cons_append]
/-- C(e, .., k = v, ..) -/
theorem pe_makeNP (M : Mk X.K C f) (F : FnOk X.prog X.w X.K X.mg X.base CX k f fd ps sp) (hr : Room (k + 1) X.A) (hg : Gl X x) (hm : X.mg x = some (.ref C)) (hb : KBm X.K fd ps (n + 1) ks perm dvs) (hx : Passes CX X E)
    (ha : PA X (e :: es) t) (hkw : PK X kws tk) (hall : (backToKw pos (keywordEach kws X.env)).all (·.1.isSome) = true := by rfl) (hks : (backToKw pos (keywordEach kws X.env)).filterMap (·.1) = ks := by rfl)
    (hdb : (x == ("__debug__" : Str)) = false := by decide) (he : starEach (e :: es) X.env = (false, eval e X.env) :: starEach es X.env := by rfl)
    (hpl : ((backTo pos (starEach (e :: es) X.env)).any (·.1) || (backToKw pos (keywordEach kws X.env)).any (·.1.isNone)) = false := by rfl) :
    PE X (.Call (.Name x p) (e :: es) kws pos) (tMake C sp [] E (tPermD n ks.length perm dvs t tk)) := by
  obtain ⟨g, hb⟩ := hb.ex
  rw [← make_perm]
  exact pe_makeN M F hr hg hm hb hx ha hkw hall hks hdb he hpl
/-- C(k = v, ..) -/
theorem pe_makeNP0 (M : Mk X.K C f) (F : FnOk X.prog X.w X.K X.mg X.base CX k f fd ps sp) (hr : Room (k + 1) X.A) (hg : Gl X x) (hm : X.mg x = some (.ref C)) (hb : KBm X.K fd ps 1 ks perm dvs) (hx : Passes CX X E) (hkw : PK X kws tk)
    (hall : (backToKw pos (keywordEach kws X.env)).all (·.1.isSome) = true := by rfl) (hks : (backToKw pos (keywordEach kws X.env)).filterMap (·.1) = ks := by rfl) (hdb : (x == ("__debug__" : Str)) = false := by decide)
    (hpl : ((backTo pos (starEach [] X.env)).any (·.1) || (backToKw pos (keywordEach kws X.env)).any (·.1.isNone)) = false := by rfl) :
    PE X (.Call (.Name x p) [] kws pos) (tMake C sp [] E (tPermD 0 ks.length perm dvs tNil tk)) := by
  obtain ⟨g, hb⟩ := hb.ex
  rw [← make_perm0]
  exact pe_makeK0 M F hr hg hm hb hx hkw hall hks hdb hpl
end
end L2
namespace Dl
open PySem L2 PyProof.Rows
theorem da_permD {K : PySem.W.Frag} {B : Bs} {ρ : En} {μ : Mu} {n m : Nat} {perm : List Nat} {dvs : List V} {dds : List D} {ts tks : TA} {P : List D → Mu → Prop} (hd : ∀ G al, Rps K G al dvs dds)
    (h : DA K B ts ρ μ fun ds μ1 => DA K B tks ρ μ1 fun es μ2 => ds.length = n ∧ es.length = m ∧ P (ds ++ permL perm (es ++ dds)) μ2) : DA K B (tPermD n m perm dvs ts tks) ρ μ P := fun σ G H al hB hσ hA Q hQ =>
  h σ G H al hB hσ hA _ fun vs ds μ1 G1 H1 al1 n1 A1 r1 p1 => p1 σ G1 H1 al1 (hB.trans n1) (hσ.nx n1) A1 _ fun zs es μ2 G2 H2 al2 n2 A2 r2 p2 =>
    ⟨by rw [r1.length]; exact p2.1, by rw [r2.length]; exact p2.2.1, hQ _ _ μ2 G2 H2 al2 (n1.trans n2) A2 ((r1.nx n2).append (rps_perm (r2.append (hd _ _)) perm)) p2.2.2⟩
theorem rps_fe {K : PySem.W.Frag} (G : Hp) (al : List Addr) : Rps K G al [.int 1, .non, .non] [.int 1, .non, .non] := .cons (.int 1) (.cons .non (.cons .non .nil))
end Dl
set_option Elab.async false
set_option linter.all false
/-! == of data, either way about -/
namespace Dl
theorem eqv_either (x y : PySem.PyData) : PySem.PyData.eqv x y = PySem.PyData.eqv y x := PySem.W.eqv_comm x y
end Dl
set_option Elab.async false
set_option linter.all false
set_option maxRecDepth 100000
namespace Dl
open PySem L2 PyProof.Rows
def topS (i : Nat) : Stmt := PySem.Challenge.pw_readround_k17_feasts_told.main.body.getD i (.Pass ⟨0, 0, 0, 0⟩)
abbrev R : PySem.W.OpenRow := PySem.W.OpenLaw.row PySem.Challenge.rw_readround_k17_feasts_told
noncomputable section
open PySem.W PySem.Calls HandSHeadRun
noncomputable def env0 : Env := { scope := R.prog.main.scope, locals := mainNs, globals := mainNs, cells := [], code := (vr 13), frame := some 14 }
def o11 : Obj := ob_tu []
def o12 : Obj := ob_fi vn []
def o13 : Obj := ob_co [(vs "<module>" 182), (vs "<module>" 183), (vs "/claim/cut.py" 184), (vi 1 0), (vi 0 0), (vi 0 0), (vi 0 0), (vi 0 0), (vr 11), (.bool false), (vi 181 0), (vr 12), vn, vn, vn, vn, (vi 185 0), (vi 1 0), (vs "/claim/cut.py" 186)]
def o14 : Obj := ⟨(vt "frame"), none, .plain, #[some (vr 13), some (vr 3), some (vr 3), none, some (vs "__main__" 164), none, some (vr 0)]⟩
def o3 (P : Params) : Obj := ob_di [en P "__name__" 165 (vs "readround.feasts" 377), en P "__doc__" 166 vn, en P "__package__" 167 vn, en P "__loader__" 168 (vb "__main__.__loader__#opaque"), en P "__spec__" 169 vn, en P "__annotations__" 170 (vr 6), en P "__builtins__" 171 (vr 4), en P "__file__" 173 (vs "/claim/cut.py" 172), en P "__cached__" 174 vn, en P "_wall" 193 (vr 21), en P "ReadError" 213 (vr 31), en P "BadCalendar" 229 (vr 44), en P "BadFeast" 245 (vr 56), en P "NoDay" 261 (vr 68), en P "LETTERS" 265 (vs "abcdefghijklmnopqrstuvwxyz" 264), en P "is_number" 274 (vr 77), en P "is_name" 280 (vr 82), en P "are_numbers" 286 (vr 87), en P "need_day" 295 (vr 94), en P "Calendar" 376 (vr 153), en P "good_years" 384 (vr 162), en P "is_put" 391 (vr 169), en P "good_puts" 397 (vr 174)] 23
def o12_1 : Obj := ob_fi vn [(vi 1 0), (vi 0 0), (vr 20), (vi 5 0), (vi 0 0), (vr 27), (vi 7 0), (vi 0 0), (vr 40), (vi 9 0), (vi 0 0), (vr 52), (vi 11 0), (vi 0 0), (vr 64), (vi 15 0), (vi 0 0), (vr 76), (vi 17 0), (vi 0 0), (vr 81), (vi 21 0), (vi 0 0), (vr 86), (vi 26 0), (vi 0 0), (vr 93), (vi 29 0), (vi 0 0), (vr 100), (vi 62 0), (vi 0 0), (vr 161), (vi 66 0), (vi 0 0), (vr 168), (vi 68 0), (vi 0 0), (vr 173)]
def o15 : Obj := ob_tu []
def o16 : Obj := ob_fi vn []
def o17 : Obj := ob_tu [(vs "k" 190)]
def o18 : Obj := ob_tu []
def o19 : Obj := ob_fu vn (topS 0) "_wall" "_wall" 0 vn vn vn vn none vn vn
def o20 : Obj := ob_co [(vs "_wall" 187), (vs "_wall" 188), (vs "/claim/cut.py" 189), (vi 1 0), (vi 1 0), (vi 0 0), (vi 0 0), (vi 3 0), (vr 15), (.bool true), (vi 181 0), (vr 16), vn, (vr 17), (vr 18), (vr 19), (vi 191 0), (vi 1 0), (vs "/claim/cut.py" 192)]
def o21 : Obj := ob_fu (vt "function") (topS 0) "_wall" "_wall" 3 vn vn vn (vs "__main__" 164) none (vr 20) vn
def o22 : Obj := ob_tu [(vt "ValueError")]
def o23 : Obj := ob_fi (vt "builtin_function_or_method") [(vb "type.__prepare__"), (vt "type")]
def o24 (P : Params) : Obj := ob_di [en P "__module__" 203 (vs "readround.errors" 194), en P "__qualname__" 205 (vs "ReadError" 204), en P "__firstlineno__" 207 (vi 5 206), en P "__static_attributes__" 208 (vr 29)] 4
def o25 : Obj := ob_tu []
def o26 : Obj := ob_fi vn []
def o27 : Obj := ob_co [(vs "ReadError" 198), (vs "ReadError" 199), (vs "/claim/cut.py" 200), (vi 5 0), (vi 0 0), (vi 0 0), (vi 0 0), (vi 0 0), (vr 25), (.bool false), (vi 181 0), (vr 26), vn, vn, vn, vn, (vi 201 0), (vi 5 0), (vs "/claim/cut.py" 202)]
def o28 : Obj := ⟨(vt "frame"), none, .plain, #[some (vr 27), some (vr 3), some (vr 24), none, some (vs "readround.errors" 194), none, some (vr 0)]⟩
def o29 : Obj := ob_tu []
def o30 (P : Params) : Obj := ob_di [en P "__module__" 203 (vs "readround.errors" 194), en P "__firstlineno__" 207 (vi 5 206), en P "__static_attributes__" 208 (vr 29), en P "__weakref__" 210 (vr 32), en P "__doc__" 211 vn] 3
def o31 : Obj := ⟨(vt "type"), none, .cls (ClassData.mk (Str.ofString "ReadError") [(vt "ValueError")] [(vr 31), (vt "ValueError"), (vt "Exception"), (vt "BaseException"), (vt "object")] 30 (Str.ofString "ReadError") true [] [(vr 44), (vr 56), (vr 68)] false none false), #[some (vr 22), none, some (vs "ReadError" 196), some (vs "ReadError" 204), some (vb "ValueError.__new__"), some (.bool true)]⟩
def o32 : Obj := ob_fi (vt "getset_descriptor") [(vs "__weakref__" 209), (vr 31), (vb "ExceptionGroup.__weakref__"), vn]
def o33 : Obj := ob_fi (vt "super") [(vr 31), (vr 31), (vr 31)]
def o34 : Obj := ob_fi (vt "builtin_function_or_method") [(vb "object.__init_subclass__"), (vr 31)]
def o35 : Obj := ob_tu [(vr 31)]
def o36 : Obj := ob_fi (vt "builtin_function_or_method") [(vb "type.__prepare__"), (vt "type")]
def o37 (P : Params) : Obj := ob_di [en P "__module__" 221 (vs "readround.errors" 194), en P "__qualname__" 223 (vs "BadCalendar" 222), en P "__firstlineno__" 225 (vi 7 224), en P "__static_attributes__" 226 (vr 42)] 4
def o38 : Obj := ob_tu []
def o39 : Obj := ob_fi vn []
def o40 : Obj := ob_co [(vs "BadCalendar" 216), (vs "BadCalendar" 217), (vs "/claim/cut.py" 218), (vi 7 0), (vi 0 0), (vi 0 0), (vi 0 0), (vi 0 0), (vr 38), (.bool false), (vi 181 0), (vr 39), vn, vn, vn, vn, (vi 219 0), (vi 7 0), (vs "/claim/cut.py" 220)]
def o41 : Obj := ⟨(vt "frame"), none, .plain, #[some (vr 40), some (vr 3), some (vr 37), none, some (vs "readround.errors" 194), none, some (vr 0)]⟩
def o42 : Obj := ob_tu []
def o43 (P : Params) : Obj := ob_di [en P "__module__" 221 (vs "readround.errors" 194), en P "__firstlineno__" 225 (vi 7 224), en P "__static_attributes__" 226 (vr 42), en P "__doc__" 227 vn] 2
def o44 : Obj := ⟨(vt "type"), none, .cls (ClassData.mk (Str.ofString "BadCalendar") [(vr 31)] [(vr 44), (vr 31), (vt "ValueError"), (vt "Exception"), (vt "BaseException"), (vt "object")] 43 (Str.ofString "BadCalendar") true [] [] false none false), #[some (vr 35), none, some (vs "BadCalendar" 214), some (vs "BadCalendar" 222), some (vb "ValueError.__new__"), some (.bool true)]⟩
def o45 : Obj := ob_fi (vt "super") [(vr 44), (vr 44), (vr 44)]
def o46 : Obj := ob_fi (vt "builtin_function_or_method") [(vb "object.__init_subclass__"), (vr 44)]
def o47 : Obj := ob_tu [(vr 31)]
def o48 : Obj := ob_fi (vt "builtin_function_or_method") [(vb "type.__prepare__"), (vt "type")]
def o49 (P : Params) : Obj := ob_di [en P "__module__" 237 (vs "readround.errors" 194), en P "__qualname__" 239 (vs "BadFeast" 238), en P "__firstlineno__" 241 (vi 9 240), en P "__static_attributes__" 242 (vr 54)] 4
def o50 : Obj := ob_tu []
def o51 : Obj := ob_fi vn []
def o52 : Obj := ob_co [(vs "BadFeast" 232), (vs "BadFeast" 233), (vs "/claim/cut.py" 234), (vi 9 0), (vi 0 0), (vi 0 0), (vi 0 0), (vi 0 0), (vr 50), (.bool false), (vi 181 0), (vr 51), vn, vn, vn, vn, (vi 235 0), (vi 9 0), (vs "/claim/cut.py" 236)]
def o53 : Obj := ⟨(vt "frame"), none, .plain, #[some (vr 52), some (vr 3), some (vr 49), none, some (vs "readround.errors" 194), none, some (vr 0)]⟩
def o54 : Obj := ob_tu []
def o55 (P : Params) : Obj := ob_di [en P "__module__" 237 (vs "readround.errors" 194), en P "__firstlineno__" 241 (vi 9 240), en P "__static_attributes__" 242 (vr 54), en P "__doc__" 243 vn] 2
def o56 : Obj := ⟨(vt "type"), none, .cls (ClassData.mk (Str.ofString "BadFeast") [(vr 31)] [(vr 56), (vr 31), (vt "ValueError"), (vt "Exception"), (vt "BaseException"), (vt "object")] 55 (Str.ofString "BadFeast") true [] [] false none false), #[some (vr 47), none, some (vs "BadFeast" 230), some (vs "BadFeast" 238), some (vb "ValueError.__new__"), some (.bool true)]⟩
def o57 : Obj := ob_fi (vt "super") [(vr 56), (vr 56), (vr 56)]
def o58 : Obj := ob_fi (vt "builtin_function_or_method") [(vb "object.__init_subclass__"), (vr 56)]
def o59 : Obj := ob_tu [(vr 31)]
def o60 : Obj := ob_fi (vt "builtin_function_or_method") [(vb "type.__prepare__"), (vt "type")]
def o61 (P : Params) : Obj := ob_di [en P "__module__" 253 (vs "readround.errors" 194), en P "__qualname__" 255 (vs "NoDay" 254), en P "__firstlineno__" 257 (vi 11 256), en P "__static_attributes__" 258 (vr 66)] 4
def o62 : Obj := ob_tu []
def o63 : Obj := ob_fi vn []
def o64 : Obj := ob_co [(vs "NoDay" 248), (vs "NoDay" 249), (vs "/claim/cut.py" 250), (vi 11 0), (vi 0 0), (vi 0 0), (vi 0 0), (vi 0 0), (vr 62), (.bool false), (vi 181 0), (vr 63), vn, vn, vn, vn, (vi 251 0), (vi 11 0), (vs "/claim/cut.py" 252)]
def o65 : Obj := ⟨(vt "frame"), none, .plain, #[some (vr 64), some (vr 3), some (vr 61), none, some (vs "readround.errors" 194), none, some (vr 0)]⟩
def o66 : Obj := ob_tu []
def o67 (P : Params) : Obj := ob_di [en P "__module__" 253 (vs "readround.errors" 194), en P "__firstlineno__" 257 (vi 11 256), en P "__static_attributes__" 258 (vr 66), en P "__doc__" 259 vn] 2
def o68 : Obj := ⟨(vt "type"), none, .cls (ClassData.mk (Str.ofString "NoDay") [(vr 31)] [(vr 68), (vr 31), (vt "ValueError"), (vt "Exception"), (vt "BaseException"), (vt "object")] 67 (Str.ofString "NoDay") true [] [] false none false), #[some (vr 59), none, some (vs "NoDay" 246), some (vs "NoDay" 254), some (vb "ValueError.__new__"), some (.bool true)]⟩
def o69 : Obj := ob_fi (vt "super") [(vr 68), (vr 68), (vr 68)]
def o70 : Obj := ob_fi (vt "builtin_function_or_method") [(vb "object.__init_subclass__"), (vr 68)]
def o71 : Obj := ob_tu []
def o72 : Obj := ob_fi vn []
def o73 : Obj := ob_tu [(vs "thing" 269), (vs "least" 270), (vs "most" 271)]
def o74 : Obj := ob_tu []
def o75 : Obj := ob_fu vn (topS 8) "is_number" "is_number" 0 vn vn vn vn none vn vn
def o76 : Obj := ob_co [(vs "is_number" 266), (vs "is_number" 267), (vs "/claim/cut.py" 268), (vi 15 0), (vi 3 0), (vi 0 0), (vi 0 0), (vi 3 0), (vr 71), (.bool true), (vi 181 0), (vr 72), vn, (vr 73), (vr 74), (vr 75), (vi 272 0), (vi 15 0), (vs "/claim/cut.py" 273)]
def o77 : Obj := ob_fu (vt "function") (topS 8) "is_number" "is_number" 3 vn vn vn (vs "readround.kinds" 262) none (vr 76) vn
def o78 : Obj := ob_tu []
def o79 : Obj := ob_fi vn []
def o80 : Obj := ob_fu vn (topS 9) "is_name" "is_name" 0 vn vn vn vn none vn vn
def o81 : Obj := ob_co [(vs "is_name" 275), (vs "is_name" 276), (vs "/claim/cut.py" 277), (vi 17 0), (vi 1 0), (vi 0 0), (vi 0 0), (vi 3 0), (vr 78), (.bool true), (vi 181 0), (vr 79), vn, vn, vn, (vr 80), (vi 278 0), (vi 17 0), (vs "/claim/cut.py" 279)]
def o82 : Obj := ob_fu (vt "function") (topS 9) "is_name" "is_name" 3 vn vn vn (vs "readround.kinds" 262) none (vr 81) vn
def o83 : Obj := ob_tu []
def o84 : Obj := ob_fi vn []
def o85 : Obj := ob_fu vn (topS 10) "are_numbers" "are_numbers" 0 vn vn vn vn none vn vn
def o86 : Obj := ob_co [(vs "are_numbers" 281), (vs "are_numbers" 282), (vs "/claim/cut.py" 283), (vi 21 0), (vi 4 0), (vi 0 0), (vi 0 0), (vi 3 0), (vr 83), (.bool true), (vi 181 0), (vr 84), vn, vn, vn, (vr 85), (vi 284 0), (vi 21 0), (vs "/claim/cut.py" 285)]
def o87 : Obj := ob_fu (vt "function") (topS 10) "are_numbers" "are_numbers" 3 vn vn vn (vs "readround.kinds" 262) none (vr 86) vn
def o88 : Obj := ob_tu []
def o89 : Obj := ob_fi vn []
def o90 : Obj := ob_tu [(vs "number" 292)]
def o91 : Obj := ob_tu []
def o92 : Obj := ob_fu vn (topS 12) "need_day" "need_day" 0 vn vn vn vn none vn vn
def o93 : Obj := ob_co [(vs "need_day" 289), (vs "need_day" 290), (vs "/claim/cut.py" 291), (vi 26 0), (vi 1 0), (vi 0 0), (vi 0 0), (vi 3 0), (vr 88), (.bool true), (vi 181 0), (vr 89), vn, (vr 90), (vr 91), (vr 92), (vi 293 0), (vi 26 0), (vs "/claim/cut.py" 294)]
def o94 : Obj := ob_fu (vt "function") (topS 12) "need_day" "need_day" 3 vn vn vn (vs "readround.calendars" 287) none (vr 93) vn
def o95 : Obj := ob_tu []
def o96 : Obj := ob_fi (vt "builtin_function_or_method") [(vb "type.__prepare__"), (vt "type")]
def o97 (P : Params) : Obj := ob_di [en P "__module__" 303 (vs "readround.calendars" 287), en P "__qualname__" 305 (vs "Calendar" 304), en P "__firstlineno__" 307 (vi 29 306), en P "__init__" 316 (vr 108), en P "__eq__" 324 (vr 115), en P "years" 331 (vr 122), en P "turn" 338 (vr 129), en P "long" 346 (vr 136), en P "first" 356 (vr 143), en P "at" 364 (vr 150), en P "__static_attributes__" 368 (vr 151)] 11
def o98 : Obj := ob_tu []
def o99 : Obj := ob_fi vn [(vi 31 0), (vi 4 0), (vr 107), (vi 41 0), (vi 4 0), (vr 114), (vi 44 0), (vi 4 0), (vr 121), (vi 47 0), (vi 4 0), (vr 128), (vi 50 0), (vi 4 0), (vr 135), (vi 54 0), (vi 4 0), (vr 142), (vi 59 0), (vi 4 0), (vr 149)]
def o100 : Obj := ob_co [(vs "Calendar" 298), (vs "Calendar" 299), (vs "/claim/cut.py" 300), (vi 29 0), (vi 0 0), (vi 0 0), (vi 0 0), (vi 0 0), (vr 98), (.bool false), (vi 181 0), (vr 99), vn, vn, vn, vn, (vi 301 0), (vi 29 0), (vs "/claim/cut.py" 302)]
def o101 : Obj := ⟨(vt "frame"), none, .plain, #[some (vr 100), some (vr 3), some (vr 97), none, some (vs "readround.calendars" 287), none, some (vr 0)]⟩
def o102 : Obj := ob_tu []
def o103 : Obj := ob_fi vn []
def o104 : Obj := ob_tu [(vs "self" 311), (vs "years" 312), (vs "days" 313)]
def o105 : Obj := ob_tu []
def o106 : Obj := ob_fu vn (inClass (topS 13) 0) "__init__" "Calendar.__init__" 0 vn vn vn vn none vn vn
def o107 : Obj := ob_co [(vs "__init__" 308), (vs "Calendar.__init__" 309), (vs "/claim/cut.py" 310), (vi 31 0), (vi 2 0), (vi 0 0), (vi 0 0), (vi 3 0), (vr 102), (.bool true), (vi 181 0), (vr 103), vn, (vr 104), (vr 105), (vr 106), (vi 314 0), (vi 31 0), (vs "/claim/cut.py" 315)]
def o108 : Obj := ob_fu (vt "function") (inClass (topS 13) 0) "__init__" "Calendar.__init__" 3 vn vn vn (vs "readround.calendars" 287) none (vr 107) vn
def o109 : Obj := ob_tu []
def o110 : Obj := ob_fi vn []
def o111 : Obj := ob_tu [(vs "self" 320), (vs "other" 321)]
def o112 : Obj := ob_tu []
def o113 : Obj := ob_fu vn (inClass (topS 13) 1) "__eq__" "Calendar.__eq__" 0 vn vn vn vn none vn vn
def o114 : Obj := ob_co [(vs "__eq__" 317), (vs "Calendar.__eq__" 318), (vs "/claim/cut.py" 319), (vi 41 0), (vi 2 0), (vi 0 0), (vi 0 0), (vi 3 0), (vr 109), (.bool true), (vi 181 0), (vr 110), vn, (vr 111), (vr 112), (vr 113), (vi 322 0), (vi 41 0), (vs "/claim/cut.py" 323)]
def o115 : Obj := ob_fu (vt "function") (inClass (topS 13) 1) "__eq__" "Calendar.__eq__" 3 vn vn vn (vs "readround.calendars" 287) none (vr 114) vn
def o116 : Obj := ob_tu []
def o117 : Obj := ob_fi vn []
def o118 : Obj := ob_tu [(vs "self" 328)]
def o119 : Obj := ob_tu []
def o120 : Obj := ob_fu vn (inClass (topS 13) 2) "years" "Calendar.years" 0 vn vn vn vn none vn vn
def o121 : Obj := ob_co [(vs "years" 325), (vs "Calendar.years" 326), (vs "/claim/cut.py" 327), (vi 44 0), (vi 1 0), (vi 0 0), (vi 0 0), (vi 3 0), (vr 116), (.bool true), (vi 181 0), (vr 117), vn, (vr 118), (vr 119), (vr 120), (vi 329 0), (vi 44 0), (vs "/claim/cut.py" 330)]
def o122 : Obj := ob_fu (vt "function") (inClass (topS 13) 2) "years" "Calendar.years" 3 vn vn vn (vs "readround.calendars" 287) none (vr 121) vn
def o123 : Obj := ob_tu []
def o124 : Obj := ob_fi vn []
def o125 : Obj := ob_tu [(vs "self" 335)]
def o126 : Obj := ob_tu []
def o127 : Obj := ob_fu vn (inClass (topS 13) 3) "turn" "Calendar.turn" 0 vn vn vn vn none vn vn
def o128 : Obj := ob_co [(vs "turn" 332), (vs "Calendar.turn" 333), (vs "/claim/cut.py" 334), (vi 47 0), (vi 1 0), (vi 0 0), (vi 0 0), (vi 3 0), (vr 123), (.bool true), (vi 181 0), (vr 124), vn, (vr 125), (vr 126), (vr 127), (vi 336 0), (vi 47 0), (vs "/claim/cut.py" 337)]
def o129 : Obj := ob_fu (vt "function") (inClass (topS 13) 3) "turn" "Calendar.turn" 3 vn vn vn (vs "readround.calendars" 287) none (vr 128) vn
def o130 : Obj := ob_tu []
def o131 : Obj := ob_fi vn []
def o132 : Obj := ob_tu [(vs "self" 342), (vs "year" 343)]
def o133 : Obj := ob_tu []
def o134 : Obj := ob_fu vn (inClass (topS 13) 4) "long" "Calendar.long" 0 vn vn vn vn none vn vn
def o135 : Obj := ob_co [(vs "long" 339), (vs "Calendar.long" 340), (vs "/claim/cut.py" 341), (vi 50 0), (vi 2 0), (vi 0 0), (vi 0 0), (vi 3 0), (vr 130), (.bool true), (vi 181 0), (vr 131), vn, (vr 132), (vr 133), (vr 134), (vi 344 0), (vi 50 0), (vs "/claim/cut.py" 345)]
def o136 : Obj := ob_fu (vt "function") (inClass (topS 13) 4) "long" "Calendar.long" 3 vn vn vn (vs "readround.calendars" 287) none (vr 135) vn
def o137 : Obj := ob_tu []
def o138 : Obj := ob_fi vn []
def o139 : Obj := ob_tu [(vs "self" 350), (vs "year" 351), (vs "turns" 352), (vs "place" 353)]
def o140 : Obj := ob_tu []
def o141 : Obj := ob_fu vn (inClass (topS 13) 5) "first" "Calendar.first" 0 vn vn vn vn none vn vn
def o142 : Obj := ob_co [(vs "first" 347), (vs "Calendar.first" 348), (vs "/claim/cut.py" 349), (vi 54 0), (vi 2 0), (vi 0 0), (vi 0 0), (vi 3 0), (vr 137), (.bool true), (vi 181 0), (vr 138), vn, (vr 139), (vr 140), (vr 141), (vi 354 0), (vi 54 0), (vs "/claim/cut.py" 355)]
def o143 : Obj := ob_fu (vt "function") (inClass (topS 13) 5) "first" "Calendar.first" 3 vn vn vn (vs "readround.calendars" 287) none (vr 142) vn
def o144 : Obj := ob_tu []
def o145 : Obj := ob_fi vn []
def o146 : Obj := ob_tu [(vs "self" 360), (vs "day" 361)]
def o147 : Obj := ob_tu []
def o148 : Obj := ob_fu vn (inClass (topS 13) 6) "at" "Calendar.at" 0 vn vn vn vn none vn vn
def o149 : Obj := ob_co [(vs "at" 357), (vs "Calendar.at" 358), (vs "/claim/cut.py" 359), (vi 59 0), (vi 2 0), (vi 0 0), (vi 0 0), (vi 3 0), (vr 144), (.bool true), (vi 181 0), (vr 145), vn, (vr 146), (vr 147), (vr 148), (vi 362 0), (vi 59 0), (vs "/claim/cut.py" 363)]
def o150 : Obj := ob_fu (vt "function") (inClass (topS 13) 6) "at" "Calendar.at" 3 vn vn vn (vs "readround.calendars" 287) none (vr 149) vn
def o151 : Obj := ob_tu [(vs "begins" 365), (vs "lengths" 366), (vs "whole" 367)]
def o152 (P : Params) : Obj := ob_di [en P "__module__" 303 (vs "readround.calendars" 287), en P "__firstlineno__" 307 (vi 29 306), en P "__init__" 316 (vr 108), en P "__eq__" 324 (vr 115), en P "years" 331 (vr 122), en P "turn" 338 (vr 129), en P "long" 346 (vr 136), en P "first" 356 (vr 143), en P "at" 364 (vr 150), en P "__static_attributes__" 368 (vr 151), en P "__dict__" 370 (vr 154), en P "__weakref__" 372 (vr 155), en P "__doc__" 373 vn, en P "__hash__" 374 vn] 5
def o153 : Obj := ⟨(vt "type"), none, .cls (ClassData.mk (Str.ofString "Calendar") [(vt "object")] [(vr 153), (vt "object")] 152 (Str.ofString "Calendar") true [] [] false none false), #[none, none, some (vs "Calendar" 296), some (vs "Calendar" 304), some (vb "object.__new__"), some (.bool true)]⟩
def o154 : Obj := ob_fi (vt "getset_descriptor") [(vs "__dict__" 369), (vr 153), (vb "function.__dict__"), (vb "function.__dict__#set")]
def o155 : Obj := ob_fi (vt "getset_descriptor") [(vs "__weakref__" 371), (vr 153), (vb "ExceptionGroup.__weakref__"), vn]
def o156 : Obj := ob_fi (vt "super") [(vr 153), (vr 153), (vr 153)]
def o157 : Obj := ob_fi (vt "builtin_function_or_method") [(vb "object.__init_subclass__"), (vr 153)]
def o158 : Obj := ob_tu []
def o159 : Obj := ob_fi vn []
def o160 : Obj := ob_fu vn (topS 15) "good_years" "good_years" 0 vn vn vn vn none vn vn
def o161 : Obj := ob_co [(vs "good_years" 379), (vs "good_years" 380), (vs "/claim/cut.py" 381), (vi 62 0), (vi 1 0), (vi 0 0), (vi 0 0), (vi 3 0), (vr 158), (.bool true), (vi 181 0), (vr 159), vn, vn, vn, (vr 160), (vi 382 0), (vi 62 0), (vs "/claim/cut.py" 383)]
def o162 : Obj := ob_fu (vt "function") (topS 15) "good_years" "good_years" 3 vn vn vn (vs "readround.feasts" 377) none (vr 161) vn
def o163 : Obj := ob_tu []
def o164 : Obj := ob_fi vn []
def o165 : Obj := ob_tu [(vs "pair" 388)]
def o166 : Obj := ob_tu []
def o167 : Obj := ob_fu vn (topS 16) "is_put" "is_put" 0 vn vn vn vn none vn vn
def o168 : Obj := ob_co [(vs "is_put" 385), (vs "is_put" 386), (vs "/claim/cut.py" 387), (vi 66 0), (vi 1 0), (vi 0 0), (vi 0 0), (vi 3 0), (vr 163), (.bool true), (vi 181 0), (vr 164), vn, (vr 165), (vr 166), (vr 167), (vi 389 0), (vi 66 0), (vs "/claim/cut.py" 390)]
def o169 : Obj := ob_fu (vt "function") (topS 16) "is_put" "is_put" 3 vn vn vn (vs "readround.feasts" 377) none (vr 168) vn
def o170 : Obj := ob_tu []
def o171 : Obj := ob_fi vn []
def o172 : Obj := ob_fu vn (topS 17) "good_puts" "good_puts" 0 vn vn vn vn none vn vn
def o173 : Obj := ob_co [(vs "good_puts" 392), (vs "good_puts" 393), (vs "/claim/cut.py" 394), (vi 68 0), (vi 1 0), (vi 0 0), (vi 0 0), (vi 3 0), (vr 170), (.bool true), (vi 181 0), (vr 171), vn, vn, vn, (vr 172), (vi 395 0), (vi 68 0), (vs "/claim/cut.py" 396)]
def o174 : Obj := ob_fu (vt "function") (topS 17) "good_puts" "good_puts" 3 vn vn vn (vs "readround.feasts" 377) none (vr 173) vn
def o3_1 (P : Params) : Obj := ob_di [en P "__name__" 165 (vs "law_readround_k17_feasts_told" 507), en P "__doc__" 166 vn, en P "__package__" 167 vn, en P "__loader__" 168 (vb "__main__.__loader__#opaque"), en P "__spec__" 169 vn, en P "__annotations__" 170 (vr 6), en P "__builtins__" 171 (vr 4), en P "__file__" 173 (vs "/claim/cut.py" 172), en P "__cached__" 174 vn, en P "_wall" 193 (vr 21), en P "ReadError" 213 (vr 31), en P "BadCalendar" 229 (vr 44), en P "BadFeast" 245 (vr 56), en P "NoDay" 261 (vr 68), en P "LETTERS" 265 (vs "abcdefghijklmnopqrstuvwxyz" 264), en P "is_number" 274 (vr 77), en P "is_name" 280 (vr 82), en P "are_numbers" 286 (vr 87), en P "need_day" 295 (vr 94), en P "Calendar" 376 (vr 153), en P "good_years" 384 (vr 162), en P "is_put" 391 (vr 169), en P "good_puts" 397 (vr 174), en P "Feast" 506 (vr 248), en P "_law_draw" 519 (vr 259), en P "_law_is" 527 (vr 266), en P "_law_row_is" 533 (vr 271), en P "_law_told_is" 541 (vr 278), en P "_law_name" 547 (vr 283), en P "_law_kept" 553 (vr 288), en P "_law_acts" 559 (vr 293), en P "_law_feast" 571 (vr 300), en P "_law_made" 584 (vr 307), en P "_law_spoil" 593 (vr 314), en P "_law_equal_right" 607 (vr 321), en P "law" 621 (vr 328)] 36
def o12_2 : Obj := ob_fi vn [(vi 1 0), (vi 0 0), (vr 20), (vi 5 0), (vi 0 0), (vr 27), (vi 7 0), (vi 0 0), (vr 40), (vi 9 0), (vi 0 0), (vr 52), (vi 11 0), (vi 0 0), (vr 64), (vi 15 0), (vi 0 0), (vr 76), (vi 17 0), (vi 0 0), (vr 81), (vi 21 0), (vi 0 0), (vr 86), (vi 26 0), (vi 0 0), (vr 93), (vi 29 0), (vi 0 0), (vr 100), (vi 62 0), (vi 0 0), (vr 161), (vi 66 0), (vi 0 0), (vr 168), (vi 68 0), (vi 0 0), (vr 173), (vi 74 0), (vi 0 0), (vr 180), (vi 112 0), (vi 0 0), (vr 258), (vi 122 0), (vi 0 0), (vr 265), (vi 124 0), (vi 0 0), (vr 270), (vi 130 0), (vi 0 0), (vr 277), (vi 138 0), (vi 0 0), (vr 282), (vi 145 0), (vi 0 0), (vr 287), (vi 153 0), (vi 0 0), (vr 292), (vi 160 0), (vi 0 0), (vr 299), (vi 166 0), (vi 0 0), (vr 306), (vi 185 0), (vi 0 0), (vr 313), (vi 195 0), (vi 0 0), (vr 320), (vi 210 0), (vi 0 0), (vr 327)]
def o175 : Obj := ob_tu []
def o176 : Obj := ob_fi (vt "builtin_function_or_method") [(vb "type.__prepare__"), (vt "type")]
def o177 (P : Params) : Obj := ob_di [en P "__module__" 405 (vs "readround.feasts" 377), en P "__qualname__" 407 (vs "Feast" 406), en P "__firstlineno__" 409 (vi 74 408), en P "__init__" 422 (vr 189), en P "__eq__" 430 (vr 196), en P "told" 438 (vr 203), en P "sort_for" 446 (vr 210), en P "span" 455 (vr 217), en P "keeps" 464 (vr 224), en P "next_kept" 473 (vr 231), en P "kept_in" 483 (vr 238), en P "kept_ahead" 492 (vr 245), en P "__static_attributes__" 498 (vr 246)] 13
def o178 : Obj := ob_tu []
def o179 : Obj := ob_fi vn [(vi 76 0), (vi 4 0), (vr 188), (vi 87 0), (vi 4 0), (vr 195), (vi 90 0), (vi 4 0), (vr 202), (vi 94 0), (vi 4 0), (vr 209), (vi 97 0), (vi 4 0), (vr 216), (vi 100 0), (vi 4 0), (vr 223), (vi 103 0), (vi 4 0), (vr 230), (vi 106 0), (vi 4 0), (vr 237), (vi 109 0), (vi 4 0), (vr 244)]
def o180 : Obj := ob_co [(vs "Feast" 400), (vs "Feast" 401), (vs "/claim/cut.py" 402), (vi 74 0), (vi 0 0), (vi 0 0), (vi 0 0), (vi 0 0), (vr 178), (.bool false), (vi 181 0), (vr 179), vn, vn, vn, vn, (vi 403 0), (vi 74 0), (vs "/claim/cut.py" 404)]
def o181 : Obj := ⟨(vt "frame"), none, .plain, #[some (vr 180), some (vr 3), some (vr 177), none, some (vs "readround.feasts" 377), none, some (vr 0)]⟩
def o182 : Obj := ob_tu [(vi 1 410), vn, vn]
def o183 : Obj := ob_tu []
def o184 : Obj := ob_fi vn []
def o185 : Obj := ob_tu [(vs "self" 414), (vs "name" 415), (vs "place" 416), (vs "days" 417), (vs "years" 418), (vs "puts" 419)]
def o186 : Obj := ob_tu []
def o187 : Obj := ob_fu vn (inClass (topS 18) 0) "__init__" "Feast.__init__" 0 vn vn vn vn none vn vn
def o188 : Obj := ob_co [(vs "__init__" 411), (vs "Feast.__init__" 412), (vs "/claim/cut.py" 413), (vi 76 0), (vi 6 0), (vi 0 0), (vi 0 0), (vi 3 0), (vr 183), (.bool true), (vi 181 0), (vr 184), vn, (vr 185), (vr 186), (vr 187), (vi 420 0), (vi 76 0), (vs "/claim/cut.py" 421)]
def o189 : Obj := ob_fu (vt "function") (inClass (topS 18) 0) "__init__" "Feast.__init__" 3 (vr 182) vn vn (vs "readround.feasts" 377) none (vr 188) vn
def o190 : Obj := ob_tu []
def o191 : Obj := ob_fi vn []
def o192 : Obj := ob_tu [(vs "self" 426), (vs "other" 427)]
def o193 : Obj := ob_tu []
def o194 : Obj := ob_fu vn (inClass (topS 18) 1) "__eq__" "Feast.__eq__" 0 vn vn vn vn none vn vn
def o195 : Obj := ob_co [(vs "__eq__" 423), (vs "Feast.__eq__" 424), (vs "/claim/cut.py" 425), (vi 87 0), (vi 2 0), (vi 0 0), (vi 0 0), (vi 3 0), (vr 190), (.bool true), (vi 181 0), (vr 191), vn, (vr 192), (vr 193), (vr 194), (vi 428 0), (vi 87 0), (vs "/claim/cut.py" 429)]
def o196 : Obj := ob_fu (vt "function") (inClass (topS 18) 1) "__eq__" "Feast.__eq__" 3 vn vn vn (vs "readround.feasts" 377) none (vr 195) vn
def o197 : Obj := ob_tu []
def o198 : Obj := ob_fi vn []
def o199 : Obj := ob_tu [(vs "self" 434), (vs "kept" 435)]
def o200 : Obj := ob_tu []
def o201 : Obj := ob_fu vn (inClass (topS 18) 2) "told" "Feast.told" 0 vn vn vn vn none vn vn
def o202 : Obj := ob_co [(vs "told" 431), (vs "Feast.told" 432), (vs "/claim/cut.py" 433), (vi 90 0), (vi 1 0), (vi 0 0), (vi 0 0), (vi 3 0), (vr 197), (.bool true), (vi 181 0), (vr 198), vn, (vr 199), (vr 200), (vr 201), (vi 436 0), (vi 90 0), (vs "/claim/cut.py" 437)]
def o203 : Obj := ob_fu (vt "function") (inClass (topS 18) 2) "told" "Feast.told" 3 vn vn vn (vs "readround.feasts" 377) none (vr 202) vn
def o204 : Obj := ob_tu []
def o205 : Obj := ob_fi vn []
def o206 : Obj := ob_tu [(vs "self" 442), (vs "name" 443)]
def o207 : Obj := ob_tu []
def o208 : Obj := ob_fu vn (inClass (topS 18) 3) "sort_for" "Feast.sort_for" 0 vn vn vn vn none vn vn
def o209 : Obj := ob_co [(vs "sort_for" 439), (vs "Feast.sort_for" 440), (vs "/claim/cut.py" 441), (vi 94 0), (vi 2 0), (vi 0 0), (vi 0 0), (vi 3 0), (vr 204), (.bool true), (vi 181 0), (vr 205), vn, (vr 206), (vr 207), (vr 208), (vi 444 0), (vi 94 0), (vs "/claim/cut.py" 445)]
def o210 : Obj := ob_fu (vt "function") (inClass (topS 18) 3) "sort_for" "Feast.sort_for" 3 vn vn vn (vs "readround.feasts" 377) none (vr 209) vn
def o211 : Obj := ob_tu []
def o212 : Obj := ob_fi vn []
def o213 : Obj := ob_tu [(vs "self" 450), (vs "calendar" 451), (vs "year" 452)]
def o214 : Obj := ob_tu []
def o215 : Obj := ob_fu vn (inClass (topS 18) 4) "span" "Feast.span" 0 vn vn vn vn none vn vn
def o216 : Obj := ob_co [(vs "span" 447), (vs "Feast.span" 448), (vs "/claim/cut.py" 449), (vi 97 0), (vi 3 0), (vi 0 0), (vi 0 0), (vi 3 0), (vr 211), (.bool true), (vi 181 0), (vr 212), vn, (vr 213), (vr 214), (vr 215), (vi 453 0), (vi 97 0), (vs "/claim/cut.py" 454)]
def o217 : Obj := ob_fu (vt "function") (inClass (topS 18) 4) "span" "Feast.span" 3 vn vn vn (vs "readround.feasts" 377) none (vr 216) vn
def o218 : Obj := ob_tu []
def o219 : Obj := ob_fi vn []
def o220 : Obj := ob_tu [(vs "self" 459), (vs "calendar" 460), (vs "day" 461)]
def o221 : Obj := ob_tu []
def o222 : Obj := ob_fu vn (inClass (topS 18) 5) "keeps" "Feast.keeps" 0 vn vn vn vn none vn vn
def o223 : Obj := ob_co [(vs "keeps" 456), (vs "Feast.keeps" 457), (vs "/claim/cut.py" 458), (vi 100 0), (vi 3 0), (vi 0 0), (vi 0 0), (vi 3 0), (vr 218), (.bool true), (vi 181 0), (vr 219), vn, (vr 220), (vr 221), (vr 222), (vi 462 0), (vi 100 0), (vs "/claim/cut.py" 463)]
def o224 : Obj := ob_fu (vt "function") (inClass (topS 18) 5) "keeps" "Feast.keeps" 3 vn vn vn (vs "readround.feasts" 377) none (vr 223) vn
def o225 : Obj := ob_tu []
def o226 : Obj := ob_fi vn []
def o227 : Obj := ob_tu [(vs "self" 468), (vs "calendar" 469), (vs "day" 470)]
def o228 : Obj := ob_tu []
def o229 : Obj := ob_fu vn (inClass (topS 18) 6) "next_kept" "Feast.next_kept" 0 vn vn vn vn none vn vn
def o230 : Obj := ob_co [(vs "next_kept" 465), (vs "Feast.next_kept" 466), (vs "/claim/cut.py" 467), (vi 103 0), (vi 3 0), (vi 0 0), (vi 0 0), (vi 3 0), (vr 225), (.bool true), (vi 181 0), (vr 226), vn, (vr 227), (vr 228), (vr 229), (vi 471 0), (vi 103 0), (vs "/claim/cut.py" 472)]
def o231 : Obj := ob_fu (vt "function") (inClass (topS 18) 6) "next_kept" "Feast.next_kept" 3 vn vn vn (vs "readround.feasts" 377) none (vr 230) vn
def o232 : Obj := ob_tu []
def o233 : Obj := ob_fi vn []
def o234 : Obj := ob_tu [(vs "self" 477), (vs "calendar" 478), (vs "year" 479), (vs "end" 480)]
def o235 : Obj := ob_tu []
def o236 : Obj := ob_fu vn (inClass (topS 18) 7) "kept_in" "Feast.kept_in" 0 vn vn vn vn none vn vn
def o237 : Obj := ob_co [(vs "kept_in" 474), (vs "Feast.kept_in" 475), (vs "/claim/cut.py" 476), (vi 106 0), (vi 4 0), (vi 0 0), (vi 0 0), (vi 3 0), (vr 232), (.bool true), (vi 181 0), (vr 233), vn, (vr 234), (vr 235), (vr 236), (vi 481 0), (vi 106 0), (vs "/claim/cut.py" 482)]
def o238 : Obj := ob_fu (vt "function") (inClass (topS 18) 7) "kept_in" "Feast.kept_in" 3 vn vn vn (vs "readround.feasts" 377) none (vr 237) vn
def o239 : Obj := ob_tu []
def o240 : Obj := ob_fi vn []
def o241 : Obj := ob_tu [(vs "self" 487), (vs "calendar" 488), (vs "day" 489)]
def o242 : Obj := ob_tu []
def o243 : Obj := ob_fu vn (inClass (topS 18) 8) "kept_ahead" "Feast.kept_ahead" 0 vn vn vn vn none vn vn
def o244 : Obj := ob_co [(vs "kept_ahead" 484), (vs "Feast.kept_ahead" 485), (vs "/claim/cut.py" 486), (vi 109 0), (vi 3 0), (vi 0 0), (vi 0 0), (vi 3 0), (vr 239), (.bool true), (vi 181 0), (vr 240), vn, (vr 241), (vr 242), (vr 243), (vi 490 0), (vi 109 0), (vs "/claim/cut.py" 491)]
def o245 : Obj := ob_fu (vt "function") (inClass (topS 18) 8) "kept_ahead" "Feast.kept_ahead" 3 vn vn vn (vs "readround.feasts" 377) none (vr 244) vn
def o246 : Obj := ob_tu [(vs "acts" 493), (vs "kept" 494), (vs "lasts" 495), (vs "name" 496), (vs "place" 497)]
def o247 (P : Params) : Obj := ob_di [en P "__module__" 405 (vs "readround.feasts" 377), en P "__firstlineno__" 409 (vi 74 408), en P "__init__" 422 (vr 189), en P "__eq__" 430 (vr 196), en P "told" 438 (vr 203), en P "sort_for" 446 (vr 210), en P "span" 455 (vr 217), en P "keeps" 464 (vr 224), en P "next_kept" 473 (vr 231), en P "kept_in" 483 (vr 238), en P "kept_ahead" 492 (vr 245), en P "__static_attributes__" 498 (vr 246), en P "__dict__" 500 (vr 249), en P "__weakref__" 502 (vr 250), en P "__doc__" 503 vn, en P "__hash__" 504 vn] 5
def o248 : Obj := ⟨(vt "type"), none, .cls (ClassData.mk (Str.ofString "Feast") [(vt "object")] [(vr 248), (vt "object")] 247 (Str.ofString "Feast") true [] [] false none false), #[none, none, some (vs "Feast" 398), some (vs "Feast" 406), some (vb "object.__new__"), some (.bool true)]⟩
def o249 : Obj := ob_fi (vt "getset_descriptor") [(vs "__dict__" 499), (vr 248), (vb "function.__dict__"), (vb "function.__dict__#set")]
def o250 : Obj := ob_fi (vt "getset_descriptor") [(vs "__weakref__" 501), (vr 248), (vb "ExceptionGroup.__weakref__"), vn]
def o251 : Obj := ob_fi (vt "super") [(vr 248), (vr 248), (vr 248)]
def o252 : Obj := ob_fi (vt "builtin_function_or_method") [(vb "object.__init_subclass__"), (vr 248)]
def o253 : Obj := ob_tu []
def o254 : Obj := ob_fi vn []
def o255 : Obj := ob_tu [(vs "_law_hold" 512), (vs "_law_many" 513), (vs "_law_spot" 514), (vs "_law_cell" 515), (vs "_law_mark" 516)]
def o256 : Obj := ob_tu []
def o257 : Obj := ob_fu vn (topS 20) "_law_draw" "_law_draw" 0 vn vn vn vn none vn vn
def o258 : Obj := ob_co [(vs "_law_draw" 509), (vs "_law_draw" 510), (vs "/claim/cut.py" 511), (vi 112 0), (vi 2 0), (vi 0 0), (vi 0 0), (vi 3 0), (vr 253), (.bool true), (vi 181 0), (vr 254), vn, (vr 255), (vr 256), (vr 257), (vi 517 0), (vi 112 0), (vs "/claim/cut.py" 518)]
def o259 : Obj := ob_fu (vt "function") (topS 20) "_law_draw" "_law_draw" 3 vn vn vn (vs "law_readround_k17_feasts_told" 507) none (vr 258) vn
def o260 : Obj := ob_tu []
def o261 : Obj := ob_fi vn []
def o262 : Obj := ob_tu [(vs "_law_found" 523), (vs "_law_due" 524)]
def o263 : Obj := ob_tu []
def o264 : Obj := ob_fu vn (topS 21) "_law_is" "_law_is" 0 vn vn vn vn none vn vn
def o265 : Obj := ob_co [(vs "_law_is" 520), (vs "_law_is" 521), (vs "/claim/cut.py" 522), (vi 122 0), (vi 2 0), (vi 0 0), (vi 0 0), (vi 3 0), (vr 260), (.bool true), (vi 181 0), (vr 261), vn, (vr 262), (vr 263), (vr 264), (vi 525 0), (vi 122 0), (vs "/claim/cut.py" 526)]
def o266 : Obj := ob_fu (vt "function") (topS 21) "_law_is" "_law_is" 3 vn vn vn (vs "law_readround_k17_feasts_told" 507) none (vr 265) vn
def o267 : Obj := ob_tu []
def o268 : Obj := ob_fi vn []
def o269 : Obj := ob_fu vn (topS 22) "_law_row_is" "_law_row_is" 0 vn vn vn vn none vn vn
def o270 : Obj := ob_co [(vs "_law_row_is" 528), (vs "_law_row_is" 529), (vs "/claim/cut.py" 530), (vi 124 0), (vi 2 0), (vi 0 0), (vi 0 0), (vi 3 0), (vr 267), (.bool true), (vi 181 0), (vr 268), vn, vn, vn, (vr 269), (vi 531 0), (vi 124 0), (vs "/claim/cut.py" 532)]
def o271 : Obj := ob_fu (vt "function") (topS 22) "_law_row_is" "_law_row_is" 3 vn vn vn (vs "law_readround_k17_feasts_told" 507) none (vr 270) vn
def o272 : Obj := ob_tu []
def o273 : Obj := ob_fi vn []
def o274 : Obj := ob_tu [(vs "_law_found" 537), (vs "_law_due" 538)]
def o275 : Obj := ob_tu []
def o276 : Obj := ob_fu vn (topS 23) "_law_told_is" "_law_told_is" 0 vn vn vn vn none vn vn
def o277 : Obj := ob_co [(vs "_law_told_is" 534), (vs "_law_told_is" 535), (vs "/claim/cut.py" 536), (vi 130 0), (vi 2 0), (vi 0 0), (vi 0 0), (vi 3 0), (vr 272), (.bool true), (vi 181 0), (vr 273), vn, (vr 274), (vr 275), (vr 276), (vi 539 0), (vi 130 0), (vs "/claim/cut.py" 540)]
def o278 : Obj := ob_fu (vt "function") (topS 23) "_law_told_is" "_law_told_is" 3 vn vn vn (vs "law_readround_k17_feasts_told" 507) none (vr 277) vn
def o279 : Obj := ob_tu []
def o280 : Obj := ob_fi vn []
def o281 : Obj := ob_fu vn (topS 24) "_law_name" "_law_name" 0 vn vn vn vn none vn vn
def o282 : Obj := ob_co [(vs "_law_name" 542), (vs "_law_name" 543), (vs "/claim/cut.py" 544), (vi 138 0), (vi 1 0), (vi 0 0), (vi 0 0), (vi 3 0), (vr 279), (.bool true), (vi 181 0), (vr 280), vn, vn, vn, (vr 281), (vi 545 0), (vi 138 0), (vs "/claim/cut.py" 546)]
def o283 : Obj := ob_fu (vt "function") (topS 24) "_law_name" "_law_name" 3 vn vn vn (vs "law_readround_k17_feasts_told" 507) none (vr 282) vn
def o284 : Obj := ob_tu []
def o285 : Obj := ob_fi vn []
def o286 : Obj := ob_fu vn (topS 25) "_law_kept" "_law_kept" 0 vn vn vn vn none vn vn
def o287 : Obj := ob_co [(vs "_law_kept" 548), (vs "_law_kept" 549), (vs "/claim/cut.py" 550), (vi 145 0), (vi 1 0), (vi 0 0), (vi 0 0), (vi 3 0), (vr 284), (.bool true), (vi 181 0), (vr 285), vn, vn, vn, (vr 286), (vi 551 0), (vi 145 0), (vs "/claim/cut.py" 552)]
def o288 : Obj := ob_fu (vt "function") (topS 25) "_law_kept" "_law_kept" 3 vn vn vn (vs "law_readround_k17_feasts_told" 507) none (vr 287) vn
def o289 : Obj := ob_tu []
def o290 : Obj := ob_fi vn []
def o291 : Obj := ob_fu vn (topS 26) "_law_acts" "_law_acts" 0 vn vn vn vn none vn vn
def o292 : Obj := ob_co [(vs "_law_acts" 554), (vs "_law_acts" 555), (vs "/claim/cut.py" 556), (vi 153 0), (vi 1 0), (vi 0 0), (vi 0 0), (vi 3 0), (vr 289), (.bool true), (vi 181 0), (vr 290), vn, vn, vn, (vr 291), (vi 557 0), (vi 153 0), (vs "/claim/cut.py" 558)]
def o293 : Obj := ob_fu (vt "function") (topS 26) "_law_acts" "_law_acts" 3 vn vn vn (vs "law_readround_k17_feasts_told" 507) none (vr 292) vn
def o294 : Obj := ob_tu []
def o295 : Obj := ob_fi vn []
def o296 : Obj := ob_tu [(vs "_law_hold" 563), (vs "_law_way" 564), (vs "_law_far" 565), (vs "_law_near" 566), (vs "_law_spot" 567), (vs "_law_lasts" 568)]
def o297 : Obj := ob_tu []
def o298 : Obj := ob_fu vn (topS 27) "_law_feast" "_law_feast" 0 vn vn vn vn none vn vn
def o299 : Obj := ob_co [(vs "_law_feast" 560), (vs "_law_feast" 561), (vs "/claim/cut.py" 562), (vi 160 0), (vi 1 0), (vi 0 0), (vi 0 0), (vi 3 0), (vr 294), (.bool true), (vi 181 0), (vr 295), vn, (vr 296), (vr 297), (vr 298), (vi 569 0), (vi 160 0), (vs "/claim/cut.py" 570)]
def o300 : Obj := ob_fu (vt "function") (topS 27) "_law_feast" "_law_feast" 3 vn vn vn (vs "law_readround_k17_feasts_told" 507) none (vr 299) vn
def o301 : Obj := ob_tu []
def o302 : Obj := ob_fi vn []
def o303 : Obj := ob_tu [(vs "_law_some" 575), (vs "_law_way" 576), (vs "_law_word" 577), (vs "_law_spot" 578), (vs "_law_lasts" 579), (vs "_law_kept_here" 580), (vs "_law_acts_here" 581)]
def o304 : Obj := ob_tu []
def o305 : Obj := ob_fu vn (topS 28) "_law_made" "_law_made" 0 vn vn vn vn none vn vn
def o306 : Obj := ob_co [(vs "_law_made" 572), (vs "_law_made" 573), (vs "/claim/cut.py" 574), (vi 166 0), (vi 2 0), (vi 0 0), (vi 0 0), (vi 3 0), (vr 301), (.bool true), (vi 181 0), (vr 302), vn, (vr 303), (vr 304), (vr 305), (vi 582 0), (vi 166 0), (vs "/claim/cut.py" 583)]
def o307 : Obj := ob_fu (vt "function") (topS 28) "_law_made" "_law_made" 3 vn vn vn (vs "law_readround_k17_feasts_told" 507) none (vr 306) vn
def o308 : Obj := ob_tu []
def o309 : Obj := ob_fi vn []
def o310 : Obj := ob_tu [(vs "_law_some" 588), (vs "_law_hold" 589), (vs "_law_way" 590)]
def o311 : Obj := ob_tu []
def o312 : Obj := ob_fu vn (topS 29) "_law_spoil" "_law_spoil" 0 vn vn vn vn none vn vn
def o313 : Obj := ob_co [(vs "_law_spoil" 585), (vs "_law_spoil" 586), (vs "/claim/cut.py" 587), (vi 185 0), (vi 2 0), (vi 0 0), (vi 0 0), (vi 3 0), (vr 308), (.bool true), (vi 181 0), (vr 309), vn, (vr 310), (vr 311), (vr 312), (vi 591 0), (vi 185 0), (vs "/claim/cut.py" 592)]
def o314 : Obj := ob_fu (vt "function") (topS 29) "_law_spoil" "_law_spoil" 3 vn vn vn (vs "law_readround_k17_feasts_told" 507) none (vr 313) vn
def o315 : Obj := ob_tu []
def o316 : Obj := ob_fi vn []
def o317 : Obj := ob_tu [(vs "_law_feast_here" 597), (vs "_law_due" 598), (vs "_law_hold" 599), (vs "_law_way" 600), (vs "_law_other" 601), (vs "_law_twin" 602), (vs "_law_same" 603), (vs "_law_unlike" 604)]
def o318 : Obj := ob_tu []
def o319 : Obj := ob_fu vn (topS 30) "_law_equal_right" "_law_equal_right" 0 vn vn vn vn none vn vn
def o320 : Obj := ob_co [(vs "_law_equal_right" 594), (vs "_law_equal_right" 595), (vs "/claim/cut.py" 596), (vi 195 0), (vi 3 0), (vi 0 0), (vi 0 0), (vi 3 0), (vr 315), (.bool true), (vi 181 0), (vr 316), vn, (vr 317), (vr 318), (vr 319), (vi 605 0), (vi 195 0), (vs "/claim/cut.py" 606)]
def o321 : Obj := ob_fu (vt "function") (topS 30) "_law_equal_right" "_law_equal_right" 3 vn vn vn (vs "law_readround_k17_feasts_told" 507) none (vr 320) vn
def o322 : Obj := ob_tu []
def o323 : Obj := ob_fi vn []
def o324 : Obj := ob_tu [(vs "_law_script" 611), (vs "_law_hold" 612), (vs "_law_k" 613), (vs "_law_some" 614), (vs "_law_feast_here" 615), (vs "_law_due" 616), (vs "_law_turn" 617), (vs "_law_told" 618)]
def o325 : Obj := ob_tu []
def o326 : Obj := ob_fu vn (topS 31) "law" "law" 0 vn vn vn vn none vn vn
def o327 : Obj := ob_co [(vs "law" 608), (vs "law" 609), (vs "/claim/cut.py" 610), (vi 210 0), (vi 1 0), (vi 0 0), (vi 0 0), (vi 3 0), (vr 322), (.bool true), (vi 181 0), (vr 323), vn, (vr 324), (vr 325), (vr 326), (vi 619 0), (vi 210 0), (vs "/claim/cut.py" 620)]
def o328 : Obj := ob_fu (vt "function") (topS 31) "law" "law" 3 vn vn vn (vs "law_readround_k17_feasts_told" 507) none (vr 327) vn
def TB (P : Params) : BT := (bn (boot_o_0 P) (bn (boot_o_1 P) (bn (boot_o_3 P) (bn (boot_o_7 P) bz bz) bz) (bn (boot_o_5 P) (bn (boot_o_9 P) bz bz) bz)) (bn (boot_o_2 P) (bn (boot_o_4 P) (bn (boot_o_8 P) bz bz) bz) (bn (boot_o_6 P) (bn (boot_o_10 P) bz bz) bz)))
def T0 (P : Params) : BT := (bn (boot_o_0 P) (bn (boot_o_1 P) (bn (boot_o_3 P) (bn (boot_o_7 P) bz bz) (bn o11 bz bz)) (bn (boot_o_5 P) (bn (boot_o_9 P) bz bz) (bn o13 bz bz))) (bn (boot_o_2 P) (bn (boot_o_4 P) (bn (boot_o_8 P) bz bz) (bn o12 bz bz)) (bn (boot_o_6 P) (bn (boot_o_10 P) bz bz) (bn o14 bz bz))))
abbrev T1 : Params → BT := T0
def T2 (P : Params) : BT := (bn (boot_o_0 P) (bn (boot_o_1 P) (bn (o3 P) (bn (boot_o_7 P) (bn o15 (bn o31 (bn o63 (bn o127 bz bz) bz) (bn o95 (bn o159 bz bz) bz)) (bn o47 (bn o79 (bn o143 bz bz) bz) (bn o111 bz bz))) (bn o23 (bn o39 (bn o71 (bn o135 bz bz) bz) (bn o103 (bn o167 bz bz) bz)) (bn (o55 P) (bn o87 (bn o151 bz bz) bz) (bn o119 bz bz)))) (bn o11 (bn o19 (bn o35 (bn (o67 P) (bn o131 bz bz) bz) (bn o99 (bn o163 bz bz) bz)) (bn o51 (bn o83 (bn o147 bz bz) bz) (bn o115 bz bz))) (bn o27 (bn (o43 P) (bn o75 (bn o139 bz bz) bz) (bn o107 (bn o171 bz bz) bz)) (bn o59 (bn o91 (bn o155 bz bz) bz) (bn o123 bz bz))))) (bn (boot_o_5 P) (bn (boot_o_9 P) (bn o17 (bn o33 (bn o65 (bn o129 bz bz) bz) (bn (o97 P) (bn o161 bz bz) bz)) (bn (o49 P) (bn o81 (bn o145 bz bz) bz) (bn o113 bz bz))) (bn o25 (bn o41 (bn o73 (bn o137 bz bz) bz) (bn o105 (bn o169 bz bz) bz)) (bn o57 (bn o89 (bn o153 bz bz) bz) (bn o121 bz bz)))) (bn o13 (bn o21 (bn (o37 P) (bn o69 (bn o133 bz bz) bz) (bn o101 (bn o165 bz bz) bz)) (bn o53 (bn o85 (bn o149 bz bz) bz) (bn o117 bz bz))) (bn o29 (bn o45 (bn o77 (bn o141 bz bz) bz) (bn o109 (bn o173 bz bz) bz)) (bn (o61 P) (bn o93 (bn o157 bz bz) bz) (bn o125 bz bz)))))) (bn (boot_o_2 P) (bn (boot_o_4 P) (bn (boot_o_8 P) (bn o16 (bn o32 (bn o64 (bn o128 bz bz) bz) (bn o96 (bn o160 bz bz) bz)) (bn o48 (bn o80 (bn o144 bz bz) bz) (bn o112 bz bz))) (bn (o24 P) (bn o40 (bn o72 (bn o136 bz bz) bz) (bn o104 (bn o168 bz bz) bz)) (bn o56 (bn o88 (bn (o152 P) bz bz) bz) (bn o120 bz bz)))) (bn o12_1 (bn o20 (bn o36 (bn o68 (bn o132 bz bz) bz) (bn o100 (bn o164 bz bz) bz)) (bn o52 (bn o84 (bn o148 bz bz) bz) (bn o116 bz bz))) (bn o28 (bn o44 (bn o76 (bn o140 bz bz) bz) (bn o108 (bn o172 bz bz) bz)) (bn o60 (bn o92 (bn o156 bz bz) bz) (bn o124 bz bz))))) (bn (boot_o_6 P) (bn (boot_o_10 P) (bn o18 (bn o34 (bn o66 (bn o130 bz bz) bz) (bn o98 (bn o162 bz bz) bz)) (bn o50 (bn o82 (bn o146 bz bz) bz) (bn o114 bz bz))) (bn o26 (bn o42 (bn o74 (bn o138 bz bz) bz) (bn o106 (bn o170 bz bz) bz)) (bn o58 (bn o90 (bn o154 bz bz) bz) (bn o122 bz bz)))) (bn o14 (bn o22 (bn o38 (bn o70 (bn o134 bz bz) bz) (bn o102 (bn o166 bz bz) bz)) (bn o54 (bn o86 (bn o150 bz bz) bz) (bn o118 bz bz))) (bn (o30 P) (bn o46 (bn o78 (bn o142 bz bz) bz) (bn o110 (bn o174 bz bz) bz)) (bn o62 (bn o94 (bn o158 bz bz) bz) (bn o126 bz bz)))))))
def T3 (P : Params) : BT := (bn (boot_o_0 P) (bn (boot_o_1 P) (bn (o3_1 P) (bn (boot_o_7 P) (bn o15 (bn o31 (bn o63 (bn o127 (bn o255 bz bz) bz) (bn o191 (bn o319 bz bz) bz)) (bn o95 (bn o159 (bn o287 bz bz) bz) (bn o223 bz bz))) (bn o47 (bn o79 (bn o143 (bn o271 bz bz) bz) (bn o207 bz bz)) (bn o111 (bn o175 (bn o303 bz bz) bz) (bn o239 bz bz)))) (bn o23 (bn o39 (bn o71 (bn o135 (bn o263 bz bz) bz) (bn o199 (bn o327 bz bz) bz)) (bn o103 (bn o167 (bn o295 bz bz) bz) (bn o231 bz bz))) (bn (o55 P) (bn o87 (bn o151 (bn o279 bz bz) bz) (bn o215 bz bz)) (bn o119 (bn o183 (bn o311 bz bz) bz) (bn (o247 P) bz bz))))) (bn o11 (bn o19 (bn o35 (bn (o67 P) (bn o131 (bn o259 bz bz) bz) (bn o195 (bn o323 bz bz) bz)) (bn o99 (bn o163 (bn o291 bz bz) bz) (bn o227 bz bz))) (bn o51 (bn o83 (bn o147 (bn o275 bz bz) bz) (bn o211 bz bz)) (bn o115 (bn o179 (bn o307 bz bz) bz) (bn o243 bz bz)))) (bn o27 (bn (o43 P) (bn o75 (bn o139 (bn o267 bz bz) bz) (bn o203 bz bz)) (bn o107 (bn o171 (bn o299 bz bz) bz) (bn o235 bz bz))) (bn o59 (bn o91 (bn o155 (bn o283 bz bz) bz) (bn o219 bz bz)) (bn o123 (bn o187 (bn o315 bz bz) bz) (bn o251 bz bz)))))) (bn (boot_o_5 P) (bn (boot_o_9 P) (bn o17 (bn o33 (bn o65 (bn o129 (bn o257 bz bz) bz) (bn o193 (bn o321 bz bz) bz)) (bn (o97 P) (bn o161 (bn o289 bz bz) bz) (bn o225 bz bz))) (bn (o49 P) (bn o81 (bn o145 (bn o273 bz bz) bz) (bn o209 bz bz)) (bn o113 (bn (o177 P) (bn o305 bz bz) bz) (bn o241 bz bz)))) (bn o25 (bn o41 (bn o73 (bn o137 (bn o265 bz bz) bz) (bn o201 bz bz)) (bn o105 (bn o169 (bn o297 bz bz) bz) (bn o233 bz bz))) (bn o57 (bn o89 (bn o153 (bn o281 bz bz) bz) (bn o217 bz bz)) (bn o121 (bn o185 (bn o313 bz bz) bz) (bn o249 bz bz))))) (bn o13 (bn o21 (bn (o37 P) (bn o69 (bn o133 (bn o261 bz bz) bz) (bn o197 (bn o325 bz bz) bz)) (bn o101 (bn o165 (bn o293 bz bz) bz) (bn o229 bz bz))) (bn o53 (bn o85 (bn o149 (bn o277 bz bz) bz) (bn o213 bz bz)) (bn o117 (bn o181 (bn o309 bz bz) bz) (bn o245 bz bz)))) (bn o29 (bn o45 (bn o77 (bn o141 (bn o269 bz bz) bz) (bn o205 bz bz)) (bn o109 (bn o173 (bn o301 bz bz) bz) (bn o237 bz bz))) (bn (o61 P) (bn o93 (bn o157 (bn o285 bz bz) bz) (bn o221 bz bz)) (bn o125 (bn o189 (bn o317 bz bz) bz) (bn o253 bz bz))))))) (bn (boot_o_2 P) (bn (boot_o_4 P) (bn (boot_o_8 P) (bn o16 (bn o32 (bn o64 (bn o128 (bn o256 bz bz) bz) (bn o192 (bn o320 bz bz) bz)) (bn o96 (bn o160 (bn o288 bz bz) bz) (bn o224 bz bz))) (bn o48 (bn o80 (bn o144 (bn o272 bz bz) bz) (bn o208 bz bz)) (bn o112 (bn o176 (bn o304 bz bz) bz) (bn o240 bz bz)))) (bn (o24 P) (bn o40 (bn o72 (bn o136 (bn o264 bz bz) bz) (bn o200 (bn o328 bz bz) bz)) (bn o104 (bn o168 (bn o296 bz bz) bz) (bn o232 bz bz))) (bn o56 (bn o88 (bn (o152 P) (bn o280 bz bz) bz) (bn o216 bz bz)) (bn o120 (bn o184 (bn o312 bz bz) bz) (bn o248 bz bz))))) (bn o12_2 (bn o20 (bn o36 (bn o68 (bn o132 (bn o260 bz bz) bz) (bn o196 (bn o324 bz bz) bz)) (bn o100 (bn o164 (bn o292 bz bz) bz) (bn o228 bz bz))) (bn o52 (bn o84 (bn o148 (bn o276 bz bz) bz) (bn o212 bz bz)) (bn o116 (bn o180 (bn o308 bz bz) bz) (bn o244 bz bz)))) (bn o28 (bn o44 (bn o76 (bn o140 (bn o268 bz bz) bz) (bn o204 bz bz)) (bn o108 (bn o172 (bn o300 bz bz) bz) (bn o236 bz bz))) (bn o60 (bn o92 (bn o156 (bn o284 bz bz) bz) (bn o220 bz bz)) (bn o124 (bn o188 (bn o316 bz bz) bz) (bn o252 bz bz)))))) (bn (boot_o_6 P) (bn (boot_o_10 P) (bn o18 (bn o34 (bn o66 (bn o130 (bn o258 bz bz) bz) (bn o194 (bn o322 bz bz) bz)) (bn o98 (bn o162 (bn o290 bz bz) bz) (bn o226 bz bz))) (bn o50 (bn o82 (bn o146 (bn o274 bz bz) bz) (bn o210 bz bz)) (bn o114 (bn o178 (bn o306 bz bz) bz) (bn o242 bz bz)))) (bn o26 (bn o42 (bn o74 (bn o138 (bn o266 bz bz) bz) (bn o202 bz bz)) (bn o106 (bn o170 (bn o298 bz bz) bz) (bn o234 bz bz))) (bn o58 (bn o90 (bn o154 (bn o282 bz bz) bz) (bn o218 bz bz)) (bn o122 (bn o186 (bn o314 bz bz) bz) (bn o250 bz bz))))) (bn o14 (bn o22 (bn o38 (bn o70 (bn o134 (bn o262 bz bz) bz) (bn o198 (bn o326 bz bz) bz)) (bn o102 (bn o166 (bn o294 bz bz) bz) (bn o230 bz bz))) (bn o54 (bn o86 (bn o150 (bn o278 bz bz) bz) (bn o214 bz bz)) (bn o118 (bn o182 (bn o310 bz bz) bz) (bn o246 bz bz)))) (bn (o30 P) (bn o46 (bn o78 (bn o142 (bn o270 bz bz) bz) (bn o206 bz bz)) (bn o110 (bn o174 (bn o302 bz bz) bz) (bn o238 bz bz))) (bn o62 (bn o94 (bn o158 (bn o286 bz bz) bz) (bn o222 bz bz)) (bn o126 (bn o190 (bn o318 bz bz) bz) (bn o254 bz bz))))))))
noncomputable abbrev S0 (w : World) (os : OsState) : SharedT := stA' T0 15 187 w os
noncomputable abbrev S1 (w : World) (os : OsState) : SharedT := stA' T1 15 187 w os
noncomputable abbrev S2 (w : World) (os : OsState) : SharedT := stA' T2 175 398 w os
noncomputable abbrev S3 (w : World) (os : OsState) : SharedT := stA' T3 329 622 w os
theorem cpB (w : World) : putAll (boot_heap w.params).objs.toList .nil 0 = some (TB w.params, 11) := by kernel_rfl
theorem cpP (w : World) (os : OsState) : stepsF (stQ R.prog w) 11 (bootAnn w) 12 (bootT w os (TB w.params, 11)) (topStub R.prog) = some (S0 w os, ⟨denQ tabQ (cdOf R.prog env0), cdOf R.prog env0, ⟨0, 0, 0, 0⟩, [topFrame ⟨0, 0, 0, 0⟩]⟩) := by kernel_rfl
theorem cpK (w : World) (os : OsState) : pieceF (stQ R.prog w) 11 (bootAnn w) 1 1 (S0 w os) (blockOf (behindTheImports R.prog) env0 (cdOf R.prog env0) ⟨0, 0, 0, 0⟩ [topFrame ⟨0, 0, 0, 0⟩]) = some (.next, S1 w os, cdOf R.prog env0, ⟨0, 0, 0, 0⟩) := by kernel_rfl
set_option maxHeartbeats 0 in
theorem cp1 (w : World) (os : OsState) : pieceF (stQ R.prog w) 11 (bootAnn w) 1 1516 (S1 w os) (piecesOf (((behindTheImports R.prog).drop 0).take 18) env0 (cdOf R.prog env0) ⟨0, 0, 0, 0⟩ [topFrame ⟨0, 0, 0, 0⟩]) = some (.next, S2 w os, cdOf R.prog env0, ⟨68, 0, 73, 63⟩) := by kernel_rfl
set_option maxHeartbeats 0 in
theorem cp2 (w : World) (os : OsState) : pieceF (stQ R.prog w) 11 (bootAnn w) 1 879 (S2 w os) (piecesOf (((behindTheImports R.prog).drop 18).take 14) env0 (cdOf R.prog env0) ⟨68, 0, 73, 63⟩ [topFrame ⟨0, 0, 0, 0⟩]) = some (.next, S3 w os, cdOf R.prog env0, ⟨210, 0, 226, 15⟩) := by kernel_rfl
theorem cpL (w : World) (os : OsState) : goF (stQ R.prog w) 11 (bootAnn w) 5 (S3 w os) ⟨doneF .next, cdOf R.prog env0, ⟨210, 0, 226, 15⟩, [topFrame ⟨0, 0, 0, 0⟩]⟩ = some (S3 w os) := by kernel_rfl
noncomputable abbrev SE (w : World) (os : OsState) : SharedT := S3 w os
set_option maxHeartbeats 0 in
theorem cpTop (w : World) (os : OsState) : topRun treeTable R.prog w (boot_heap w.params).objs.size (bootAnn w) 100000 ⟨boot_heap w.params, #[], boot_drawn, boot_toks, os⟩ (topStub R.prog) = some (SE w os).abs :=
  cp_mono (N := 2413) rfl (cp_boot (cpB w) (cp_pre (cpP w os) (cp_block (cpK w os) (cp_piece (cp1 w os) (cp_piece (cp2 w os) (cp_last (by kernel_rfl) (cpL w os)))))))
end
abbrev s_law_draw : Stmt := topS 20
abbrev s_law_name : Stmt := topS 24
abbrev s_fo_acts : Stmt := topS 26
abbrev s_fo_kept : Stmt := topS 25
abbrev s_fo_feast : Stmt := topS 27
abbrev s_is_name : Stmt := topS 9
abbrev s_is_number : Stmt := topS 8
abbrev s_are_numbers : Stmt := topS 10
abbrev s_good_years : Stmt := topS 15
abbrev s_is_put : Stmt := topS 16
abbrev s_good_puts : Stmt := topS 17
abbrev s_Feast_init : Stmt := inClass (topS 18) 0
abbrev s_fo_made : Stmt := topS 28
abbrev s_Feast_told : Stmt := inClass (topS 18) 2
abbrev s_law_is : Stmt := topS 21
abbrev s_law_row_is : Stmt := topS 22
abbrev s_fo_told_is : Stmt := topS 23
abbrev s_Feast_eq : Stmt := inClass (topS 18) 1
abbrev s_Calendar_eq : Stmt := inClass (topS 13) 1
abbrev s_Calendar_init : Stmt := inClass (topS 13) 0
abbrev s_fo_equal_right : Stmt := topS 30
abbrev s_fo_spoil : Stmt := topS 29
abbrev s_law : Stmt := topS 31
def dd_law_draw : He.DefD := ⟨("_law_draw", none), "_law_draw", "_law_draw", defArgs s_law_draw, defBody s_law_draw, defScope s_law_draw, [], []⟩
def dd_law_name : He.DefD := ⟨("_law_name", none), "_law_name", "_law_name", defArgs s_law_name, defBody s_law_name, defScope s_law_name, [], []⟩
def dd_fo_acts : He.DefD := ⟨("_law_acts", none), "_law_acts", "_law_acts", defArgs s_fo_acts, defBody s_fo_acts, defScope s_fo_acts, [], []⟩
def dd_fo_kept : He.DefD := ⟨("_law_kept", none), "_law_kept", "_law_kept", defArgs s_fo_kept, defBody s_fo_kept, defScope s_fo_kept, [], []⟩
def dd_fo_feast : He.DefD := ⟨("_law_feast", none), "_law_feast", "_law_feast", defArgs s_fo_feast, defBody s_fo_feast, defScope s_fo_feast, [], []⟩
def dd_is_name : He.DefD := ⟨("is_name", none), "is_name", "is_name", defArgs s_is_name, defBody s_is_name, defScope s_is_name, [], []⟩
def dd_is_number : He.DefD := ⟨("is_number", none), "is_number", "is_number", defArgs s_is_number, defBody s_is_number, defScope s_is_number, [], []⟩
def dd_are_numbers : He.DefD := ⟨("are_numbers", none), "are_numbers", "are_numbers", defArgs s_are_numbers, defBody s_are_numbers, defScope s_are_numbers, [], []⟩
def dd_good_years : He.DefD := ⟨("good_years", none), "good_years", "good_years", defArgs s_good_years, defBody s_good_years, defScope s_good_years, [], []⟩
def dd_is_put : He.DefD := ⟨("is_put", none), "is_put", "is_put", defArgs s_is_put, defBody s_is_put, defScope s_is_put, [], []⟩
def dd_good_puts : He.DefD := ⟨("good_puts", none), "good_puts", "good_puts", defArgs s_good_puts, defBody s_good_puts, defScope s_good_puts, [], []⟩
def dd_Feast_init : He.DefD := ⟨("Feast", some "__init__"), "__init__", "Feast.__init__", defArgs s_Feast_init, defBody s_Feast_init, defScope s_Feast_init, [.int (1), .non, .non], []⟩
def dd_fo_made : He.DefD := ⟨("_law_made", none), "_law_made", "_law_made", defArgs s_fo_made, defBody s_fo_made, defScope s_fo_made, [], []⟩
def dd_Feast_told : He.DefD := ⟨("Feast", some "told"), "told", "Feast.told", defArgs s_Feast_told, defBody s_Feast_told, defScope s_Feast_told, [], []⟩
def dd_law_is : He.DefD := ⟨("_law_is", none), "_law_is", "_law_is", defArgs s_law_is, defBody s_law_is, defScope s_law_is, [], []⟩
def dd_law_row_is : He.DefD := ⟨("_law_row_is", none), "_law_row_is", "_law_row_is", defArgs s_law_row_is, defBody s_law_row_is, defScope s_law_row_is, [], []⟩
def dd_fo_told_is : He.DefD := ⟨("_law_told_is", none), "_law_told_is", "_law_told_is", defArgs s_fo_told_is, defBody s_fo_told_is, defScope s_fo_told_is, [], []⟩
def dd_Feast_eq : He.DefD := ⟨("Feast", some "__eq__"), "__eq__", "Feast.__eq__", defArgs s_Feast_eq, defBody s_Feast_eq, defScope s_Feast_eq, [], []⟩
def dd_Calendar_eq : He.DefD := ⟨("Calendar", some "__eq__"), "__eq__", "Calendar.__eq__", defArgs s_Calendar_eq, defBody s_Calendar_eq, defScope s_Calendar_eq, [], []⟩
def dd_Calendar_init : He.DefD := ⟨("Calendar", some "__init__"), "__init__", "Calendar.__init__", defArgs s_Calendar_init, defBody s_Calendar_init, defScope s_Calendar_init, [], []⟩
def dd_fo_equal_right : He.DefD := ⟨("_law_equal_right", none), "_law_equal_right", "_law_equal_right", defArgs s_fo_equal_right, defBody s_fo_equal_right, defScope s_fo_equal_right, [], []⟩
def dd_fo_spoil : He.DefD := ⟨("_law_spoil", none), "_law_spoil", "_law_spoil", defArgs s_fo_spoil, defBody s_fo_spoil, defScope s_fo_spoil, [], []⟩
def dd_law : He.DefD := ⟨("law", none), "law", "law", defArgs s_law, defBody s_law, defScope s_law, [], []⟩
def fns : List He.DefD := [dd_law_draw, dd_law_name, dd_fo_acts, dd_fo_kept, dd_fo_feast, dd_is_name, dd_is_number, dd_are_numbers, dd_good_years, dd_is_put, dd_good_puts, dd_Feast_init, dd_fo_made, dd_Feast_told, dd_law_is, dd_law_row_is, dd_fo_told_is, dd_Feast_eq, dd_Calendar_eq, dd_Calendar_init, dd_fo_equal_right, dd_fo_spoil, dd_law]
def fas : List He.Fa := [.free "len", .glo "_law_draw", .free "range", .glo "_law_name", .free "list", .glo "_law_acts", .glo "_law_kept", .free "str", .free "isinstance", .str "LETTERS" "abcdefghijklmnopqrstuvwxyz", .free "all", .free "int", .free "bool", .glo "is_number", .glo "are_numbers", .glo "is_name", .free "tuple", .glo "is_put", .free "set", .glo "good_years", .glo "good_puts", .exc "BadFeast", .glo "BadFeast", .cls "Feast", .noat "Feast" "name", .noat "Feast" "place", .noat "Feast" "lasts", .noat "Feast" "kept", .noat "Feast" "acts", .mkr "Feast", .glo "Feast", .glo "_law_is", .glo "_law_row_is", .meth "Feast" "told", .glo "Calendar", .cls "Calendar", .noat "Calendar" "lengths", .noat "Calendar" "begins", .noat "Calendar" "whole", .exc "BadCalendar", .glo "BadCalendar", .glo "_law_feast", .mkr "Calendar", .meth "Feast" "__eq__", .meth "Calendar" "__eq__", .glo "_law_made", .glo "_law_told_is", .glo "_law_equal_right", .glo "_law_spoil", .free "min", .free "max", .glo "law"]
def loose : List PySem.Str := (["_wall", "ReadError", "BadCalendar", "BadFeast", "NoDay", "LETTERS", "is_number", "is_name", "are_numbers", "need_day", "Calendar", "good_years", "is_put", "good_puts", "Feast", "_law_draw", "_law_is", "_law_row_is", "_law_told_is", "_law_name", "_law_kept", "_law_acts", "_law_feast", "_law_made", "_law_spoil", "_law_equal_right"] : List PySem.Str)
def adrs : List Addr := [3, 6, 4, 21, 31, 44, 56, 68, 77, 82, 87, 94, 153, 162, 169, 174, 248, 259, 266, 271, 278, 283, 288, 293, 300, 307, 314, 321, 328, 0, 20, 30, 43, 55, 67, 76, 81, 86, 93, 152, 161, 168, 173, 247, 258, 265, 270, 277, 282, 287, 292, 299, 306, 313, 320, 327, 15, 16, 17, 18, 19, 29, 32, 42, 54, 66, 71, 72, 73, 74, 75, 78, 79, 80, 83, 84, 85, 88, 89, 90, 91, 92, 108, 115, 122, 129, 136, 143, 150, 151, 154, 155, 158, 159, 160, 163, 164, 165, 166, 167, 170, 171, 172, 189, 196, 203, 210, 217, 224, 231, 238, 245, 246, 249, 250, 253, 254, 255, 256, 257, 260, 261, 262, 263, 264, 267, 268, 269, 272, 273, 274, 275, 276, 279, 280, 281, 284, 285, 286, 289, 290, 291, 294, 295, 296, 297, 298, 301, 302, 303, 304, 305, 308, 309, 310, 311, 312, 315, 316, 317, 318, 319, 322, 323, 324, 325, 326, 107, 114, 121, 128, 135, 142, 149, 188, 182, 195, 202, 209, 216, 223, 230, 237, 244, 102, 103, 104, 105, 106, 109, 110, 111, 112, 113, 116, 117, 118, 119, 120, 123, 124, 125, 126, 127, 130, 131, 132, 133, 134, 137, 138, 139, 140, 141, 144, 145, 146, 147, 148, 183, 184, 185, 186, 187, 190, 191, 192, 193, 194, 197, 198, 199, 200, 201, 204, 205, 206, 207, 208, 211, 212, 213, 214, 215, 218, 219, 220, 221, 222, 225, 226, 227, 228, 229, 232, 233, 234, 235, 236, 239, 240, 241, 242, 243, 2]
def exs : List (PySem.W.Frag → Bool) := [keqB "Feast", keqB "Calendar", neB "Feast", neB "Calendar", kneB "Feast" "Calendar", kneB "Calendar" "Feast"]
abbrev hk : PySem.W.Hook := hookL adrs fas fns exs
def ob (s : PySem.W.SharedT) : AlX := obsLG adrs fas fns exs (HandSHeadRun.getT s)
theorem ob_eq (s : PySem.W.SharedT) : ob s = hk.obs s.abs := obsLG_eq (HandSHeadRun.getT_eq s)
set_option maxHeartbeats 0 in
open PySem.W PySem.Calls HandSHeadRun in
theorem look1 (w : World) (os : OsState) : HandSHeadRun.looksF R.prog (PySem.W.boot_heap w.params) (SE w os).abs = true := by kernel_rfl
set_option maxHeartbeats 0 in
open PySem.W PySem.Calls HandSHeadRun in
theorem look2 (w : World) (os : OsState) : HandSHeadRun.seenQ (PySem.W.view R.prog [31]) loose (importedModules R.prog.main.body) (fun s => PySem.W.xlAt (PySem.W.view R.prog [31]) [] s && PySem.W.recOk R.toRowW.records s) (SE w os).abs = PySem.W.openGood (PySem.W.view R.prog [31]) loose := by kernel_rfl
set_option maxHeartbeats 0 in
open PySem.W PySem.Calls HandSHeadRun in
theorem look3 (w : World) (os : OsState) : ob (SE w os) = hk.val w := by kernel_rfl
open PySem.W PySem.Calls HandSHeadRun in
theorem topEnd (w : World) (os : OsState) : ∃ s, TopEnd R (PySem.W.view R.prog [31]) loose hk ob 100000 w os s := ⟨SE w os, cpTop w os, look1 w os, look2 w os, look3 w os⟩
end Dl
section
open PySem PySem.W PySem.Calls PyProof.Rows
set_option maxRecDepth 100000
set_option maxHeartbeats 0
theorem Dl.law_name : (HandSHeadRun.topDef (OpenLaw.row PySem.Challenge.rw_readround_k17_feasts_told).prog 31).name = ("law" : PySem.Str) := by kernel_rfl
theorem Dl.law_dflt : (HandSHeadRun.topDef (OpenLaw.row PySem.Challenge.rw_readround_k17_feasts_told).prog 31).params.defaults = [] := by kernel_rfl
theorem Dl.lawOf (hc : WalkO (view (OpenLaw.row PySem.Challenge.rw_readround_k17_feasts_told).prog [31]) Dl.loose (XL (view (OpenLaw.row PySem.Challenge.rw_readround_k17_feasts_told).prog [31]) []) Dl.hk.says (OpenLaw.row PySem.Challenge.rw_readround_k17_feasts_told).toRowW (HandSHeadRun.topDef (OpenLaw.row PySem.Challenge.rw_readround_k17_feasts_told).prog 31) [] (fun f vs => PySem.call f vs)) : PySem.Challenge.rw_readround_k17_feasts_told.Holds := by
  w_on; o_law
  refine Dl.head_cp (r := OpenLaw.row PySem.Challenge.rw_readround_k17_feasts_told) (q := view (OpenLaw.row PySem.Challenge.rw_readround_k17_feasts_told).prog [31]) (H := Dl.hk) (ob := Dl.ob) (M := 100000) (loose := Dl.loose) (d := HandSHeadRun.topDef (OpenLaw.row PySem.Challenge.rw_readround_k17_feasts_told).prog 31) (kwd := []) Dl.ob_eq
    (by kernel_rfl) (fun s => by kernel_rfl) Dl.topEnd (by kernel_rfl) (by kernel_rfl) (by kernel_rfl) (by rfl) (by first | assumption | decide +kernel) (by decide +kernel) ⟨rfl, rfl, rfl, rfl, rfl, by decide +kernel⟩ ?hw ?hc
  case hw => w_witness2
  case hc => exact hc
end
namespace Dl
open PySem L2 PyProof.Rows
set_option Elab.async false
set_option linter.all false
set_option maxRecDepth 100000
open PySem L2 PyProof.Rows
/-! ### kinds, books: contracts -/
mutual
/-- data through and through -/
def D.dat : D → Bool
  | .non => true
  | .bl _ => true
  | .int _ => true
  | .str _ => true
  | .tup xs => datL xs
  | .lst xs => datL xs
  | .dct _ => true
  | _ => false
def datL : List D → Bool
  | [] => true
  | x :: xs => D.dat x && datL xs
end
theorem datL_iff {xs : List D} : datL xs = true ↔ ∀ x ∈ xs, x.dat = true := by
  induction xs with
  | nil => simp [datL]
  | cons x xs ih => simp [datL, ih]
/-- isinstance of data and a built-in type -/
def isTy : D → String → Bool
  | .bl _, n => n == "bool" || n == "int"
  | .int _, n => n == "int"
  | .str _, n => n == "str"
  | .tup _, n => n == "tuple"
  | .lst _, n => n == "list"
  | .dct _, n => n == "dict"
  | _, _ => false
theorem rc_isiD {K : PySem.W.Frag} {μ : Mu} {P : D → Mu → Prop} {x : D} {n : String} (hd : x.dat = true) (hn : n = "int" ∨ n = "bool" ∨ n = "str" ∨ n = "list" ∨ n = "tuple") (h : P (.bl (isTy x n)) μ) : RC K (rIsi K) [x, .ty n] μ P := by
  cases x <;> (try (simp [D.dat] at hd; done)) <;> rcases hn with rfl | rfl | rfl | rfl | rfl <;> exact rc_isiB rfl (by rfl) h
theorem isTy_int {x : D} (h : isTy x "int" = true) (h2 : isTy x "bool" = false) : ∃ i, x = .int i := by
  cases x <;> simp_all [isTy]
theorem isTy_list {x : D} (h : isTy x "list" = true) : ∃ i, x = .lst i := by
  cases x <;> simp_all [isTy]
theorem isTy_tuple {x : D} (h : isTy x "tuple" = true) : ∃ i, x = .tup i := by
  cases x <;> simp_all [isTy]
def isNum : D → Int → Int → Bool
  | .int i, lo, hi => decide (lo ≤ i) && decide (i ≤ hi)
  | _, _, _ => false
def c_is_number (K : PySem.W.Frag) : CT := fun ds μ P PX => ∃ x lo hi, ds = [x, .int lo, .int hi] ∧ x.dat = true ∧ P (.bl (isNum x lo hi)) μ
def t_is_number (K : PySem.W.Frag) (E : XK) : TS :=
    (tRet (tAndV (tCB (rIsi K) (tCons (tVar 0) (tCons (tC (.ty "int")) tNil))) (tAndV (tNotV (tCB (rIsi K) (tCons (tVar 0) (tCons (tC (.ty "bool")) tNil)))) (tChain (rI0 fun i j => .bl (decide (i ≤ j))) (rI0 fun i j => .bl (decide (i ≤ j))) (tVar 1) (tVar 0) (tVar 2)))))
local macro_rules | `(tactic| wtm_at "dS") => `(tactic| with_reducible (show DS _ _ _ _ _ _; first
  | refine q_set ?_
  | refine q_when ?_
  | refine ds_ret ?_
  | refine ds_set ?_
  | refine q_drop ?_
  | refine q_if ?_
  | refine q_asg ?_
  | refine q_par ?_
  | refine q_fld ?_
  | refine ds_drop ?_
  | refine s_when ?_
  | refine ds_if ?_
  | refine ds_asg ?_
  | refine ds_next ?_
  | refine ds_par ?_
  | refine ds_fld ?_
  | refine ds_retN ?_))
local macro_rules | `(tactic| wtm_at "dE") => `(tactic| with_reducible (show DE _ _ _ _ _ _; first
  | refine de_op ?_
  | refine de_int ?_
  | refine de_cb ?_
  | refine de_bl ?_
  | refine de_non ?_
  | refine de_str ?_
  | refine de_ty ?_
  | refine de_loc ?_
  | refine de_un ?_
  | refine de_andV ?_
  | refine de_orV ?_
  | refine de_notV ?_
  | refine de_if ?_
  | refine de_chain ?_
  | refine de_chain3 ?_
  | refine de_isN ?_
  | refine de_notN ?_
  | refine de_sl ?_
  | refine de_bm ?_
  | refine de_bm0 ?_))
local macro_rules | `(tactic| wtm_at "dT") => `(tactic| with_reducible (show DT _ _ _ _ _ _; first
  | refine dt_test ?_
  | refine dt_truth ?_
  | refine dt_and ?_
  | refine dt_or ?_
  | refine dt_not ?_
  | refine dt_B ?_
  | refine dt_yes ?_))
local macro_rules | `(tactic| wtm_at "dO") => `(tactic| with_reducible (first
  | refine da_cons ?_
  | refine da_nil ?_
  | refine ro_i ?_
  | refine ro_b ?_
  | refine ro_addI ?_
  | refine ro_eqI ?_
  | refine ro_neI ?_
  | refine ru_i ?_
  | refine ro_ip ?_
  | refine rc_max2' ?_
  | refine rc_min2' ?_
  | refine ro_eqB ?_
  | refine ro_neB ?_
  | refine ro_isB ?_
  | refine ro_notB ?_
  | refine do_no ?_
  | refine do_part ?_
  | refine dg_name ?_
  | refine dgs_cons ?_
  | refine dgs_nil ?_
  | refine dg_sub ?_
  | refine di_range1 ?_
  | refine di_range2 ?_
  | refine di_any ?_
  | refine di_enum' ?_))
local macro_rules | `(tactic| wtm_at "v") => `(tactic| ((with_reducible show DE _ _ (tVar _) _ _ _); refine de_var (by first | rfl | assumption) ?_))
local macro_rules | `(tactic| wtm_at "h") => `(tactic| with_reducible refine ⟨_, rfl, ?_⟩)
local macro_rules | `(tactic| wtm_at "b") => `(tactic| ((first | refine ⟨_, rfl, br ?_ ?_⟩ | refine ⟨_, rfl, br' ?_ ?_⟩ | refine br ?_ ?_ | refine br' ?_ ?_ | fail) <;> intro hb <;> (try contradiction) <;> (try (simp only [decide_eq_true_eq, decide_eq_false_iff_not, Bool.not_eq_true', Bool.not_eq_false', Bool.not_true, Bool.not_false, Bool.not_eq_eq_eq_not, reduceCtorEq, List.length_map] at hb)) <;> (try (exfalso; omega; done))))
local macro_rules | `(tactic| wtm_at "i") => `(tactic| first | refine rc_isiD (by assumption) (by decide) ?_ | refine rc_isiB rfl (by first | rfl | decide +kernel) ?_)
local macro_rules | `(tactic| wtm_at "r") => `(tactic| refine ret_same0 (Nat.le_refl _) (by assumption) (by first | rfl | simp [D.cl, clL]) ?_)
local macro_rules | `(tactic| wtm_at "g") => `(tactic| repeat' first | wtm_at "v" | wtm_at "dE" | wtm_at "dO" | wtm_at "dT" | wtm_at "dS" | fail)
local macro_rules | `(tactic| wtm_at "a") => `(tactic| repeat' first | wtm_at "v" | wtm_at "dE" | wtm_at "dO" | wtm_at "dT" | wtm_at "dS" | wtm_at "i" | wtm_at "l" | wtm_at "x" | wtm_at "h" | wtm_at "b" | fail)
local macro_rules | `(tactic| wtm_at "l") => `(tactic| ((with_reducible show RC _ (rLen _) _ _ _); first | refine rc_lenL (.lst _) ?_ | refine rc_lenT' (.tup _) ?_ | refine rc_lenL (.rdl _) ?_ | refine rc_lenL (.own (by first | assumption | with_reducible exact mu_last)) ?_))
local macro_rules | `(tactic| wtm_at "x") => `(tactic| refine ro_ixT (.tup _) rfl ?_)
local macro_rules | `(tactic| wtm_at "ow") => `(tactic| first | assumption | with_reducible exact mu_last | exact mu_old (by assumption) | (simp; done) | fail)
local macro_rules | `(tactic| wtm_at "m") => `(tactic| refine ⟨ty_list (.own (by wtm_at "ow")), ?_⟩)
local macro_rules | `(tactic| wtm_at "e") => `(tactic| repeat' first | wtm_at "v" | wtm_at "dE" | wtm_at "dO" | wtm_at "dT" | wtm_at "i" | wtm_at "l" | wtm_at "x" | wtm_at "h" | wtm_at "b" | fail)
local macro_rules | `(tactic| wtm_at "sz") => `(tactic| ((with_reducible show Sz _ ∧ _); refine And.intro (by unfold Sz; first | decide | (simp; done) | (simp; omega) | omega) ?_))
local macro_rules | `(tactic| wtm_at "d2") => `(tactic| with_reducible (first
  | refine de_tupZ ?_
  | refine de_revL ?_
  | refine de_call (by assumption) ?_))
local macro_rules | `(tactic| wtm_at "o2") => `(tactic| first
  | refine ro_mod (by first | decide | omega) ?_
  | refine ro_pow ⟨by decide, by decide, by decide⟩ ?_
  | refine rs_anyL (.lst _) ?_
  | refine ro_mulI (by first | exact .inl ⟨by omega, by omega⟩ | exact .inr ⟨by omega, by omega⟩) ?_
  | refine rc_list (.lst _) ?_
  | refine dg_tup rfl ?_
  | fail)
local macro_rules | `(tactic| wtm_at "h2") => `(tactic| with_reducible (first | refine two_i ?_ | refine ⟨_, Ls.lst _, ?_⟩))
local macro_rules | `(tactic| wtm_at "sP") => `(tactic| with_reducible (first | refine q_parZ ?_ | refine ds_parZ ?_))
local macro_rules | `(tactic| wtm_at "f3") => `(tactic| with_reducible (first
  | refine de_fldZ ?_
  | refine de_methZ (by assumption) ?_))
local macro_rules | `(tactic| wtm_at "p3") => `(tactic| first
  | refine fp_obj (by assumption) (by assumption) (by rfl) ?_
  | refine fp_own (by assumption) (by assumption) (by assumption) (by rfl) ?_
  | refine mp_obj (by rfl) ?_
  | refine mp_own (by assumption) (by rfl) ?_)
local macro_rules | `(tactic| wtm_at "s3") => `(tactic| with_reducible (first | refine q_fldZ ?_ | refine ds_fldZ ?_))
local macro_rules | `(tactic| wtm_at "f4") => `(tactic| with_reducible (first | refine de_isNZ ?_ | refine de_notNZ ?_ | refine np_t ?_))
local macro_rules | `(tactic| wtm_at "g4") => `(tactic| first | refine np_int ?_ | refine np_lst ?_ | refine np_tup ?_ | refine np_obj ?_ | refine np_own ?_ | refine np_str ?_ | refine np_bl ?_)
local macro_rules | `(tactic| wtm_at "s5") => `(tactic| with_reducible (first | refine q_par3 ?_ | refine ds_par3 ?_ | refine three_i ?_ | refine di_range2W ?_))
local macro_rules | `(tactic| wtm_at "o5") => `(tactic| first | refine ro_eqNI ?_ | fail)
local macro_rules | `(tactic| wtm_at "d6") => `(tactic| with_reducible (first | refine de_dget ?_ | refine de_din ?_ | refine de_dnin ?_ | refine rc_abs ?_))
local macro_rules | `(tactic| wtm_at "g6") => `(tactic| first | refine dgp_s (.own (by assumption)) (by rfl) ?_ | refine dgp_s (.dct _) (by rfl) ?_)
local macro_rules | `(tactic| wtm_at "Q") => `(tactic| wtm_at "b")
local macro_rules | `(tactic| wtm_at "Q") => `(tactic| wtm_at "g4")
local macro_rules | `(tactic| wtm_at "Q") => `(tactic| wtm_at "p3")
local macro_rules | `(tactic| wtm_at "Q") => `(tactic| wtm_at "g6")
local macro_rules | `(tactic| wtm_at "Q") => `(tactic| wtm_at "sz")
local macro_rules | `(tactic| wtm_at "Q") => `(tactic| wtm_at "h2")
local macro_rules | `(tactic| wtm_at "Q") => `(tactic| wtm_at "h")
local macro_rules | `(tactic| wtm_at "Q") => `(tactic| wtm_at "o5")
local macro_rules | `(tactic| wtm_at "Q") => `(tactic| wtm_at "o2")
local macro_rules | `(tactic| wtm_at "Q") => `(tactic| wtm_at "x")
local macro_rules | `(tactic| wtm_at "Q") => `(tactic| wtm_at "l")
local macro_rules | `(tactic| wtm_at "Q") => `(tactic| wtm_at "i")
local macro_rules | `(tactic| wtm_at "Q") => `(tactic| wtm_at "f3")
local macro_rules | `(tactic| wtm_at "Q") => `(tactic| wtm_at "d2")
local macro_rules | `(tactic| wtm_at "Q") => `(tactic| wtm_at "dT")
local macro_rules | `(tactic| wtm_at "Q") => `(tactic| wtm_at "dO")
local macro_rules | `(tactic| wtm_at "Q") => `(tactic| wtm_at "d6")
local macro_rules | `(tactic| wtm_at "Q") => `(tactic| wtm_at "dE")
local macro_rules | `(tactic| wtm_at "Q") => `(tactic| wtm_at "f4")
local macro_rules | `(tactic| wtm_at "Q") => `(tactic| wtm_at "v")
local macro_rules | `(tactic| wtm_at "E") => `(tactic| repeat' first | wtm_at "Q" | fail)
local macro_rules | `(tactic| wtm_at "Qs") => `(tactic| wtm_at "dS")
local macro_rules | `(tactic| wtm_at "Qs") => `(tactic| wtm_at "s3")
local macro_rules | `(tactic| wtm_at "Qs") => `(tactic| wtm_at "sP")
local macro_rules | `(tactic| wtm_at "Qs") => `(tactic| wtm_at "s5")
local macro_rules | `(tactic| wtm_at "QA") => `(tactic| wtm_at "Q")
local macro_rules | `(tactic| wtm_at "QA") => `(tactic| wtm_at "Qs")
local macro_rules | `(tactic| wtm_at "A") => `(tactic| repeat' first | wtm_at "QA" | fail)
section
variable {K : PySem.W.Frag}
theorem d_is_number : ∀ ds μ P PX, c_is_number K ds μ P PX → MuCl μ μ.length → clL ds μ.length = true → ∀ B E, XAg K B (RetX μ.length PX) E → DS K B (t_is_number K E) (startD ["thing", "least", "most"] ds) μ (fnE μ.length P) := by
  intro ds μ P PX h hm hc B E hE
  obtain ⟨x, lo, hi, rfl, hd, h⟩ := h
  show DS K B _ [some x, some (.int lo), some (.int hi)] μ _
  unfold t_is_number
  wtm_at "a"
  · obtain ⟨i, rfl⟩ := isTy_int ‹_› ‹_›
    wtm_at "a" <;> wtm_at "r" <;> simp_all [isNum]
  · wtm_at "r"
    cases x <;> simp_all [isNum, isTy]
  · wtm_at "r"
    cases x <;> simp_all [isNum, isTy]
end
/-! ### calendars: contracts -/
def areNums : D → Int → Int → Int → Bool
  | .lst xs, long, lo, hi => decide (1 ≤ xs.length) && decide ((xs.length : Int) ≤ long) && xs.all (fun x => isNum x lo hi)
  | _, _, _, _ => false
/-- plain data, or a dict -/
def datA (d : D) : Prop := d.dat = true ∨ ∃ gs, d = .dct gs
def c_are_numbers (K : PySem.W.Frag) : CT := fun ds μ P PX => ∃ (x d : D) (long lo hi : Int), ds = [x, .int long, .int lo, .int hi] ∧ Fz μ x d ∧ datA d ∧ long ≤ 100000 ∧ P (.bl (areNums d long lo hi)) μ
abbrev cCal (K : PySem.W.Frag) : Addr := He.ga K "Calendar"
/-- days ahead of the i-th year -/
def preY (ls : List Int) (i : Nat) : Int := (ls.take i).sum
def begins (ls : List Int) : List Int := (List.range ls.length).map (preY ls)
def intsD (ls : List Int) : D := .lst (ls.map D.int)
def calF (ls : List Int) : List (Str × D) := [("lengths", intsD ls), ("begins", intsD (begins ls)), ("whole", .int ls.sum)]
def calD (K : PySem.W.Frag) (ls : List Int) : D := .obj (cCal K) (calF ls)
/-- the days of the years of a calendar -/
structure GCal (ls : List Int) : Prop where
  pos : 0 < ls.length
  most : ls.length ≤ 20
  each : ∀ x ∈ ls, 1 ≤ x ∧ x ≤ 400
structure KCal (K : PySem.W.Frag) : Prop where
  cl : Cls K (cCal K)
  lengths : NoAttr K (cCal K) "lengths"
  begins : NoAttr K (cCal K) "begins"
  whole : NoAttr K (cCal K) "whole"
def c_Calendar_init (K : PySem.W.Frag) : CT := fun ds μ P PX => ∃ k x d, ds = [.own k, x] ∧ μ[k]? = some (.ins (cCal K) []) ∧ Fz μ x d ∧ d.dat = true ∧
  (∀ ls, d = intsD ls → GCal ls → P .non (μ.set k (.ins (cCal K) (calF ls)))) ∧ (areNums d 20 1 400 = false → PX (He.ga K "BadCalendar") [] μ)
/-- how long the year is -/
def longY (ls : List Int) (y : Int) : Int := ls.getD (y % ls.length).toNat 0
def firstY (ls : List Int) (y : Int) : Int := y / ls.length * ls.sum + preY ls (y % ls.length).toNat
/-! ### .. in plain numbers -/
theorem preY_zero (ls : List Int) : preY ls 0 = 0 := by simp [preY]
theorem preY_succ {ls : List Int} {i : Nat} {x : Int} (h : ls[i]? = some x) : preY ls (i + 1) = preY ls i + x := by
  unfold preY
  rw [List.take_add_one, h]
  simp
theorem preY_all (ls : List Int) : preY ls ls.length = ls.sum := by simp [preY]
/-- day d is the s-th one of the year y -/
structure PosY (ls : List Int) (y s d : Int) : Prop where
  y0 : 0 ≤ y
  s0 : 0 ≤ s
  s1 : s < longY ls y
  d : d = firstY ls y + s
theorem longY_get {ls : List Int} (h : GCal ls) {y : Int} (hy : 0 ≤ y) : ls[(y % ls.length).toNat]? = some (longY ls y) := by
  have hp := h.pos
  have h1 := Int.emod_nonneg y (b := (ls.length : Int)) (by omega)
  have h2 := Int.emod_lt_of_pos y (b := (ls.length : Int)) (by omega)
  unfold longY
  rw [List.getD_eq_getElem?_getD, List.getElem?_eq_getElem (by omega)]
  rfl
theorem longY_bd {ls : List Int} (h : GCal ls) {y : Int} (hy : 0 ≤ y) : 1 ≤ longY ls y ∧ longY ls y ≤ 400 := h.each _ (List.mem_of_getElem? (longY_get h hy))
theorem firstY_succ {ls : List Int} (h : GCal ls) {y : Int} (hy : 0 ≤ y) : firstY ls (y + 1) = firstY ls y + longY ls y := by
  have hp := h.pos
  have h1 := Int.emod_nonneg y (b := (ls.length : Int)) (by omega)
  have h2 := Int.emod_lt_of_pos y (b := (ls.length : Int)) (by omega)
  have hy' := Int.ediv_mul_add_emod y ls.length
  have hs := preY_succ (longY_get h hy)
  by_cases hc : y % ls.length + 1 < ls.length
  · have e : y + 1 = ls.length * (y / ls.length) + (y % ls.length + 1) := by rw [Int.mul_comm]; omega
    have e1 : (y + 1) / ls.length = y / ls.length := by
      have z : (y % ls.length + 1) / ls.length = 0 := Int.ediv_eq_zero_of_lt (by omega) (by omega)
      rw [e, Int.mul_add_ediv_left _ _ (by omega), z]; simp
    have e2 : (y + 1) % ls.length = y % ls.length + 1 := by
      have z : (y % ls.length + 1) % ls.length = y % ls.length + 1 := Int.emod_eq_of_lt (by omega) (by omega)
      rw [e, Int.mul_add_emod_self_left, z]
    unfold firstY
    rw [e1, e2]
    have e3 : (y % ls.length + 1).toNat = (y % ls.length).toNat + 1 := by omega
    rw [e3, hs]
    omega
  · have hl : y % ls.length + 1 = ls.length := by omega
    have e : y + 1 = ls.length * (y / ls.length + 1) := by rw [Int.mul_add, Int.mul_one, Int.mul_comm]; omega
    have e1 : (y + 1) / ls.length = y / ls.length + 1 := by
      rw [e, Int.mul_ediv_cancel_left _ (by omega)]
    have e2 : (y + 1) % ls.length = 0 := by rw [e]; simp
    unfold firstY
    rw [e1, e2]
    have e3 : (y % ls.length).toNat + 1 = ls.length := by omega
    rw [e3, preY_all] at hs
    show (y / ls.length + 1) * ls.sum + preY ls 0 = _
    rw [preY_zero, Int.add_mul, Int.one_mul]
    omega
theorem PosY.next {ls : List Int} (h : GCal ls) {y s d : Int} (p : PosY ls y s d) : if s + 1 = longY ls y then PosY ls (y + 1) 0 (d + 1) else PosY ls y (s + 1) (d + 1) := by
  have := p.y0; have := p.s0; have := p.s1; have := p.d
  split
  · refine ⟨by omega, by omega, ?_, ?_⟩
    · have := longY_bd h (y := y + 1) (by omega); omega
    · rw [firstY_succ h p.y0]; omega
  · exact ⟨by omega, by omega, by omega, by omega⟩
def t_are_numbers (K : PySem.W.Frag) (E : XK) : TS :=
    (tSeq (tIfS (tOr (tNot (tTruth K (tCB (rIsi K) (tCons (tVar 0) (tCons (tC (.ty "list")) tNil))))) (tNot (tTest (tChain (rI0 fun i j => .bl (decide (i ≤ j))) (rI0 fun i j => .bl (decide (i ≤ j))) (tC (.int 1)) (tCB (rLen K) (tCons (tVar 0) tNil)) (tVar 1))))) (tRet (tC (.bl false))) tNext)
      (tRet (tCB (rAll K) (tCons (tLc (iAny K (tVar 0)) (gName 4) tYes (tCall (spD K (c_is_number K)) [] E0 (tCons (tVar 4) (tCons (tVar 2) (tCons (tVar 3) tNil)))) [4]) tNil))))
def t_Calendar_init (K : PySem.W.Frag) (E : XK) : TS :=
    (tSeq (tIfS (tNot (tTruth K (tCall (spD K (c_are_numbers K)) [] E (tCons (tVar 1) (tCons (tC (.int 20)) (tCons (tC (.int 1)) (tCons (tC (.int 400)) tNil))))))) (tRaise0 (He.ga K "BadCalendar") E) tNext)
      (tSeq (sFld K (tVar 0) (tCB (rListOf K) (tCons (tVar 1) tNil)) "lengths")
      (tSeq (sFld K (tVar 0) (tLst tNil) "begins")
      (tSeq (sFld K (tVar 0) (tC (.int 0)) "whole")
      (tFor (iAny K (tFld K (tVar 0) "lengths")) (gName 2) (tSeq (tDrop (tBM K "list" rAppend (tFld K (tVar 0) "begins") (tCons (tFld K (tVar 0) "whole") tNil)))
      (sFldAug K (tVar 0) (tVar 2) rAdd "whole")))))))
section
variable {K : PySem.W.Frag}
theorem d_are_numbers : ∀ ds μ P PX, c_are_numbers K ds μ P PX → MuCl μ μ.length → clL ds μ.length = true → ∀ B E, XAg K B (RetX μ.length PX) E → DS K B (t_are_numbers K E) (startD ["thing", "long", "least", "most", "one"] ds) μ (fnE μ.length P) := by
  intro ds μ P PX h hm hc B E hE
  obtain ⟨x, d, long, lo, hi, rfl, fz, hd, hlong, h⟩ := h
  show DS K B _ [some x, some (.int long), some (.int lo), some (.int hi), none] μ _
  rcases hd with hd | ⟨gs, rfl⟩
  rotate_left
  · obtain rfl : x = .dct gs := by cases fz; rfl
    unfold t_are_numbers
    wtm_at "g"
    refine rc_isiB (n := "dict") rfl (by rfl) ?_
    wtm_at "A"
    exact ret_same0 (Nat.le_refl _) hm rfl h
  have key : ∀ xs, d = .lst xs → tyD μ x = some "list" → Ls μ x xs → DS K B (t_are_numbers K E) [some x, some (.int long), some (.int lo), some (.int hi), none] μ (fnE μ.length P) := by
    rintro xs rfl ht hl
    have hdx : ∀ y ∈ xs, y.dat = true := by
      unfold D.dat at hd
      exact datL_iff.mp hd
    obtain ⟨S, wk⟩ := hl.wk
    unfold t_are_numbers
    wtm_at "g"
    refine rc_isiB ht (by rfl) ?_
    wtm_at "A"
    refine rc_lenL hl ?_
    have hf : ¬ (1 ≤ xs.length ∧ (xs.length : Int) ≤ long) → Ret μ.length P (.bl false) μ := fun hn => by
      wtm_at "r"
      have : areNums (.lst xs) long lo hi = false := by
        simp [areNums]
        omega
      rw [this] at h
      exact h
    wtm_at "A"
    · exact hf (by omega)
    · refine lc_map (fun d => .bl (isNum d lo hi)) (gw_name (by simp)) ?_
      wtm_at "A"
      refine ⟨xs, S, wk, wk.now, by omega, fun i d hd' => ?_, fun out ho => ?_⟩
      · wtm_at "A"
        refine ⟨rfl, de_call XAg.none ?_⟩
        wtm_at "A"
        exact ⟨d, lo, hi, rfl, hdx d (List.mem_of_getElem? hd'), rfl, rfl⟩
      · wtm_at "A"
        refine rc_all (bs := xs.map (isNum · lo hi)) (by rw [← ho, List.map_map]; exact .lst _) ?_
        wtm_at "r"
        have : areNums (.lst xs) long lo hi = (xs.map (isNum · lo hi)).all id := by
          simp only [areNums, List.all_map]
          rename_i hb
          simp [show 1 ≤ xs.length by omega, show (xs.length : Int) ≤ long by omega]
        rw [this] at h
        exact h
    · exact hf (by omega)
  cases fz with
  | id =>
    by_cases hl : isTy x "list" = true
    · obtain ⟨xs, rfl⟩ := isTy_list hl
      exact key xs rfl rfl (.lst xs)
    · unfold t_are_numbers
      wtm_at "A"
      · exact absurd ‹_› hl
      · wtm_at "r"
        have : areNums x long lo hi = false := by cases x <;> simp_all [areNums, isTy]
        rw [this] at h
        exact h
  | own hk => exact key _ rfl (by simp [tyD, hk]) (.own hk)
theorem nums_ints : ∀ {xs : List D} {lo hi : Int}, xs.all (fun x => isNum x lo hi) = true → ∃ ls : List Int, xs = ls.map D.int ∧ ∀ x ∈ ls, lo ≤ x ∧ x ≤ hi
  | [], _, _, _ => ⟨[], rfl, by simp⟩
  | x :: xs, lo, hi, h => by
    rw [List.all_cons, Bool.and_eq_true] at h
    obtain ⟨ls, rfl, hl⟩ := nums_ints h.2
    cases x <;> simp [isNum] at h
    rename_i n
    exact ⟨n :: ls, rfl, fun y hy => by
      rcases List.mem_cons.mp hy with m | m
      · subst m; exact h.1
      · exact hl y m⟩
theorem areNums_cal {d : D} (h : areNums d 20 1 400 = true) : ∃ ls, d = intsD ls ∧ GCal ls := by
  cases d <;> simp [areNums] at h
  rename_i xs
  obtain ⟨ls, rfl, hl⟩ := nums_ints (lo := 1) (hi := 400) (xs := xs) (by rw [List.all_eq_true]; exact h.2)
  simp at h
  exact ⟨ls, rfl, by omega, by omega, hl⟩
theorem areNums_of {ls : List Int} (h : GCal ls) : areNums (intsD ls) 20 1 400 = true := by
  have := h.pos; have := h.most
  simp [areNums, intsD]
  refine ⟨by omega, fun x hx => ?_⟩
  have := h.each x hx
  simp [isNum]; omega
theorem cl_ints (ls : List Int) (n : Nat) : clL (ls.map D.int) n = true := clL_map fun x _ => by simp [D.cl]
theorem d_Calendar_init (kc : KCal K) : ∀ ds μ P PX, c_Calendar_init K ds μ P PX → MuCl μ μ.length → clL ds μ.length = true → ∀ B E, XAg K B (RetX μ.length PX) E → DS K B (t_Calendar_init K E) (startD ["self", "years", "days"] ds) μ (fnE μ.length P) := by
  intro ds μ P PX h hm hc B E hE
  obtain ⟨k, x, d, rfl, hk, fz, hd, h1, h2⟩ := h
  show DS K B _ [some (.own k), some x, none] μ _
  have c1 := kc.cl; have c2 := kc.lengths; have c3 := kc.begins; have c4 := kc.whole
  unfold t_Calendar_init
  wtm_at "A"
  refine ⟨x, d, 20, 1, 400, rfl, fz, .inl hd, by decide, ?_⟩
  wtm_at "A"
  · exact ds_raise0 hE (retx_same0 hm rfl (h2 ‹_›))
  · rename_i hs
    obtain ⟨ls, rfl, hg⟩ := areNums_cal hs
    have hl : Ls μ x (ls.map D.int) := by
      cases fz with
      | id => exact .lst _
      | own h => exact .own h
    have kl := (List.getElem?_eq_some_iff.mp hk).1
    have hset : ∀ z, (μ.set k z)[k]? = some z := fun z => set_get hk
    have hlen : ∀ z : MO, (List.set μ k z).length = μ.length := fun z => by simp
    refine rc_list hl ?_
    wtm_at "A"
    refine pp_own hk c1 c2 (of_decide_eq_true (by rfl)) ?_
    wtm_at "A"
    refine de_lstOZ ?_
    wtm_at "A"
    rw [hlen]
    refine pp_own (mu_old (hset _)) c1 c3 (of_decide_eq_true (by rfl)) ?_
    rw [set_old (hset _), set_set']
    wtm_at "A"
    refine pp_own (mu_old (hset _)) c1 c4 (of_decide_eq_true (by rfl)) ?_
    rw [set_old (hset _), set_set']
    refine ds_ghostN ?_
    refine ds_for ?_
    wtm_at "A"
    refine fp_own (mu_old (hset _)) c1 c2 rfl ?_
    refine ⟨_, _, .lst _, fun i ρ μ' => ∃ y2, ρ = [some (.own k), some x, y2] ∧ μ' = μ.set k (.ins (cCal K) [("lengths", intsD ls), ("begins", .own μ.length), ("whole", .int (preY ls i))]) ++ [.lst (((List.range i).map (preY ls)).map D.int)],
      ⟨none, rfl, rfl⟩, fun _ _ _ _ _ => trivial, ?_, ?_⟩
    · rintro i d ρ μ' hd' ⟨y2, rfl, rfl⟩
      rw [List.getElem?_map] at hd'
      cases q : ls[i]? with
      | none => rw [q] at hd'; cases hd'
      | some n =>
        rw [q] at hd'
        obtain rfl : D.int n = d := Option.some.inj hd'
        have hi := (List.getElem?_eq_some_iff.mp q).1
        have hmost := hg.most
        have hlast : ∀ z : MO, ∀ o : MO, (μ.set k z ++ [o])[μ.length]? = some o := fun z o => by rw [← hlen z]; exact mu_last
        have hsetl : ∀ z : MO, ∀ o o' : MO, (μ.set k z ++ [o]).set μ.length o' = μ.set k z ++ [o'] := fun z o o' => by rw [← hlen z]; exact set_last
        wtm_at "A"
        refine fp_own (mu_old (hset _)) c1 c3 rfl ?_
        refine ⟨ty_list (.own (hlast _ _)), ?_⟩
        wtm_at "A"
        refine fp_own (mu_old (hset _)) c1 c4 rfl ?_
        wtm_at "A"
        refine rm_app (hlast _ _) (by simp; omega) ?_
        rw [hsetl]
        refine ds_fldAug ?_
        wtm_at "A"
        refine ⟨k, _, _, _, rfl, mu_old (hset _), c1, c4, rfl, ?_⟩
        wtm_at "A"
        refine ro_add ?_
        refine ⟨_, mu_old (hset _), by simp, ?_⟩
        rw [set_old (hset _), set_set']
        refine ⟨_, rfl, ?_⟩
        rw [← preY_succ q, List.range_succ, List.map_append, List.map_append]
        rfl
    · rintro ρ μ' ⟨y2, rfl, rfl⟩
      rw [List.length_map]
      have hlast : ∀ z : MO, ∀ o : MO, (μ.set k z ++ [o])[μ.length]? = some o := fun z o => by rw [← hlen z]; exact mu_last
      have hsetl : ∀ z : MO, ∀ o o' : MO, (μ.set k z ++ [o]).set μ.length o' = μ.set k z ++ [o'] := fun z o o' => by rw [← hlen z]; exact set_last
      refine ⟨_, gh_fld (f := "begins") (mu_old (hset _)) rfl (hlast _ _), ?_⟩
      rw [hsetl, set_old (hset _), set_set', preY_all]
      refine ret_same (by simp) ?_ rfl (h1 ls rfl hg)
      rw [hlen]
      refine hm.set ?_
      show clF (calF ls) _ = true
      simp only [clF, calF, D.cl, intsD, cl_ints, Bool.and_self]
theorem at_map {α : Type} {f : α → D} {xs : List α} {i : Int} {j : Nat} {x : α} (e : i = (j : Int)) (h : xs[j]? = some x) : atI (xs.map f) i = some (f x) := by
  rw [e]
  exact atI_nat (by rw [List.getElem?_map, h]; rfl)
end
/-! ### the year of a day -/
/-! ### feasts: contracts -/
def isNameD : D → Bool
  | .str s => decide (nameOk s)
  | _ => false
def c_is_name (K : PySem.W.Frag) : CT := fun ds μ P PX => ∃ x, ds = [x] ∧ x.dat = true ∧ (∀ s, x = .str s → s.length ≤ 100000) ∧ P (.bl (isNameD x)) μ
structure KeptOk (ys : List Int) : Prop where
  pos : 0 < ys.length
  most : ys.length ≤ 20
  each : ∀ y ∈ ys, 0 ≤ y ∧ y ≤ 19
  up : ∀ (i : Nat) (a b : Int), ys[i]? = some a → ys[i + 1]? = some b → a < b
def keptD : Option (List Int) → D
  | none => .non
  | some ys => intsD ys
def KeptO (k : Option (List Int)) : Prop := ∀ ys, k = some ys → KeptOk ys
/-- rising numbers -/
def rises : List Int → Bool
  | a :: b :: t => decide (a < b) && rises (b :: t)
  | _ => true
def intsOf (xs : List D) : List Int := xs.map fun d => match d with | .int i => i | _ => 0
def goodYs : D → Bool
  | .non => true
  | .lst xs => areNums (.lst xs) 20 0 19 && rises (intsOf xs)
  | _ => false
def c_good_years (K : PySem.W.Frag) : CT := fun ds μ P PX => ∃ (x d : D), ds = [x] ∧ Fz μ x d ∧ datA d ∧ P (.bl (goodYs d)) μ
def actD (p : Str × Str) : D := .tup [.str p.1, .str p.2]
def actsD (ps : List (Str × Str)) : D := .lst (ps.map actD)
structure ActsOk (ps : List (Str × Str)) : Prop where
  most : ps.length ≤ 4
  each : ∀ p ∈ ps, nameOk p.1 ∧ (p.2 = "off" ∨ p.2 = "rest")
  nd : (ps.map (·.1)).Nodup
def flatD : D → Bool
  | .non => true
  | .bl _ => true
  | .int _ => true
  | .str _ => true
  | _ => false
/-- what may be asked whether it is a name with a sort -/
structure PutX (d : D) : Prop where
  dat : d.dat = true
  two : ∀ x y, d = .tup [x, y] → (∀ s, x = .str s → s.length ≤ 100000) ∧ flatD y = true
def inOffD : D → Bool
  | .str s => decide (s = "off" ∨ s = "rest")
  | _ => false
def isPutD : D → Bool
  | .tup [.str n, .str s] => decide (nameOk n) && decide (s = "off" ∨ s = "rest")
  | _ => false
def c_is_put (K : PySem.W.Frag) : CT := fun ds μ P PX => ∃ d : D, ds = [d] ∧ PutX d ∧ P (.bl (isPutD d)) μ
structure PutsX (d : D) : Prop where
  dat : datA d
  each : ∀ xs, d = .lst xs → xs.length ≤ 4 → ∀ p ∈ xs, PutX p
/-- these may be puts -/
def PutsIs (d : D) (ps : List (Str × Str)) : Prop := ActsOk ps ∧ (d = actsD ps ∨ (d = .non ∧ ps = []))
def c_good_puts (K : PySem.W.Frag) : CT := fun ds μ P PX => ∃ (x d : D), ds = [x] ∧ Fz μ x d ∧ PutsX d ∧ ((∃ ps, PutsIs d ps) → P (.bl true) μ) ∧ ((¬ ∃ ps, PutsIs d ps) → P (.bl false) μ)
structure FeT where
  name : Str
  place : Int
  lasts : Int
  kept : Option (List Int)
  acts : List (Str × Str)
structure GFe (f : FeT) : Prop where
  name : nameOk f.name
  p0 : -400 ≤ f.place
  p1 : f.place ≤ 399
  l0 : 1 ≤ f.lasts
  l1 : f.lasts ≤ 40
  kept : KeptO f.kept
  acts : ActsOk f.acts
abbrev cFe (K : PySem.W.Frag) : Addr := He.ga K "Feast"
def feF (f : FeT) : List (Str × D) := [("name", .str f.name), ("place", .int f.place), ("lasts", .int f.lasts), ("kept", keptD f.kept), ("acts", actsD f.acts)]
def feD (K : PySem.W.Frag) (f : FeT) : D := .obj (cFe K) (feF f)
structure KFe (K : PySem.W.Frag) : Prop where
  cl : Cls K (cFe K)
  name : NoAttr K (cFe K) "name"
  place : NoAttr K (cFe K) "place"
  lasts : NoAttr K (cFe K) "lasts"
  kept : NoAttr K (cFe K) "kept"
  acts : NoAttr K (cFe K) "acts"
/-- these make the feast -/
structure FeIs (a b c dk dp : D) (f : FeT) : Prop where
  good : GFe f
  a : a = .str f.name
  b : b = .int f.place
  c : c = .int f.lasts
  k : dk = keptD f.kept
  p : PutsIs dp f.acts
def c_Feast_init (K : PySem.W.Frag) : CT := fun ds μ P PX => ∃ (k : Nat) (a b c xk dk xp dp : D), ds = [.own k, a, b, c, xk, xp] ∧ μ[k]? = some (.ins (cFe K) []) ∧ a.dat = true ∧ (∀ s, a = .str s → s.length ≤ 100000) ∧ b.dat = true ∧ c.dat = true ∧ Fz μ xk dk ∧ datA dk ∧ Fz μ xp dp ∧ PutsX dp ∧
  (∀ f, FeIs a b c dk dp f → P .non (μ.set k (.ins (cFe K) (feF f)))) ∧ ((∀ f, ¬ FeIs a b c dk dp f) → PX (He.ga K "BadFeast") [] μ)
theorem rises_iff : ∀ {ys : List Int}, rises ys = true ↔ ∀ (i : Nat) (a b : Int), ys[i]? = some a → ys[i + 1]? = some b → a < b
  | [] => by simp [rises]
  | [a] => by
    simp only [rises, true_iff]
    intro i x y hx hy
    have := (List.getElem?_eq_some_iff.mp hy).1
    simp at this
  | a :: b :: t => by
    have ih := rises_iff (ys := b :: t)
    unfold rises
    rw [Bool.and_eq_true, ih, decide_eq_true_eq]
    constructor
    · rintro ⟨h0, h⟩ i x y hx hy
      cases i with
      | zero =>
        simp at hx hy
        omega
      | succ i => exact h i x y (by simpa using hx) (by simpa using hy)
    · intro h
      exact ⟨h 0 a b rfl rfl, fun i x y hx hy => h (i + 1) x y (by simpa using hx) (by simpa using hy)⟩
theorem intsOf_int (ys : List Int) : intsOf (ys.map D.int) = ys := by
  unfold intsOf
  induction ys with
  | nil => rfl
  | cons y t ih => rw [List.map_cons, List.map_cons, ih]
theorem areNums_ints {xs : List D} {n lo hi : Int} (h : areNums (.lst xs) n lo hi = true) : ∃ ys : List Int, xs = ys.map D.int ∧ (∀ y ∈ ys, lo ≤ y ∧ y ≤ hi) ∧ 1 ≤ ys.length ∧ (ys.length : Int) ≤ n := by
  unfold areNums at h
  simp only [Bool.and_eq_true, decide_eq_true_eq] at h
  obtain ⟨⟨h1, h2⟩, h3⟩ := h
  have key : ∀ xs : List D, xs.all (fun x => isNum x lo hi) = true → ∃ ys : List Int, xs = ys.map D.int ∧ ∀ y ∈ ys, lo ≤ y ∧ y ≤ hi := fun xs => by
    induction xs with
    | nil => exact fun _ => ⟨[], rfl, by simp⟩
    | cons x t ih =>
      intro h
      rw [List.all_cons, Bool.and_eq_true] at h
      obtain ⟨ys, rfl, hy⟩ := ih h.2
      cases x with
      | int i =>
        have h1 := h.1
        simp [isNum] at h1
        exact ⟨i :: ys, rfl, fun y hy' => by
          rcases List.mem_cons.mp hy' with rfl | hy'
          · exact h1
          · exact hy y hy'⟩
      | _ => simp [isNum] at h
  obtain ⟨ys, rfl, hy⟩ := key xs h3
  rw [List.length_map] at h1 h2
  exact ⟨ys, rfl, hy, h1, h2⟩
theorem goodYs_of {k : Option (List Int)} (h : KeptO k) : goodYs (keptD k) = true := by
  cases k with
  | none => rfl
  | some ys =>
    have hk := h ys rfl
    have hp := hk.pos; have hm := hk.most
    show (areNums (.lst (ys.map D.int)) 20 0 19 && rises (intsOf (ys.map D.int))) = true
    rw [intsOf_int, rises_iff.mpr hk.up, Bool.and_true]
    simp [areNums]
    refine ⟨by omega, fun y hy => ?_⟩
    have := hk.each y hy
    simp [isNum]
    omega
theorem goodYs_is {d : D} (h : goodYs d = true) : ∃ k, d = keptD k ∧ KeptO k := by
  cases d with
  | non => exact ⟨none, rfl, fun _ e => by cases e⟩
  | lst xs =>
    have h : (areNums (.lst xs) 20 0 19 && rises (intsOf xs)) = true := h
    rw [Bool.and_eq_true] at h
    obtain ⟨ys, rfl, h1, h2, h3⟩ := areNums_ints h.1
    rw [intsOf_int] at h
    exact ⟨some ys, rfl, fun zs e => by cases e; exact ⟨by omega, by omega, fun y hy => by have := h1 y hy; omega, rises_iff.mp h.2⟩⟩
  | _ => simp [goodYs] at h
theorem keptD_inj {k k' : Option (List Int)} (h : keptD k = keptD k') : k = k' := by
  cases k with
  | none => cases k' with
    | none => rfl
    | some ys => simp [keptD, intsD] at h
  | some xs => cases k' with
    | none => simp [keptD, intsD] at h
    | some ys =>
      unfold keptD intsD at h
      injection h with h
      rw [(List.map_inj_right (fun a b h => by injection h)).mp h]
theorem actsD_inj {ps qs : List (Str × Str)} (h : actsD ps = actsD qs) : ps = qs := by
  unfold actsD at h
  injection h with h
  refine (List.map_inj_right (fun a b h => ?_)).mp h
  obtain ⟨a1, a2⟩ := a
  obtain ⟨b1, b2⟩ := b
  unfold actD at h
  simp at h
  rw [h.1, h.2]
theorem PutsIs.uniq {d : D} {ps qs : List (Str × Str)} (h : PutsIs d ps) (h' : PutsIs d qs) : ps = qs := by
  rcases h.2 with rfl | ⟨rfl, rfl⟩
  · rcases h'.2 with e | ⟨e, _⟩
    · exact actsD_inj e
    · simp [actsD] at e
  · rcases h'.2 with e | ⟨_, rfl⟩
    · simp [actsD] at e
    · rfl
theorem FeIs.uniq {a b c dk dp : D} {f g : FeT} (h : FeIs a b c dk dp f) (h' : FeIs a b c dk dp g) : f = g := by
  obtain ⟨n, p, l, k, as⟩ := f
  obtain ⟨n', p', l', k', as'⟩ := g
  have e1 := h.a.symm.trans h'.a
  have e2 := h.b.symm.trans h'.b
  have e3 := h.c.symm.trans h'.c
  have e4 := keptD_inj (h.k.symm.trans h'.k)
  have e5 := h.p.uniq h'.p
  simp at e1 e2 e3 e4 e5
  rw [e1, e2, e3, e4, e5]
theorem actsX {ps : List (Str × Str)} (h : ∀ p ∈ ps, nameOk p.1) : PutsX (actsD ps) := by
  refine ⟨.inl ?_, fun xs e _ p hp => ?_⟩
  · unfold actsD
    rw [D.dat, datL_iff]
    intro x hx
    obtain ⟨p, _, rfl⟩ := List.mem_map.mp hx
    rfl
  · unfold actsD at e
    cases e
    obtain ⟨q, hq, rfl⟩ := List.mem_map.mp hp
    refine ⟨rfl, fun x y e => ?_⟩
    unfold actD at e
    simp at e
    obtain ⟨rfl, rfl⟩ := e
    refine ⟨fun s e => ?_, rfl⟩
    cases e
    have := (h q hq).2.1
    omega
theorem FeIs.of {f : FeT} (h : GFe f) : FeIs (.str f.name) (.int f.place) (.int f.lasts) (keptD f.kept) (actsD f.acts) f := ⟨h, rfl, rfl, rfl, rfl, h.acts, .inl rfl⟩
theorem kept_datF (k : Option (List Int)) : (keptD k).dat = true := by
  cases k with
  | none => rfl
  | some ys =>
    unfold keptD intsD
    rw [D.dat, datL_iff]
    intro z hz
    obtain ⟨w, _, rfl⟩ := List.mem_map.mp hz
    rfl
/-- the contract at a feast that is right -/
theorem c_Feast_ok {K : PySem.W.Frag} {μ : Mu} {P : D → Mu → Prop} {PX : PXT} {k : Nat} {f : FeT} {xk xp : D} (hk : μ[k]? = some (.ins (cFe K) [])) (hg : GFe f) (fk : Fz μ xk (keptD f.kept)) (fp : Fz μ xp (actsD f.acts)) (h : P .non (μ.set k (.ins (cFe K) (feF f)))) : c_Feast_init K [.own k, .str f.name, .int f.place, .int f.lasts, xk, xp] μ P PX :=
  ⟨k, _, _, _, xk, _, xp, _, rfl, hk, rfl, fun s e => by cases e; have := hg.name.2.1; omega, rfl, rfl, fk, .inl (kept_datF _), fp, actsX fun p hp => (hg.acts.each p hp).1, fun g hg' => by rw [← (FeIs.of hg).uniq hg']; exact h, fun hn => absurd (FeIs.of hg) (hn f)⟩
def t_is_name (K : PySem.W.Frag) (E : XK) : TS :=
    (tSeq (tIfS (tOr (tNot (tTruth K (tCB (rIsi K) (tCons (tVar 0) (tCons (tC (.ty "str")) tNil))))) (tNot (tTest (tChain (rI0 fun i j => .bl (decide (i ≤ j))) (rI0 fun i j => .bl (decide (i ≤ j))) (tC (.int 1)) (tCB (rLen K) (tCons (tVar 0) tNil)) (tC (.int 8)))))) (tRet (tC (.bl false))) tNext)
      (tRet (tCB (rAll K) (tCons (tLc (iAny K (tVar 0)) (gName 1) tYes (tOp (rInA K) (tVar 1) (tC (.str "abcdefghijklmnopqrstuvwxyz"))) [1]) tNil))))
def t_good_years (K : PySem.W.Frag) (E : XK) : TS :=
    (tSeq (tIfS (tB (tIsN (tVar 0))) (tRet (tC (.bl true))) tNext)
      (tRet (tAndV (tCall (spD K (c_are_numbers K)) [] E (tCons (tVar 0) (tCons (tC (.int 20)) (tCons (tC (.int 0)) (tCons (tC (.int 19)) tNil))))) (tCB (rAll K) (tCons (tLc (iRng1 (tCons (tOp (rI0 fun i j => .int (i - j)) (tCB (rLen K) (tCons (tVar 0) tNil)) (tC (.int 1))) tNil)) (gName 1) tYes (tOp (rI0 fun i j => .bl (decide (i < j))) (tOp (rIx K) (tVar 0) (tVar 1)) (tOp (rIx K) (tVar 0) (tOp (rAddA K) (tVar 1) (tC (.int 1))))) [1]) tNil)))))
def t_is_put (K : PySem.W.Frag) (E : XK) : TS :=
    (tRet (tAndV (tCB (rIsi K) (tCons (tVar 0) (tCons (tC (.ty "tuple")) tNil))) (tAndV (tOp (rEqD K) (tCB (rLen K) (tCons (tVar 0) tNil)) (tC (.int 2))) (tAndV (tCall (spD K (c_is_name K)) [] E (tCons (tOp (rIx K) (tVar 0) (tC (.int 0))) tNil)) (tOp (rInA K) (tOp (rIx K) (tVar 0) (tC (.int 1))) (tTup (tCons (tC (.str "off")) (tCons (tC (.str "rest")) tNil))))))))
def t_good_puts (K : PySem.W.Frag) (E : XK) : TS :=
    (tSeq (tIfS (tB (tIsN (tVar 0))) (tRet (tC (.bl true))) tNext)
      (tSeq (tIfS (tOr (tNot (tTruth K (tCB (rIsi K) (tCons (tVar 0) (tCons (tC (.ty "list")) tNil))))) (tOr (tTest (tOp (rI0 fun i j => .bl (decide (j < i))) (tCB (rLen K) (tCons (tVar 0) tNil)) (tC (.int 4)))) (tNot (tTruth K (tCB (rAll K) (tCons (tLc (iAny K (tVar 0)) (gName 1) tYes (tCall (spD K (c_is_put K)) [] E0 (tCons (tVar 1) tNil)) [1]) tNil)))))) (tRet (tC (.bl false))) tNext)
      (tRet (tOp (rEqD K) (tLenSetS K (tLc (iAny K (tVar 0)) (gTup K 2 (gCons (gName 2) (gCons (gName 3) gNil))) tYes (tVar 2) [2, 3])) (tCB (rLen K) (tCons (tVar 0) tNil))))))
def t_Feast_init (K : PySem.W.Frag) (E : XK) : TS :=
    (tSeq (tIfS (tOr (tNot (tTruth K (tCall (spD K (c_is_name K)) [] E (tCons (tVar 1) tNil)))) (tOr (tNot (tTruth K (tCall (spD K (c_is_number K)) [] E (tCons (tVar 2) (tCons (tUn (rU fun i => .int (-i)) (tC (.int 400))) (tCons (tC (.int 399)) tNil)))))) (tNot (tTruth K (tCall (spD K (c_is_number K)) [] E (tCons (tVar 3) (tCons (tC (.int 1)) (tCons (tC (.int 40)) tNil)))))))) (tRaise0 (He.ga K "BadFeast") E) tNext)
      (tSeq (tIfS (tOr (tNot (tTruth K (tCall (spD K (c_good_years K)) [] E (tCons (tVar 4) tNil)))) (tNot (tTruth K (tCall (spD K (c_good_puts K)) [] E (tCons (tVar 5) tNil))))) (tRaise0 (He.ga K "BadFeast") E) tNext)
      (tSeq (sFld K (tVar 0) (tVar 1) "name")
      (tSeq (sFld K (tVar 0) (tVar 2) "place")
      (tSeq (sFld K (tVar 0) (tVar 3) "lasts")
      (tSeq (sFld K (tVar 0) (tIf (tB (tIsN (tVar 4))) (tC .non) (tCB (rListOf K) (tCons (tVar 4) tNil))) "kept")
      (sFld K (tVar 0) (tIf (tB (tIsN (tVar 5))) (tLst tNil) (tCB (rListOf K) (tCons (tVar 5) tNil))) "acts")))))))
section
variable {K : PySem.W.Frag}
theorem signs_get {s : Str} {i : Nat} {d : D} (h : (signsD s)[i]? = some d) : ∃ c, s.cps.toList[i]? = some c ∧ d = .str ⟨#[c]⟩ := by
  unfold signsD at h
  rw [List.getElem?_map] at h
  cases q : s.cps.toList[i]? with
  | none => rw [q] at h; cases h
  | some c => rw [q] at h; exact ⟨c, rfl, (Option.some.inj h).symm⟩
theorem d_is_name : ∀ ds μ P PX, c_is_name K ds μ P PX → MuCl μ μ.length → clL ds μ.length = true → ∀ B E, XAg K B (RetX μ.length PX) E → DS K B (t_is_name K E) (startD ["thing", "sign"] ds) μ (fnE μ.length P) := by
  intro ds μ P PX h hm hc B E hE
  obtain ⟨x, rfl, hd, hl, h⟩ := h
  show DS K B _ [some x, none] μ _
  unfold t_is_name
  by_cases hs : ∃ s, x = .str s
  · obtain ⟨s, rfl⟩ := hs
    have hl' := hl s rfl
    have no : ¬ (1 ≤ s.length ∧ s.length ≤ 8) → Ret μ.length P (.bl false) μ := fun hn => by
      have e : isNameD (.str s) = false := by
        simp only [isNameD, decide_eq_false_iff_not]
        exact fun hx => hn ⟨hx.1, hx.2.1⟩
      rw [e] at h
      wtm_at "r"
      exact h
    wtm_at "A"
    refine rc_lenS' hl' ?_
    wtm_at "A"
    · exact no (by omega)
    · refine lc_map (fun d => match d with | .str z => .bl (z.cps.toList.all fun c => decide (c ∈ letters)) | _ => .non) (gw_name (by simp)) ?_
      wtm_at "A"
      refine ⟨_, _, .str s, trivial, by simp [signsD]; unfold Str.length at hl'; omega, fun i d hd' => ?_, fun out ho => ?_⟩
      · obtain ⟨c, hc', rfl⟩ := signs_get hd'
        wtm_at "A"
        refine ⟨rfl, ?_⟩
        wtm_at "A"
        refine ro_inSg ?_
        refine ⟨?_, rfl⟩
        rw [letters_str]
        simp
      · wtm_at "A"
        refine rc_all (bs := s.cps.toList.map fun c => decide (c ∈ letters)) ?_ ?_
        · rw [← ho]
          unfold signsD
          rw [List.map_map, List.map_map]
          have : (fun c : Nat => D.bl (decide (c ∈ letters))) = ((fun d => match d with | .str z => D.bl (z.cps.toList.all fun c => decide (c ∈ letters)) | _ => .non) ∘ fun c => D.str ⟨#[c]⟩) := by
            funext c; simp
          rw [← this]
          exact .lst _
        wtm_at "r"
        rename_i h1 h2
        have e : isNameD (.str s) = ((s.cps.toList.map fun c => decide (c ∈ letters)).all id) := by
          simp only [isNameD]
          rw [Bool.eq_iff_iff]
          simp only [decide_eq_true_eq, List.all_map, List.all_eq_true, Function.comp, id]
          exact ⟨fun hx c hc => hx.2.2 c hc, fun hx => ⟨by omega, by omega, hx⟩⟩
        rw [e] at h
        exact h
    · exact no (by omega)
  · have hx : isTy x "str" = false := by
      cases x <;> first | rfl | exact absurd ⟨_, rfl⟩ hs
    wtm_at "A"
    · rename_i hb; rw [hx] at hb; cases hb
    · wtm_at "r"
      have e : isNameD x = false := by cases x <;> first | rfl | exact absurd ⟨_, rfl⟩ hs
      rw [e] at h
      exact h
theorem d_good_years : ∀ ds μ P PX, c_good_years K ds μ P PX → MuCl μ μ.length → clL ds μ.length = true → ∀ B E, XAg K B (RetX μ.length PX) E → DS K B (t_good_years K E) (startD ["years", "k"] ds) μ (fnE μ.length P) := by
  intro ds μ P PX h hm hc B E hE
  obtain ⟨x, d, rfl, fz, hd, h⟩ := h
  have ret : ∀ b, b = goodYs d → Ret μ.length P (.bl b) μ := fun b e => ret_same0 (Nat.le_refl _) hm rfl (by rw [e]; exact h)
  show DS K B _ [some x, none] μ _
  unfold t_good_years
  by_cases hx : x = .non
  · subst hx
    obtain rfl : D.non = d := by cases fz; rfl
    wtm_at "A"
    exact ret true rfl
  · refine q_when (dt_B (de_isNZ ?_))
    wtm_at "v"
    refine np_f hx ⟨false, rfl, fun z => absurd z (by simp), fun _ => ?_⟩
    have hdn : d ≠ .non := fun e => by
      subst e
      cases fz
      exact hx rfl
    refine ds_ret (de_andV (de_call hE ?_))
    wtm_at "E"
    refine ⟨x, d, 20, 0, 19, rfl, fz, hd, by decide, ?_⟩
    refine ⟨_, rfl, ?_⟩
    cases hn : areNums d 20 0 19 with
    | false =>
      refine ⟨fun z => (nomatch z), fun _ => ret false ?_⟩
      cases d with
      | non => exact absurd rfl hdn
      | lst xs =>
        show false = (areNums (.lst xs) 20 0 19 && rises (intsOf xs))
        rw [hn]
        rfl
      | _ => rfl
    | true =>
      refine ⟨fun _ => ?_, fun z => (nomatch z)⟩
      obtain ⟨xs, rfl⟩ : ∃ xs, d = .lst xs := by
        cases d <;> simp [areNums] at hn
        exact ⟨_, rfl⟩
      obtain ⟨ys, rfl, hy1, hy2, hy3⟩ := areNums_ints hn
      have hl : Ls μ x (ys.map D.int) := by
        cases fz with
        | id => exact .lst _
        | own h => exact .own h
      refine de_cb (da_cons ?_)
      refine lc_map (fun d => match d with | .int k => (match ys[k.toNat]?, ys[k.toNat + 1]? with | some a, some b => .bl (decide (a < b)) | _, _ => .non) | _ => .non) (gw_name (by simp)) ?_
      wtm_at "A"
      refine rc_lenL hl ?_
      rw [List.length_map]
      wtm_at "A"
      refine ⟨by omega, by omega, trivial, by rw [rangeD_length]; omega, fun i d hd => ?_, fun out ho => ?_⟩
      · obtain ⟨hi, rfl⟩ := rangeD_some hd
        have e1 : ys[i]? = some (ys[i]'(by omega)) := List.getElem?_eq_getElem _
        have e2 : ys[i + 1]? = some (ys[i + 1]'(by omega)) := List.getElem?_eq_getElem _
        wtm_at "A"
        refine ⟨rfl, ?_⟩
        wtm_at "A"
        refine ro_ixL hl (at_map (j := i) (by omega) e1) ?_
        wtm_at "A"
        refine ro_ixL hl (at_map (j := i + 1) (by omega) e2) ?_
        wtm_at "A"
        refine ⟨?_, rfl⟩
        simp only [show (0 + (i : Int)).toNat = i by omega, e1, e2]
      · have ho : out = ((List.range (ys.length - 1)).map fun i : Nat => decide (ys.getD i 0 < ys.getD (i + 1) 0)).map D.bl := by
          rw [← ho]
          unfold rangeD
          rw [List.map_map, List.map_map, show ((ys.length : Int) - 1).toNat = ys.length - 1 by omega]
          refine List.map_congr_left fun i hi => ?_
          have hi := List.mem_range.mp hi
          have e1 : ys[i]? = some (ys[i]'(by omega)) := List.getElem?_eq_getElem _
          have e2 : ys[i + 1]? = some (ys[i + 1]'(by omega)) := List.getElem?_eq_getElem _
          simp only [Function.comp, show (0 + (i : Int)).toNat = i by omega, e1, e2, List.getD_eq_getElem?_getD, Option.getD_some]
        subst ho
        wtm_at "A"
        refine rc_all (.lst _) ?_
        refine ret _ ?_
        show _ = (areNums (.lst (ys.map D.int)) 20 0 19 && rises (intsOf (ys.map D.int)))
        rw [hn, intsOf_int, Bool.true_and, Bool.eq_iff_iff, rises_iff, List.all_map, List.all_eq_true]
        constructor
        · intro q i a b ha hb
          have hi := (List.getElem?_eq_some_iff.mp hb).1
          have := q i (List.mem_range.mpr (by omega))
          simpa [List.getD_eq_getElem?_getD, ha, hb] using this
        · intro q i hi
          have hi := List.mem_range.mp hi
          have e1 : ys[i]? = some (ys[i]'(by omega)) := List.getElem?_eq_getElem _
          have e2 : ys[i + 1]? = some (ys[i + 1]'(by omega)) := List.getElem?_eq_getElem _
          simpa [List.getD_eq_getElem?_getD, e1, e2] using q i _ _ e1 e2
theorem ro_inFl {y : D} {μ : Mu} {P : D → Mu → Prop} (hf : flatD y = true) (h : P (.bl (inOffD y)) μ) : RO K (rInA K) y (.tup [.str "off", .str "rest"]) μ P := fun G H al v w A r1 r2 Q hQ => by
  obtain ⟨a, vs, rfl, sq, rs⟩ := (Ts.tup _).get A r2
  have e : vs = (["off", "rest"] : List Str).map V.str := Rps.strs (ns := ["off", "rest"]) rs
  subst e
  have hv : flatV v = true := by
    cases y <;> simp [flatD] at hf <;> cases r1 <;> rfl
  refine .inl ⟨a, _, rfl, .inr sq, hv, flat_strs _, hQ.now A (.bl _) ?_⟩
  rw [if_neg (by simp)]
  have e : inV v ((["off", "rest"] : List Str).map V.str) = inOffD y := by
    cases y <;> simp [flatD] at hf <;> cases r1
    · rfl
    · rfl
    · rfl
    · rw [inV_strs]
      simp [inOffD]
  rw [e]
  exact h
theorem d_is_put : ∀ ds μ P PX, c_is_put K ds μ P PX → MuCl μ μ.length → clL ds μ.length = true → ∀ B E, XAg K B (RetX μ.length PX) E → DS K B (t_is_put K E) (startD ["pair"] ds) μ (fnE μ.length P) := by
  intro ds μ P PX h hm hc B E hE
  obtain ⟨d, rfl, hx, h⟩ := h
  have ret : ∀ b, b = isPutD d → Ret μ.length P (.bl b) μ := fun b e => ret_same0 (Nat.le_refl _) hm rfl (by rw [e]; exact h)
  show DS K B _ [some d] μ _
  unfold t_is_put
  refine ds_ret (de_andV (de_cb ?_))
  wtm_at "g"
  refine rc_isiD hx.dat (by decide) ?_
  refine ⟨_, rfl, ?_⟩
  cases ht : isTy d "tuple" with
  | false =>
    refine ⟨fun z => (nomatch z), fun _ => ret false ?_⟩
    cases d <;> first | rfl | simp [isTy] at ht
  | true =>
    obtain ⟨ys, rfl⟩ := isTy_tuple ht
    have hyd : ∀ x ∈ ys, x.dat = true := by
      have := hx.dat
      rw [D.dat, datL_iff] at this
      exact this
    refine ⟨fun _ => ?_, fun z => (nomatch z)⟩
    refine de_andV (de_op ?_)
    wtm_at "g"
    refine rc_lenT' (.tup _) ?_
    wtm_at "g"
    by_cases hy2 : ys.length = 2
    · obtain ⟨a, b, rfl⟩ : ∃ a b, ys = [a, b] := by
        match ys, hy2 with
        | [a, b], _ => exact ⟨a, b, rfl⟩
      obtain ⟨h1, h2⟩ := hx.two a b rfl
      refine ⟨_, rfl, ?_⟩
      rw [show decide ((([a, b] : List D).length : Int) = 2) = true from rfl]
      refine ⟨fun _ => ?_, fun z => (nomatch z)⟩
      refine de_andV (de_call hE ?_)
      wtm_at "g"
      refine ro_ixT (.tup _) (i := 0) rfl ?_
      wtm_at "g"
      refine ⟨a, rfl, hyd a (by simp), h1, ?_⟩
      refine ⟨_, rfl, ?_⟩
      cases ha : isNameD a with
      | false =>
        refine ⟨fun z => (nomatch z), fun _ => ret false ?_⟩
        cases a with
        | str n => cases b with
          | str s =>
            have ha : decide (nameOk n) = false := ha
            show false = (decide (nameOk n) && decide (s = "off" ∨ s = "rest"))
            rw [ha]
            rfl
          | _ => rfl
        | _ => rfl
      | true =>
        obtain ⟨n, rfl⟩ : ∃ n, a = .str n := by cases a <;> simp [isNameD] at ha; exact ⟨_, rfl⟩
        refine ⟨fun _ => ?_, fun z => (nomatch z)⟩
        refine de_op (de_op ?_)
        wtm_at "g"
        refine ro_ixT (.tup _) (i := 1) rfl ?_
        refine de_tupZ ?_
        wtm_at "E"
        refine ro_inFl h2 (ret _ ?_)
        have ha : decide (nameOk n) = true := ha
        cases b with
        | str s =>
          show decide (s = "off" ∨ s = "rest") = (decide (nameOk n) && decide (s = "off" ∨ s = "rest"))
          rw [ha]
          rfl
        | _ => rfl
    · refine ⟨_, rfl, ?_⟩
      rw [show decide ((ys.length : Int) = 2) = false by simp; omega]
      refine ⟨fun z => (nomatch z), fun _ => ret false ?_⟩
      unfold isPutD
      split
      · rename_i q
        injection q with q
        subst q
        exact absurd rfl hy2
      · rfl
theorem ded_nodup : ∀ (xs : List Str), xs.Nodup → ∀ i, i ≤ xs.length → DlSet.ded xs i = xs.take i
  | xs, h, 0, _ => by simp [DlSet.ded]
  | xs, h, i + 1, hi => by
    have e : xs[i]? = some (xs[i]'(by omega)) := List.getElem?_eq_getElem _
    rw [DlSet.ded_succ e, ded_nodup xs h i (by omega), if_neg, List.take_add_one, e]
    · rfl
    · intro hx
      rw [List.any_eq_true] at hx
      obtain ⟨y, hy, ey⟩ := hx
      have ey' : y = xs[i] := by simpa using ey
      subst ey'
      obtain ⟨j, hj, ej⟩ := List.mem_take_iff_getElem.mp hy
      have hj' : j < i := by omega
      exact (List.pairwise_iff_getElem.mp h j i (by omega) (by omega) hj') ej
theorem acts_get {ss : List (Str × Str)} {i : Nat} {d : D} (h : (ss.map actD)[i]? = some d) : ∃ s, ss[i]? = some s ∧ d = actD s := by
  rw [List.getElem?_map] at h
  cases q : ss[i]? with
  | none => rw [q] at h; cases h
  | some s => rw [q] at h; exact ⟨s, rfl, (Option.some.inj h).symm⟩
def actN : D → D
  | .tup [n, _] => n
  | _ => .non
theorem ded_take (xs : List Str) (i : Nat) : DlSet.ded xs i = DlSet.ded (xs.take i) i := by
  unfold DlSet.ded
  rw [List.take_take, Nat.min_self]
theorem ded_full (xs : List Str) : ∀ i, i ≤ xs.length → (DlSet.ded xs i).length = i → (xs.take i).Nodup
  | 0, _, _ => by simp
  | i + 1, hi, h => by
    have e : xs[i]? = some (xs[i]'(by omega)) := List.getElem?_eq_getElem _
    have hle := DlSet.ded_len xs i
    rw [DlSet.ded_succ e] at h
    split at h
    · omega
    · rename_i hx
      rw [List.length_append] at h
      have hi' : (DlSet.ded xs i).length = i := by simpa using h
      have nd := ded_full xs i (by omega) hi'
      have ed : DlSet.ded xs i = xs.take i := by
        rw [ded_take, ded_nodup _ nd i (by rw [List.length_take]; omega), List.take_take, Nat.min_self]
      rw [ed] at hx
      rw [List.take_add_one, e]
      show (xs.take i ++ [xs[i]]).Nodup
      rw [List.nodup_append]
      refine ⟨nd, by simp, fun a ha b hb => ?_⟩
      simp at hb
      subst hb
      exact fun q => hx (List.any_eq_true.mpr ⟨a, ha, by simp [q]⟩)
theorem ded_iff (xs : List Str) : decide (((DlSet.ded xs xs.length).length : Int) = (xs.length : Int)) = decide xs.Nodup := by
  rw [Bool.eq_iff_iff, decide_eq_true_eq, decide_eq_true_eq]
  constructor
  · intro h
    have := ded_full xs xs.length (Nat.le_refl _) (by omega)
    rwa [List.take_length] at this
  · intro h
    rw [ded_nodup _ h _ (Nat.le_refl _), List.take_length]
theorem puts_all : ∀ {xs : List D}, xs.all isPutD = true → ∃ ps : List (Str × Str), xs = ps.map actD ∧ ∀ p ∈ ps, nameOk p.1 ∧ (p.2 = "off" ∨ p.2 = "rest")
  | [], _ => ⟨[], rfl, by simp⟩
  | x :: xs, h => by
    rw [List.all_cons, Bool.and_eq_true] at h
    obtain ⟨ps, rfl, hp⟩ := puts_all h.2
    have h1 := h.1
    unfold isPutD at h1
    split at h1
    · rename_i n s
      simp only [Bool.and_eq_true, decide_eq_true_eq] at h1
      exact ⟨(n, s) :: ps, rfl, fun p hp' => by
        rcases List.mem_cons.mp hp' with rfl | hp'
        · exact h1
        · exact hp p hp'⟩
    · cases h1
theorem acts_all {ps : List (Str × Str)} (h : ActsOk ps) : (ps.map actD).all isPutD = true := by
  rw [List.all_map, List.all_eq_true]
  intro p hp
  obtain ⟨h1, h2⟩ := h.each p hp
  show (decide (nameOk p.1) && decide (p.2 = "off" ∨ p.2 = "rest")) = true
  rw [decide_eq_true h1, decide_eq_true h2]
  rfl
theorem rc_notList {x : D} {μ : Mu} {P : D → Mu → Prop} (h : datA x) (hl : ¬ ∃ xs, x = .lst xs) (p : P (.bl false) μ) : RC K (rIsi K) [x, .ty "list"] μ P := by
  rcases h with hd | ⟨gs, rfl⟩
  · refine rc_isiD hd (by decide) ?_
    rw [show isTy x "list" = false by cases x <;> first | rfl | exact absurd ⟨_, rfl⟩ hl]
    exact p
  · exact rc_isiB (n := "dict") rfl (by rfl) p
theorem d_good_puts : ∀ ds μ P PX, c_good_puts K ds μ P PX → MuCl μ μ.length → clL ds μ.length = true → ∀ B E, XAg K B (RetX μ.length PX) E → DS K B (t_good_puts K E) (startD ["puts", "pair", "name", "sort"] ds) μ (fnE μ.length P) := by
  intro ds μ P PX h hm hc B E hE
  obtain ⟨x, d, rfl, fz, hX, hy, hn⟩ := h
  have yes : (∃ ps, PutsIs d ps) → Ret μ.length P (.bl true) μ := fun q => ret_same0 (Nat.le_refl _) hm rfl (hy q)
  have no : (¬ ∃ ps, PutsIs d ps) → Ret μ.length P (.bl false) μ := fun q => ret_same0 (Nat.le_refl _) hm rfl (hn q)
  show DS K B _ [some x, none, none, none] μ _
  unfold t_good_puts
  by_cases hx : x = .non
  · subst hx
    obtain rfl : D.non = d := by cases fz; rfl
    wtm_at "A"
    exact yes ⟨[], ⟨by simp, by simp, by simp⟩, .inr ⟨rfl, rfl⟩⟩
  refine q_when (dt_B (de_isNZ ?_))
  wtm_at "v"
  refine np_f hx ⟨false, rfl, fun z => absurd z (by simp), fun _ => ?_⟩
  have hdn : d ≠ .non := fun e => by
    subst e
    cases fz
    exact hx rfl
  by_cases hlst : ∃ xs, d = .lst xs
  · obtain ⟨xs, rfl⟩ := hlst
    have hl : Ls μ x xs := by
      cases fz with
      | id => exact .lst _
      | own h => exact .own h
    have ht : tyD μ x = some "list" := by
      cases fz with
      | id => rfl
      | own h => simp [tyD, h]
    have hxd : ∀ y ∈ xs, y.dat = true := by
      rcases hX.dat with this | ⟨gs, e⟩
      · rw [D.dat, datL_iff] at this
        exact this
      · cases e
    obtain ⟨S, wk⟩ := hl.wk
    refine q_when (dt_or (dt_not (dt_truth (de_cb ?_))))
    wtm_at "g"
    refine rc_isiB ht (by rfl) ?_
    refine ⟨_, rfl, fun _ => ?_, fun z => (nomatch z)⟩
    refine dt_or (dt_test (de_op ?_))
    wtm_at "g"
    refine rc_lenL hl ?_
    wtm_at "g"
    refine ⟨_, rfl, fun hb => ?_, fun hb => ⟨fun _ => ?_, fun z => (nomatch z)⟩⟩
    · have h4 : xs.length ≤ 4 := by
        have : ¬ ((4 : Int) < (xs.length : Int)) := by simpa using hb
        omega
      refine dt_not (dt_truth (de_cb (da_cons ?_)))
      refine lc_map (fun d => .bl (isPutD d)) (gw_name (by simp)) ?_
      refine di_any ?_
      wtm_at "v"
      refine ⟨xs, S, wk, wk.now, by omega, fun i d hd => ?_, fun out ho => ?_⟩
      · have hdm := List.mem_of_getElem? hd
        refine dg_name ⟨rfl, de_call XAg.none ?_⟩
        wtm_at "E"
        exact ⟨d, rfl, hX.each xs rfl h4 d hdm, rfl, rfl⟩
      refine da_nil (rc_all (bs := xs.map isPutD) (by rw [← ho, List.map_map]; exact .lst _) ?_)
      rw [List.all_map]
      show ∃ b, D.bl (xs.all isPutD) = .bl b ∧ _
      refine ⟨_, rfl, ?_⟩
      cases hall : xs.all isPutD with
      | false =>
        refine ⟨fun _ => ?_, fun z => (nomatch z)⟩
        refine ds_ret ?_
        wtm_at "E"
        refine no ?_
        rintro ⟨ps, hok, e | ⟨e, _⟩⟩
        · unfold actsD at e
          cases e
          rw [acts_all hok] at hall
          cases hall
        · cases e
      | true =>
        refine ⟨fun z => (nomatch z), fun _ => ?_⟩
        obtain ⟨ps, rfl, hps⟩ := puts_all hall
        rw [List.length_map] at h4
        refine ds_ret (de_op (de_lenSetS ?_))
        refine lc_map actN (gw_tup (gws_cons (i := 2) (vs := [2, 3]) (by simp) (gws_cons (i := 3) (by simp) gws_nil))) ?_
        refine di_any ?_
        wtm_at "v"
        refine ⟨_, S, wk, wk.now, by rw [List.length_map]; omega, fun i d hd => ?_, fun out ho => ?_⟩
        · obtain ⟨p, hpi, rfl⟩ := acts_get hd
          unfold actD
          refine dg_tup rfl ?_
          wtm_at "E"
          refine ⟨rfl, ?_⟩
          wtm_at "v"
          exact ⟨rfl, rfl⟩
        refine ⟨ps.map (·.1), by rw [← ho, List.map_map, List.map_map]; exact .lst _, by rw [List.length_map]; omega, ?_⟩
        wtm_at "g"
        refine rc_lenL hl ?_
        have e := ded_iff (ps.map (·.1))
        rw [List.length_map] at e ⊢
        refine ro_eqI ?_
        rw [List.length_map, e]
        by_cases nd : (ps.map (·.1)).Nodup
        · rw [decide_eq_true nd]
          exact yes ⟨ps, ⟨h4, hps, nd⟩, .inl rfl⟩
        · rw [decide_eq_false nd]
          refine no ?_
          rintro ⟨qs, hok, e | ⟨e, _⟩⟩
          · rw [actsD_inj (ps := ps) e] at nd
            exact nd hok.nd
          · cases e
    · have h4 : ¬ xs.length ≤ 4 := by
        have : ((4 : Int) < (xs.length : Int)) := by simpa using hb
        omega
      refine ds_ret ?_
      wtm_at "E"
      refine no ?_
      rintro ⟨ps, hok, e | ⟨e, _⟩⟩
      · unfold actsD at e
        cases e
        rw [List.length_map] at h4
        exact h4 hok.most
      · cases e
  · obtain rfl : x = d := by
      cases fz with
      | id => rfl
      | own h => exact absurd ⟨_, rfl⟩ hlst
    refine q_when (dt_or (dt_not (dt_truth (de_cb ?_))))
    wtm_at "g"
    refine rc_notList hX.dat hlst ?_
    refine ⟨_, rfl, fun z => (nomatch z), fun _ => ⟨fun _ => ?_, fun z => (nomatch z)⟩⟩
    refine ds_ret ?_
    wtm_at "E"
    refine no ?_
    rintro ⟨ps, hok, e | ⟨e, _⟩⟩
    · exact hlst ⟨_, e⟩
    · exact hdn e
theorem cl_kept (k : Option (List Int)) (n : Nat) : (keptD k).cl n = true := by
  cases k with
  | none => rfl
  | some ys => simp only [keptD, intsD, D.cl, cl_ints]
theorem cl_acts (ps : List (Str × Str)) (n : Nat) : (actsD ps).cl n = true := by
  unfold actsD D.cl
  exact clL_map fun x _ => by simp [actD, D.cl, clL]
theorem Fz.set {μ : Mu} {x d : D} {k : Nat} {o : MO} {C : Addr} {gs : List (Str × D)} (h : Fz μ x d) (hk : μ[k]? = some (.ins C gs)) : Fz (μ.set k o) x d := by
  cases h with
  | id => exact .id _
  | @own j ds h =>
    have : k ≠ j := fun e => by rw [e, h] at hk; cases hk
    exact .own (by rw [List.getElem?_set_ne this]; exact h)
theorem Fz.list {μ : Mu} {x : D} {ds : List D} (h : Fz μ x (.lst ds)) : Ls μ x ds := by
  cases h with
  | id => exact .lst _
  | own h => exact .own h
theorem d_Feast_init (kf : KFe K) : ∀ ds μ P PX, c_Feast_init K ds μ P PX → MuCl μ μ.length → clL ds μ.length = true → ∀ B E, XAg K B (RetX μ.length PX) E → DS K B (t_Feast_init K E) (startD ["self", "name", "place", "days", "years", "puts"] ds) μ (fnE μ.length P) := by
  intro ds μ P PX h hm hc B E hE
  obtain ⟨k, a, b, c, xk, dk, xp, dp, rfl, hk, had, hal, hbd, hcd, fk, hkd, fp, hpx, hyes, hno⟩ := h
  show DS K B _ [some (.own k), some a, some b, some c, some xk, some xp] μ _
  have c1 := kf.cl; have c2 := kf.name; have c3 := kf.place; have c4 := kf.lasts; have c5 := kf.kept; have c6 := kf.acts
  have hset : ∀ z, (μ.set k z)[k]? = some z := fun z => set_get hk
  have bad : (∀ f, ¬ FeIs a b c dk dp f) → ∀ (ρ : En) (Pe : DEnds), DS K B (tRaise0 (He.ga K "BadFeast") E) ρ μ Pe := fun hn ρ Pe => ds_raise0 hE (retx_same0 hm rfl (hno hn))
  unfold t_Feast_init
  refine q_when (dt_or (dt_not (dt_truth (de_call hE ?_))))
  wtm_at "E"
  refine ⟨a, rfl, had, hal, ?_⟩
  refine ⟨_, rfl, ?_⟩
  cases ha : isNameD a with
  | false =>
    refine ⟨fun z => (nomatch z), fun _ => ⟨fun _ => bad (fun f q => ?_) _ _, fun z => (nomatch z)⟩⟩
    rw [q.a] at ha
    exact absurd q.good.name (by simpa [isNameD] using ha)
  | true =>
  obtain ⟨name, rfl⟩ : ∃ n, a = .str n := by cases a <;> simp [isNameD] at ha; exact ⟨_, rfl⟩
  have hn : nameOk name := by simpa [isNameD] using ha
  refine ⟨fun _ => ?_, fun z => (nomatch z)⟩
  refine dt_or (dt_not (dt_truth (de_call hE ?_)))
  wtm_at "E"
  refine ⟨b, _, _, rfl, hbd, ?_⟩
  refine ⟨_, rfl, ?_⟩
  cases hb : isNum b (-400) 399 with
  | false =>
    refine ⟨fun z => (nomatch z), fun _ => ⟨fun _ => bad (fun f q => ?_) _ _, fun z => (nomatch z)⟩⟩
    rw [q.b] at hb
    have h1 := q.good.p0; have h2 := q.good.p1
    simp [isNum] at hb
    omega
  | true =>
  obtain ⟨place, rfl⟩ : ∃ n, b = .int n := by cases b <;> simp [isNum] at hb; exact ⟨_, rfl⟩
  have hb : -400 ≤ place ∧ place ≤ 399 := by simpa [isNum] using hb
  refine ⟨fun _ => ?_, fun z => (nomatch z)⟩
  refine dt_not (dt_truth (de_call hE ?_))
  wtm_at "E"
  refine ⟨c, _, _, rfl, hcd, ?_⟩
  refine ⟨_, rfl, ?_⟩
  cases hcc : isNum c 1 40 with
  | false =>
    refine ⟨fun _ => bad (fun f q => ?_) _ _, fun z => (nomatch z)⟩
    rw [q.c] at hcc
    have h1 := q.good.l0; have h2 := q.good.l1
    simp [isNum] at hcc
    omega
  | true =>
  obtain ⟨lasts, rfl⟩ : ∃ n, c = .int n := by cases c <;> simp [isNum] at hcc; exact ⟨_, rfl⟩
  have hcc : 1 ≤ lasts ∧ lasts ≤ 40 := by simpa [isNum] using hcc
  refine ⟨fun z => (nomatch z), fun _ => ?_⟩
  refine q_when (dt_or (dt_not (dt_truth (de_call hE ?_))))
  wtm_at "E"
  refine ⟨xk, dk, rfl, fk, hkd, ?_⟩
  refine ⟨_, rfl, ?_⟩
  cases hgy : goodYs dk with
  | false =>
    refine ⟨fun z => (nomatch z), fun _ => ⟨fun _ => bad (fun f q => ?_) _ _, fun z => (nomatch z)⟩⟩
    rw [q.k, goodYs_of q.good.kept] at hgy
    cases hgy
  | true =>
  obtain ⟨kp, rfl, hkp⟩ := goodYs_is hgy
  refine ⟨fun _ => ?_, fun z => (nomatch z)⟩
  refine dt_not (dt_truth (de_call hE ?_))
  wtm_at "E"
  refine ⟨xp, dp, rfl, fp, hpx, fun hps => ⟨_, rfl, fun z => (nomatch z), fun _ => ?_⟩, fun hps => ⟨_, rfl, fun _ => bad (fun f q => hps ⟨f.acts, q.p⟩) _ _, fun z => (nomatch z)⟩⟩
  obtain ⟨acts, hps⟩ := hps
  obtain ⟨f, hf⟩ : ∃ f : FeT, f = ⟨name, place, lasts, kp, acts⟩ := ⟨_, rfl⟩
  have e1 : name = f.name := by rw [hf]
  have e2 : place = f.place := by rw [hf]
  have e3 : lasts = f.lasts := by rw [hf]
  have e4 : kp = f.kept := by rw [hf]
  have e5 : acts = f.acts := by rw [hf]
  subst e1
  subst e2
  subst e3
  subst e4
  subst e5
  have hg : GFe f := ⟨hn, hb.1, hb.2, hcc.1, hcc.2, hkp, hps.1⟩
  have h := hyes f ⟨hg, rfl, rfl, rfl, rfl, hps⟩
  wtm_at "A"
  refine pp_own hk c1 c2 (of_decide_eq_true (by rfl)) ?_
  wtm_at "A"
  refine pp_own (hset _) c1 c3 (of_decide_eq_true (by rfl)) ?_
  rw [set_set']
  wtm_at "A"
  refine pp_own (hset _) c1 c4 (of_decide_eq_true (by rfl)) ?_
  rw [set_set']
  generalize hz : MO.ins (cFe K) (putD "lasts" (.int f.lasts) (putD "place" (.int f.place) (putD "name" (.str f.name) []))) = z
  have kE : DE K B (tIf (tB (tIsN (tVar 4))) (tC .non) (tCB (rListOf K) (tCons (tVar 4) tNil))) [some (.own k), some (.str f.name), some (.int f.place), some (.int f.lasts), some xk, some xp] (μ.set k z) (fun d μ' => d = keptD f.kept ∧ μ' = μ.set k z) := by
    have fk' := fk.set (o := z) hk
    cases q : f.kept with
    | none =>
      rw [q] at fk'
      have hx : xk = .non := by
        unfold keptD at fk'
        cases fk' with
        | id => rfl
      subst hx
      wtm_at "A"
      exact ⟨rfl, rfl⟩
    | some ys =>
      rw [q] at fk'
      unfold keptD intsD at fk'
      have hne : xk ≠ .non := by
        intro e
        subst e
        cases fk'
      wtm_at "E"
      refine np_f hne ?_
      wtm_at "E"
      refine rc_list fk'.list ?_
      exact ⟨rfl, rfl⟩
  wtm_at "s3"
  refine kE.imp ?_
  rintro d μ' ⟨rfl, rfl⟩
  wtm_at "A"
  refine pp_own (by rw [← hz]; exact hset _) c1 c5 (of_decide_eq_true (by rfl)) ?_
  rw [set_set']
  have fp' := fp.set (o := MO.ins (cFe K) (putD "kept" (keptD f.kept) (putD "lasts" (.int f.lasts) (putD "place" (.int f.place) (putD "name" (.str f.name) []))))) hk
  have kE2 : DE K B (tIf (tB (tIsN (tVar 5))) (tLst tNil) (tCB (rListOf K) (tCons (tVar 5) tNil))) [some (.own k), some (.str f.name), some (.int f.place), some (.int f.lasts), some xk, some xp] (μ.set k (MO.ins (cFe K) (putD "kept" (keptD f.kept) (putD "lasts" (.int f.lasts) (putD "place" (.int f.place) (putD "name" (.str f.name) [])))))) (fun d μ' => d = actsD f.acts ∧ μ' = μ.set k (MO.ins (cFe K) (putD "kept" (keptD f.kept) (putD "lasts" (.int f.lasts) (putD "place" (.int f.place) (putD "name" (.str f.name) [])))))) := by
    rcases hps.2 with e | ⟨e, e2⟩
    · subst e
      unfold actsD at fp'
      have hne : xp ≠ .non := by
        intro e
        subst e
        cases fp'
      wtm_at "E"
      refine np_f hne ?_
      wtm_at "E"
      refine rc_list fp'.list ?_
      exact ⟨rfl, rfl⟩
    · subst e
      have hx : xp = .non := by
        cases fp' with
        | id => rfl
      subst hx
      refine de_if (dt_B (de_isNZ ?_))
      wtm_at "v"
      refine np_t ⟨true, rfl, fun _ => ?_, fun z => absurd z (by simp)⟩
      refine de_lstZ ?_
      wtm_at "E"
      exact ⟨by rw [e2]; rfl, rfl⟩
  wtm_at "s3"
  refine kE2.imp ?_
  rintro d μ' ⟨rfl, rfl⟩
  wtm_at "E"
  refine pp_own (hset _) c1 c6 (of_decide_eq_true (by rfl)) ?_
  rw [set_set']
  refine ret_same0 (by simp) ?_ rfl h
  rw [List.length_set]
  refine hm.set ?_
  show clF (feF f) _ = true
  simp only [clF, feF, D.cl, cl_kept, cl_acts, Bool.and_self]
end
/-! ### draws of the calendar laws: contracts -/
/-- what is held: how many draws so far, the cells -/
structure Hd (k k2 : Nat) (c : Int) (ns : List Int) (μ : Mu) : Prop where
  a : μ[k]? = some (.lst [.int c, .own k2])
  b : μ[k2]? = some (.lst (ns.map D.int))
  ne : k ≠ k2
  c0 : 0 ≤ c
  n0 : 0 < ns.length
  n1 : ns.length ≤ 1000
def hold (μ : Mu) (k k2 : Nat) (c : Int) (ns : List Int) : Mu := (μ.set k (.lst [.int c, .own k2])).set k2 (.lst (ns.map D.int))
theorem hold_len {μ : Mu} {k k2 : Nat} {c : Int} {ns : List Int} : (hold μ k k2 c ns).length = μ.length := by simp [hold]
theorem hold_hold {μ : Mu} {k k2 : Nat} {c c' : Int} {ns ns' : List Int} (ne : k ≠ k2) : hold (hold μ k k2 c ns) k k2 c' ns' = hold μ k k2 c' ns' := by
  unfold hold
  rw [List.set_comm _ _ (Ne.symm ne), List.set_set, List.set_set]
theorem Hd.hold {μ : Mu} {k k2 : Nat} {c c' : Int} {ns ns' : List Int} (h : Hd k k2 c ns μ) (hc : 0 ≤ c') (hn : ns'.length = ns.length) : Hd k k2 c' ns' (Dl.hold μ k k2 c' ns') := by
  have h1 := (List.getElem?_eq_some_iff.mp h.a).1
  have h2 := (List.getElem?_eq_some_iff.mp h.b).1
  refine ⟨?_, ?_, h.ne, hc, by have := h.n0; omega, by have := h.n1; omega⟩
  · unfold Dl.hold
    rw [List.getElem?_set_ne (Ne.symm h.ne), List.getElem?_set_self h1]
  · unfold Dl.hold
    rw [List.getElem?_set_self (by simpa using h2)]
theorem Hd.app {μ : Mu} {k k2 : Nat} {c : Int} {ns : List Int} (h : Hd k k2 c ns μ) (ext : Mu) : Hd k k2 c ns (μ ++ ext) := ⟨mu_old h.a, mu_old h.b, h.ne, h.c0, h.n0, h.n1⟩
theorem hold_app {μ ext : Mu} {k k2 : Nat} {c c' : Int} {ns ns' : List Int} (h : Hd k k2 c ns μ) : hold (μ ++ ext) k k2 c' ns' = hold μ k k2 c' ns' ++ ext := by
  have h1 := (List.getElem?_eq_some_iff.mp h.a).1
  have h2 := (List.getElem?_eq_some_iff.mp h.b).1
  unfold hold
  rw [List.set_append_left _ _ h1, List.set_append_left _ _ (by simpa using h2)]
theorem hold_get {μ : Mu} {k k2 j : Nat} {c : Int} {ns : List Int} (h1 : k ≠ j) (h2 : k2 ≠ j) : (hold μ k k2 c ns)[j]? = μ[j]? := by
  unfold hold
  rw [List.getElem?_set_ne h2, List.getElem?_set_ne h1]
theorem Hd.cl {μ : Mu} {k k2 : Nat} {c c' : Int} {ns ns' : List Int} (h : Hd k k2 c ns μ) (hm : MuCl μ μ.length) : MuCl (Dl.hold μ k k2 c' ns') (Dl.hold μ k k2 c' ns').length := by
  have h2 := (List.getElem?_eq_some_iff.mp h.b).1
  rw [hold_len]
  unfold Dl.hold
  refine (hm.set ?_).set ?_
  · simp [MO.cl, clL, D.cl, h2]
  · simp only [MO.cl]
    exact clL_map fun x _ => by simp [D.cl]
def c_law_draw (K : PySem.W.Frag) : CT := fun ds μ P PX => ∃ (k k2 : Nat) (c : Int) (ns : List Int) (m : Int), ds = [.own k, .int m] ∧ Hd k k2 c ns μ ∧ c < 2 ^ 40 ∧ 0 < m ∧ m < 2 ^ 200 ∧ ∀ (r : Int) (ns' : List Int), 0 ≤ r → r < m → ns'.length = ns.length → P (.int r) (hold μ k k2 (c + 1) ns')
def c_law_is (K : PySem.W.Frag) : CT := fun ds μ P PX => ∃ a : Int, ds = [.int a, .int a] ∧ P (.bl true) μ
/-- a list, a tuple of whole numbers -/
inductive SeqI (μ : Mu) : Bool → D → List Int → Prop
  | lst (xs : List Int) : SeqI μ true (.lst (xs.map D.int)) xs
  | own {k : Nat} {xs : List Int} (h : μ[k]? = some (.lst (xs.map D.int))) : SeqI μ true (.own k) xs
  | tup (xs : List Int) : SeqI μ false (.tup (xs.map D.int)) xs
def c_law_row_is (K : PySem.W.Frag) : CT := fun ds μ P PX => ∃ (x y : D) (b : Bool) (xs : List Int), ds = [x, y] ∧ SeqI μ b x xs ∧ SeqI μ b y xs ∧ xs.length ≤ 1000 ∧ P (.bl true) μ
def t_law_draw (K : PySem.W.Frag) (E : XK) : TS :=
    (tSeq (tAsg (tOp rModA (tOp (rIx K) (tVar 0) (tC (.int 0))) (tCB (rLen K) (tCons (tOp (rIx K) (tVar 0) (tC (.int 1))) tNil))) (gName 2))
      (tSeq (tAsg (tOp (rIx K) (tOp (rIx K) (tVar 0) (tC (.int 1))) (tVar 2)) (gName 3))
      (tSeq (tAugS (tVar 0) (tC (.int 0)) (tC (.int 1)) (rIxL K) (ipI fun i j => i + j) rSetL)
      (tSeq (tIfS (tTest (tOp (rI0 fun i j => .bl (decide (j ≤ i))) (tVar 3) (tC (.int 1000000000000000000)))) (tSeq (tAsg (tOp rFdivA (tVar 3) (tVar 1)) (gSub (tOp (rIx K) (tVar 0) (tC (.int 1))) (tVar 2) rSetL))
      (tRet (tOp rModA (tVar 3) (tVar 1)))) tNext)
      (tSeq (tAsg (tOp rModA (tOp (rAddA K) (tOp rModA (tVar 3) (tC (.int 2147483629))) (tOp rMulA (tC (.int 104729)) (tOp (rIx K) (tVar 0) (tC (.int 0))))) (tC (.int 2147483647))) (gName 4))
      (tSeq (tAsg (tOp rModA (tOp rMulA (tOp rModA (tOp (rI CPow fun i j => .int (i ^ j.toNat)) (tVar 4) (tC (.int 5))) (tC (.int 2147483647))) (tC (.int 48271))) (tC (.int 2147483629))) (gName 4))
      (tRet (tOp rModA (tOp rFdivA (tOp rModA (tOp (rI CPow fun i j => .int (i ^ j.toNat)) (tOp (rAddA K) (tVar 4) (tOp rMulA (tOp rModA (tVar 3) (tC (.int 1000003))) (tOp (rIx K) (tVar 0) (tC (.int 0))))) (tC (.int 3))) (tC (.int 2147483587))) (tC (.int 11))) (tVar 1)))))))))
def t_law_is (K : PySem.W.Frag) (E : XK) : TS :=
    (tRet (tAndV (tCB (rIsi K) (tCons (tVar 0) (tCons (tC (.ty "int")) tNil))) (tAndV (tNotV (tCB (rIsi K) (tCons (tVar 0) (tCons (tC (.ty "bool")) tNil)))) (tOp (rEqD K) (tVar 0) (tVar 1)))))
def t_law_row_is (K : PySem.W.Frag) (E : XK) : TS :=
    (tSeq (tIfS (tOr (tTest (tOp (rNeD K) (tCB (rIsi K) (tCons (tVar 0) (tCons (tC (.ty "list")) tNil))) (tCB (rIsi K) (tCons (tVar 1) (tCons (tC (.ty "list")) tNil))))) (tTest (tOp (rNeD K) (tCB (rIsi K) (tCons (tVar 0) (tCons (tC (.ty "tuple")) tNil))) (tCB (rIsi K) (tCons (tVar 1) (tCons (tC (.ty "tuple")) tNil)))))) (tRet (tC (.bl false))) tNext)
      (tSeq (tIfS (tTest (tOp (rNeD K) (tCB (rLen K) (tCons (tVar 0) tNil)) (tCB (rLen K) (tCons (tVar 1) tNil)))) (tRet (tC (.bl false))) tNext)
      (tRet (tOp (rEqD K) (tLc (iRng1 (tCons (tCB (rLen K) (tCons (tVar 1) tNil)) tNil)) (gName 2) (tNot (tTruth K (tCall (spD K (c_law_is K)) [] E0 (tCons (tOp (rIx K) (tVar 0) (tVar 2)) (tCons (tOp (rIx K) (tVar 1) (tVar 2)) tNil))))) (tVar 2) [2]) (tLst tNil)))))
section
variable {K : PySem.W.Frag}
theorem d_law_draw : ∀ ds μ P PX, c_law_draw K ds μ P PX → MuCl μ μ.length → clL ds μ.length = true → ∀ B E, XAg K B (RetX μ.length PX) E → DS K B (t_law_draw K E) (startD ["_law_hold", "_law_many", "_law_spot", "_law_cell", "_law_mark"] ds) μ (fnE μ.length P) := by
  intro ds μ P PX h hm hc B E hE
  obtain ⟨k, k2, c, ns, m, rfl, hd, hc40, hm0, hm1, h⟩ := h
  show DS K B _ [some (.own k), some (.int m), none, none, none] μ _
  have hn0 := hd.n0; have hc0 := hd.c0
  unfold t_law_draw
  wtm_at "A"
  refine ro_ixL (.own hd.a) (d := .int c) rfl ?_
  wtm_at "A"
  refine ro_ixL (.own hd.a) (d := .own k2) rfl ?_
  wtm_at "A"
  refine rc_lenL (.own hd.b) ?_
  rw [List.length_map]
  wtm_at "A"
  refine ro_ixL (.own hd.a) (d := .own k2) rfl ?_
  have hs0 := Int.emod_nonneg c (b := (ns.length : Int)) (by omega)
  have hs1 := Int.emod_lt_of_pos c (b := (ns.length : Int)) (by omega)
  obtain ⟨cell, hcell, hcell'⟩ := atNN (xs := ns) hs0 hs1
  wtm_at "A"
  refine ro_ixL (.own hd.b) (d := .int cell) (at_map (j := (c % ns.length).toNat) (by omega) hcell') ?_
  wtm_at "A"
  refine q_augS ?_
  wtm_at "A"
  refine ro_ixLL (.own hd.a) (d := .int c) rfl ?_
  wtm_at "A"
  refine rset_lst hd.a (j := 0) rfl ?_
  have e1 : (μ.set k (.lst ([D.int c, .own k2].set 0 (.int (c + 1))))) = hold μ k k2 (c + 1) ns := by
    unfold hold
    show μ.set k (.lst [.int (c + 1), .own k2]) = _
    apply List.ext_getElem?
    intro i
    by_cases e : k2 = i
    · subst e
      rw [List.getElem?_set_self (by simpa using (List.getElem?_eq_some_iff.mp hd.b).1), List.getElem?_set_ne hd.ne, hd.b]
    · rw [List.getElem?_set_ne e]
  rw [e1]
  have hd1 : Hd k k2 (c + 1) ns (hold μ k k2 (c + 1) ns) := hd.hold (by omega) rfl
  have ret : ∀ (r : Int) (ns' : List Int), 0 ≤ r → r < m → ns'.length = ns.length → Ret μ.length P (.int r) (hold μ k k2 (c + 1) ns') := fun r ns' h0 h1 hn => ret_same0 (by rw [hold_len]; exact Nat.le_refl _) (hd.cl hm) rfl (h r ns' h0 h1 hn)
  have hr : ∀ z : Int, 0 ≤ z % m ∧ z % m < m := fun z => ⟨Int.emod_nonneg z (by omega), Int.emod_lt_of_pos z hm0⟩
  wtm_at "A"
  · refine ro_fdiv hm0 (log2S hm0 hm1) ?_
    wtm_at "A"
    refine ro_ixL (.own hd1.a) (d := .own k2) rfl ?_
    wtm_at "A"
    refine rset_lst hd1.b (j := (c % ns.length).toNat) (by unfold ixN; rw [if_pos hs0, if_pos (by rw [List.length_map]; omega)]) ?_
    rw [show (hold μ k k2 (c + 1) ns).set k2 (.lst ((ns.map D.int).set (c % ns.length).toNat (.int (cell / m)))) = hold μ k k2 (c + 1) (ns.set (c % ns.length).toNat (cell / m)) by
      unfold hold
      rw [List.set_set, List.map_set]]
    wtm_at "A"
    exact ret _ _ (hr _).1 (hr _).2 (by simp)
  · have q1 := Int.emod_nonneg cell (b := 2147483629) (by decide)
    have q2 := Int.emod_lt_of_pos cell (b := 2147483629) (by decide)
    have q3 := Int.emod_nonneg cell (b := 1000003) (by decide)
    have q4 := Int.emod_lt_of_pos cell (b := 1000003) (by decide)
    refine ro_ixL (.own hd1.a) (d := .int (c + 1)) rfl ?_
    wtm_at "A"
    have q5 := Int.emod_nonneg (cell % 2147483629 + 104729 * (c + 1)) (b := 2147483647) (by decide)
    have q6 := Int.emod_lt_of_pos (cell % 2147483629 + 104729 * (c + 1)) (b := 2147483647) (by decide)
    refine ro_pow ⟨by decide, by decide, by omega⟩ ?_
    generalize hz : (cell % 2147483629 + 104729 * (c + 1)) % 2147483647 = z at *
    wtm_at "A"
    refine ro_ixL (.own hd1.a) (d := .int (c + 1)) rfl ?_
    wtm_at "A"
    generalize hy : z ^ (5 : Int).toNat % 2147483647 * 48271 % 2147483629 = y at *
    have q7 : 0 ≤ y ∧ y < 2147483629 := by
      rw [← hy]
      exact ⟨Int.emod_nonneg _ (by decide), Int.emod_lt_of_pos _ (by decide)⟩
    have q8 : 0 ≤ cell % 1000003 * (c + 1) ∧ cell % 1000003 * (c + 1) ≤ 1000003 * (2 ^ 40 + 1) := by
      refine ⟨Int.mul_nonneg q3 (by omega), ?_⟩
      exact Int.mul_le_mul (by omega) (by omega) (by omega) (by decide)
    refine ro_pow ⟨by decide, by decide, by omega⟩ ?_
    wtm_at "A"
    refine ro_fdiv (by decide) (by decide) ?_
    wtm_at "A"
    exact ret _ _ (hr _).1 (hr _).2 rfl
theorem d_law_is : ∀ ds μ P PX, c_law_is K ds μ P PX → MuCl μ μ.length → clL ds μ.length = true → ∀ B E, XAg K B (RetX μ.length PX) E → DS K B (t_law_is K E) (startD ["_law_found", "_law_due"] ds) μ (fnE μ.length P) := by
  intro ds μ P PX h hm hc B E hE
  obtain ⟨a, rfl, h⟩ := h
  show DS K B _ [some (.int a), some (.int a)] μ _
  unfold t_law_is
  wtm_at "A"
  wtm_at "r"
  simpa using h
theorem SeqI.len {μ : Mu} {b : Bool} {x : D} {xs : List Int} {P : D → Mu → Prop} (h : SeqI μ b x xs) (p : P (.int (xs.length : Int)) μ) : RC K (rLen K) [x] μ P := by
  have e : ((xs.map D.int).length : Int) = (xs.length : Int) := by rw [List.length_map]
  cases h with
  | lst => exact rc_lenL (.lst _) (by rw [e]; exact p)
  | own h => exact rc_lenL (.own h) (by rw [e]; exact p)
  | tup => exact rc_lenT' (.tup _) (by rw [e]; exact p)
theorem SeqI.ix {μ : Mu} {b : Bool} {x : D} {xs : List Int} {P : D → Mu → Prop} {i : Int} {j : Nat} {n : Int} (h : SeqI μ b x xs) (e : i = (j : Int)) (hj : xs[j]? = some n) (p : P (.int n) μ) : RO K (rIx K) x (.int i) μ P := by
  cases h with
  | lst => exact ro_ixL (.lst _) (at_map e hj) p
  | own h => exact ro_ixL (.own h) (at_map e hj) p
  | tup => exact ro_ixT (.tup _) (at_map e hj) p
theorem SeqI.isL {μ : Mu} {b : Bool} {x : D} {xs : List Int} {P : D → Mu → Prop} (h : SeqI μ b x xs) (p : P (.bl b) μ) : RC K (rIsi K) [x, .ty "list"] μ P := by
  cases h with
  | lst => exact rc_isiB rfl (by rfl) p
  | own h => exact rc_isiB (n := "list") (by simp [tyD, h]) (by rfl) p
  | tup => exact rc_isiB rfl (by rfl) p
theorem SeqI.isT {μ : Mu} {b : Bool} {x : D} {xs : List Int} {P : D → Mu → Prop} (h : SeqI μ b x xs) (p : P (.bl (!b)) μ) : RC K (rIsi K) [x, .ty "tuple"] μ P := by
  cases h with
  | lst => exact rc_isiB rfl (by rfl) p
  | own h => exact rc_isiB (n := "list") (by simp [tyD, h]) (by rfl) p
  | tup => exact rc_isiB rfl (by rfl) p
theorem d_law_row_is : ∀ ds μ P PX, c_law_row_is K ds μ P PX → MuCl μ μ.length → clL ds μ.length = true → ∀ B E, XAg K B (RetX μ.length PX) E → DS K B (t_law_row_is K E) (startD ["_law_found", "_law_due", "_law_k"] ds) μ (fnE μ.length P) := by
  intro ds μ P PX h hm hc B E hE
  obtain ⟨x, y, b, xs, rfl, hx, hy, hl, h⟩ := h
  show DS K B _ [some x, some y, none] μ _
  unfold t_law_row_is
  wtm_at "g"
  refine hx.isL ?_
  wtm_at "g"
  refine hy.isL ?_
  wtm_at "g"
  refine ⟨_, rfl, br' (fun _ => ?_) (fun hb => by simp at hb)⟩
  wtm_at "g"
  refine hx.isT ?_
  wtm_at "g"
  refine hy.isT ?_
  wtm_at "g"
  refine ⟨_, rfl, br (fun hb => by simp at hb) (fun _ => ?_)⟩
  wtm_at "g"
  refine hx.len ?_
  wtm_at "g"
  refine hy.len ?_
  wtm_at "g"
  refine ⟨_, rfl, br (fun hb => by simp at hb) (fun _ => ?_)⟩
  wtm_at "g"
  refine lc_filt (fun _ => false) id (gw_name (by simp)) ?_
  wtm_at "g"
  refine hy.len ?_
  wtm_at "g"
  refine ⟨_, rfl, by omega, by omega, trivial, by rw [rangeD_length]; omega, fun i d hd => ?_, fun out ho => ?_⟩
  · obtain ⟨hi, rfl⟩ := rangeD_some hd
    have hget : xs[i]? = some (xs[i]'(by omega)) := List.getElem?_eq_getElem (by omega)
    wtm_at "g"
    refine ⟨rfl, ?_⟩
    wtm_at "g"
    refine de_call XAg.none ?_
    wtm_at "g"
    refine hx.ix (j := i) (by omega) hget ?_
    wtm_at "g"
    refine hy.ix (j := i) (by omega) hget ?_
    wtm_at "g"
    refine ⟨_, rfl, ?_⟩
    refine ⟨true, rfl, ?_⟩
    exact ⟨rfl, rfl, fun z => by cases z⟩
  have ho' : out = [] := by rw [← ho]; simp
  subst ho'
  wtm_at "g"
  refine de_lstZ ?_
  wtm_at "A"
  refine ro_eqNil (.id _) (n := 0) rfl ?_
  wtm_at "r"
  exact h
end
section
variable {K : PySem.W.Frag}
/-- hold = [0, list(script) if script != [] else [0]] -/
theorem de_hold0 {B : Bs} {ρ : En} {μ : Mu} {ns : List Int} {P : D → Mu → Prop} (e : ρ[0]? = some (some (.rdl (ns.map D.int)))) (hl : ns.length ≤ 63) (h : ∀ cs : List Int, Hd (μ.length + 1) μ.length 0 cs (μ ++ [.lst (cs.map D.int), .lst [.int 0, .own μ.length]]) → P (.own (μ.length + 1)) (μ ++ [.lst (cs.map D.int), .lst [.int 0, .own μ.length]])) :
    DE K B (tLst (tCons (tC (.int 0)) (tCons (tIf (tTest (tOp (rNeD K) (tVar 0) (tLst tNil))) (tCB (rListOf K) (tCons (tVar 0) tNil)) (tLst (tCons (tC (.int 0)) tNil))) tNil))) ρ μ P := by
  have fin : ∀ cs : List Int, 0 < cs.length → cs.length ≤ 63 → P (.own (μ ++ [MO.lst (cs.map D.int)]).length) (μ ++ [MO.lst (cs.map D.int)] ++ [MO.lst [.int 0, .own μ.length]]) := fun cs h0 h1 => by
    have := h cs ⟨by rw [List.getElem?_append_right (by omega)]; simp, by rw [List.getElem?_append_right (by omega)]; simp, by omega, by omega, h0, by omega⟩
    rw [List.append_assoc, List.length_append]
    exact this
  refine de_lstOZ ?_
  wtm_at "E"
  refine de_lstZ ?_
  wtm_at "E"
  refine ro_neD (n := 1) (m := 1) (.id _) (.id _) (by simpa [D.shp] using shpL_map (f := D.int) (n := 0) fun x _ => rfl) rfl ?_
  rw [show eqvD (.rdl (ns.map D.int)) (.lst []) = decide (ns = []) by
    have := eqv_nil (ns.map D.int)
    simp only [List.map_eq_nil_iff] at this
    rw [← this]
    simp only [eqvD, D.py]]
  wtm_at "E"
  · rename_i hb
    refine rc_listO (.rdl _) ?_
    wtm_at "E"
    exact fin ns (by cases ns with
      | nil => simp at hb
      | cons _ _ => simp) hl
  · refine de_lstOZ ?_
    wtm_at "E"
    exact fin [0] (by decide) (by decide)
theorem cal_dat (ls : List Int) : (intsD ls).dat = true := by
  unfold intsD D.dat
  rw [datL_iff]
  intro x hx
  obtain ⟨s, _, rfl⟩ := List.mem_map.mp hx
  rfl
theorem clF_cal (ls : List Int) (n : Nat) : clF (calF ls) n = true := by simp only [clF, calF, D.cl, intsD, cl_ints, Bool.and_self]
theorem Fz.app {μ : Mu} {x d : D} (h : Fz μ x d) (ext : Mu) : Fz (μ ++ ext) x d := by
  cases h with
  | id => exact .id _
  | own h => exact .own (mu_old h)
/-- Calendar(..) -/
theorem de_cal {B : Bs} {E : XK} {PX : PXT} {ts : TA} {ρ : En} {μ : Mu} {P : D → Mu → Prop} (hE : XAg K B PX E) (h : DA K B ts ρ μ fun ds μ1 => ∃ x ls, ds = [x] ∧ Fz μ1 x (intsD ls) ∧ GCal ls ∧ P (calD K ls) μ1) : DE K B (tMake (He.ga K "Calendar") (spD K (c_Calendar_init K)) [] E ts) ρ μ P := by
  refine de_make hE da_nd ?_
  refine fun σ G H al hB hσ hA Q hQ => h σ G H al hB hσ hA Q fun vs ds μ1 G1 H1 al1 n1 A1 r1 p1 => hQ vs ds μ1 G1 H1 al1 n1 A1 r1 ?_
  obtain ⟨x, ls, rfl, fz, hg, p⟩ := p1
  have fz' := fz.app [MO.ins (He.ga K "Calendar") []]
  refine ⟨_, x, intsD ls, rfl, mu_last, fz', cal_dat ls, fun ls' e hg' => ⟨rfl, calF ls, ?_, clF_cal ls _, p⟩, fun e => ?_⟩
  · have : ls' = ls := by
      unfold intsD at e
      injection e with e
      exact (List.map_inj_right (fun a b h => by injection h)).mp e.symm
    subst this
    exact set_last
  · exact absurd (areNums_of hg) (by rw [e]; simp)
end
/-! ### draws of the feast laws: contracts -/
def c_law_name (K : PySem.W.Frag) : CT := fun ds μ P PX => ∃ (k k2 : Nat) (c : Int) (ns : List Int), ds = [.own k] ∧ Hd k k2 c ns μ ∧ c < 2 ^ 38 ∧ ∀ (s : Str) (c' : Int) (ns' : List Int), nameOk s → c ≤ c' → c' ≤ c + 10 → ns'.length = ns.length → P (.str s) (hold μ k k2 c' ns')
def feL (f : FeT) : List D := [.str f.name, .int f.place, .int f.lasts, keptD f.kept, actsD f.acts]
def t_law_name (K : PySem.W.Frag) (E : XK) : TS :=
    (tSeq (tAsg (tLst (tCons (tC (.str "off")) (tCons (tC (.str "rest")) (tCons (tC (.str "free")) (tCons (tC (.str "feast")) (tCons (tC (.str "all")) (tCons (tC (.str "going")) (tCons (tC (.str "yearly")) (tCons (tC (.str "calendar")) tNil))))))))) (gName 1))
      (tSeq (tAsg (tCall (spD K (c_law_draw K)) [] E (tCons (tVar 0) (tCons (tC (.int 32)) tNil))) (gName 2))
      (tSeq (tIfS (tTest (tOp (rI0 fun i j => .bl (decide (i < j))) (tVar 2) (tC (.int 8)))) (tRet (tOp (rIx K) (tVar 1) (tVar 2))) tNext)
      (tSeq (tAsg (tC (.str "abcdefghijklmnopqrstuvwxyz")) (gName 3))
      (tRet (tBM K "str" (rJoin K) (tC (.str "")) (tCons (tLc (iRng1 (tCons (tOp (rAddA K) (tC (.int 1)) (tCall (spD K (c_law_draw K)) [] E (tCons (tVar 0) (tCons (tC (.int 8)) tNil)))) tNil)) (gName 4) tYes (tOp (rIx K) (tVar 3) (tCall (spD K (c_law_draw K)) [] E0 (tCons (tVar 0) (tCons (tC (.int 26)) tNil)))) [4]) tNil)))))))
section
variable {K : PySem.W.Frag}
theorem sum_ones : ∀ l : List Nat, (l.map fun _ => 1).sum = l.length
  | [] => rfl
  | a :: l => by rw [List.map_cons, List.sum_cons, sum_ones l, List.length_cons]; omega
theorem name_words : ∀ s ∈ (["off", "rest", "free", "feast", "all", "going", "yearly", "calendar"] : List Str), nameOk s := by decide +kernel
theorem d_law_name : ∀ ds μ P PX, c_law_name K ds μ P PX → MuCl μ μ.length → clL ds μ.length = true → ∀ B E, XAg K B (RetX μ.length PX) E → DS K B (t_law_name K E) (startD ["_law_hold", "_law_words", "_law_way", "_law_letters", "_law_k"] ds) μ (fnE μ.length P) := by
  intro ds μ P PX h hm hc B E hE
  obtain ⟨k, k2, c, ns, rfl, hd, hc38, h⟩ := h
  show DS K B _ [some (.own k), none, none, none, none] μ _
  have hc0 := hd.c0
  have ret : ∀ (s : Str) (c' : Int) (ns' : List Int), nameOk s → c ≤ c' → c' ≤ c + 10 → ns'.length = ns.length → Ret μ.length P (.str s) (hold μ k k2 c' ns') := fun s c' ns' h1 h2 h3 hn => ret_same0 (by rw [hold_len]; exact Nat.le_refl _) (hd.cl hm) rfl (h s c' ns' h1 h2 h3 hn)
  unfold t_law_name
  wtm_at "A"
  refine de_lstZ ?_
  wtm_at "A"
  refine ⟨k, k2, c, ns, 32, rfl, hd, by omega, by decide, by decide, fun w ns1 hw0 hw1 hn1 => ?_⟩
  have hd1 := hd.hold (c' := c + 1) (ns' := ns1) (by omega) hn1
  wtm_at "A"
  · obtain ⟨s, hs, hs'⟩ := atNN (xs := (["off", "rest", "free", "feast", "all", "going", "yearly", "calendar"] : List Str)) hw0 (by simpa using ‹w < 8›)
    refine ro_ixL (.lst _) (d := .str s) (at_map (f := D.str) (xs := ["off", "rest", "free", "feast", "all", "going", "yearly", "calendar"]) (j := w.toNat) (by omega) hs') ?_
    exact ret s _ ns1 (name_words s (List.mem_of_getElem? hs')) (by omega) (by omega) hn1
  · refine ⟨ty_str, ?_⟩
    refine da_cons ?_
    refine de_lc (gw_name (by simp)) ?_
    wtm_at "A"
    refine ⟨k, k2, _, ns1, 8, rfl, hd1, by omega, by decide, by decide, fun m ns2 hm0 hm1 hn2 => ?_⟩
    rw [hold_hold hd.ne]
    wtm_at "A"
    refine ⟨by omega, by omega, by rw [rangeD_length]; omega, fun i acc μ' => ∃ (cs : List Nat) (ns3 : List Int), acc = cs.map (fun c => D.str ⟨#[c]⟩) ∧ μ' = hold μ k k2 (c + 2 + i) ns3 ∧ ns3.length = ns.length ∧ cs.length = i ∧ ∀ x ∈ cs, x ∈ letters,
      ⟨[], ns2, rfl, by rw [show c + 1 + 1 = c + 2 + ((0 : Nat) : Int) by omega], by omega, rfl, by simp⟩, fun _ _ _ _ _ => trivial, ?_, ?_⟩
    · rintro i d acc μ' hd' ⟨cs, ns3, rfl, rfl, hn3, hli, hls⟩
      obtain ⟨hi, rfl⟩ := rangeD_some hd'
      have hd3 := hd.hold (c' := c + 2 + i) (ns' := ns3) (by omega) hn3
      wtm_at "E"
      refine de_call XAg.none ?_
      wtm_at "E"
      refine ⟨k, k2, _, ns3, 26, rfl, hd3, by omega, by decide, by decide, fun r ns4 hr0 hr1 hn4 => ?_⟩
      rw [hold_hold hd.ne]
      obtain ⟨ch, hch, hch'⟩ := atNN (xs := letters) (i := r) hr0 (by simpa [letters] using hr1)
      refine ro_ixS (c := ch) (by decide +kernel) (by rw [letters_str]; exact hch) ?_
      refine ⟨cs ++ [ch], ns4, by simp, by rw [show c + 2 + (i : Int) + 1 = c + 2 + ((i + 1 : Nat) : Int) by omega], by omega, by simp [hli], fun x hx => ?_⟩
      rcases List.mem_append.mp hx with m | m
      · exact hls x m
      · simp at m; subst m; exact List.mem_of_getElem? hch'
    · rintro acc μ' ⟨cs, ns3, rfl, rfl, hn3, hli, hls⟩
      rw [rangeD_length] at hli ⊢
      wtm_at "E"
      refine rm_join (ys := cs.map fun c => ⟨#[c]⟩) (by rw [List.map_map]; exact .lst _) ?_ ?_
      · have e1 : ((cs.map fun c => (⟨#[c]⟩ : Str)).map (·.length)).sum = cs.length := by
          rw [List.map_map]
          have : ((fun s : Str => s.length) ∘ fun c => (⟨#[c]⟩ : Str)) = fun _ => 1 := by
            funext x; rfl
          rw [this]
          exact sum_ones cs
        have e2 : ("" : Str).length = 0 := by decide +kernel
        rw [e1, e2]; omega
      rw [join_signs]
      refine ret _ _ ns3 ⟨?_, ?_, ?_⟩ (by omega) (by omega) hn3
      · simp [Str.length]; omega
      · simp [Str.length]; omega
      · intro x hx; exact hls x (by simpa using hx)
theorem keptOk_one {n : Int} (h0 : 0 ≤ n) (h1 : n ≤ 19) : KeptOk [n] := ⟨by simp, by simp, fun y hy => by simp at hy; omega, fun i a b ha hb => by
  have := (List.getElem?_eq_some_iff.mp hb).1
  simp at this⟩
theorem keptOk_rg : KeptOk ((List.range 20).map fun (i : Nat) => (i : Int)) := by
  refine ⟨by decide, by decide, fun y hy => ?_, fun i a b ha hb => ?_⟩
  · simp at hy; obtain ⟨a, ha, rfl⟩ := hy; omega
  · simp at ha hb
    obtain ⟨x, hx, rfl⟩ := ha
    obtain ⟨y, hy, rfl⟩ := hb
    have h1 := List.getElem?_eq_some_iff.mp hx
    have h2 := List.getElem?_eq_some_iff.mp hy
    obtain ⟨_, h1⟩ := h1
    obtain ⟨_, h2⟩ := h2
    simp at h1 h2
    omega
/-- rising numbers below i, one among them if it was met -/
structure Rise (one : Int) (i : Nat) (ys : List Int) : Prop where
  each : ∀ y ∈ ys, 0 ≤ y ∧ y < i
  up : ∀ (j : Nat) (a b : Int), ys[j]? = some a → ys[j + 1]? = some b → a < b
  met : one < i → one ∈ ys
  len : ys.length ≤ i
theorem Rise.nil {one : Int} (h : 0 ≤ one) : Rise one 0 [] := ⟨by simp, by simp, fun h' => by omega, by simp⟩
theorem Rise.keep {one : Int} {i : Nat} {ys : List Int} (h : Rise one i ys) : Rise one (i + 1) (ys ++ [(i : Int)]) := by
  refine ⟨fun y hy => ?_, fun j a b ha hb => ?_, fun hlt => ?_, by simp; exact h.len⟩
  · rcases List.mem_append.mp hy with m | m
    · have := h.each y m; omega
    · simp at m; omega
  · by_cases hj : j + 1 < ys.length
    · rw [List.getElem?_append_left (by omega)] at ha
      rw [List.getElem?_append_left hj] at hb
      exact h.up j a b ha hb
    · rw [List.getElem?_append_right (by omega)] at hb
      have hj2 : j + 1 - ys.length = 0 := by
        have := (List.getElem?_eq_some_iff.mp hb).1
        simp at this; omega
      rw [hj2] at hb
      simp at hb
      subst hb
      rw [List.getElem?_append_left (by omega)] at ha
      exact (h.each a (List.mem_of_getElem? ha)).2
  · by_cases e : one < i
    · exact List.mem_append_left _ (h.met e)
    · have : one = i := by omega
      rw [this]; simp
theorem Rise.skip {one : Int} {i : Nat} {ys : List Int} (h : Rise one i ys) (hne : one ≠ i) : Rise one (i + 1) ys := ⟨fun y hy => by have := h.each y hy; omega, h.up, fun hlt => h.met (by omega), by have := h.len; omega⟩
theorem Rise.kept {one : Int} {i : Nat} {ys : List Int} (h : Rise one i ys) (hone : one < i) (hi : i ≤ 20) : KeptOk ys := by
  refine ⟨?_, by have := h.len; omega, fun y hy => by have := h.each y hy; omega, h.up⟩
  exact List.length_pos_of_mem (h.met hone)
theorem acts_add {ps : List (Str × Str)} {n s : Str} (h : ActsOk ps) (hl : ps.length < 4) (hn : nameOk n) (hs : s = "off" ∨ s = "rest") (hnot : n ∉ ps.map (·.1)) : ActsOk (ps ++ [(n, s)]) := by
  refine ⟨by simp; omega, fun p hp => ?_, ?_⟩
  · rcases List.mem_append.mp hp with m | m
    · exact h.each p m
    · simp at m; subst m; exact ⟨hn, hs⟩
  · rw [List.map_append, List.nodup_append]
    refine ⟨h.nd, by simp, fun a ha b hb => ?_⟩
    simp at hb
    subst hb
    exact fun e => hnot (e ▸ ha)
end
/-! ### rows of pieces -/
structure RwT where
  going : Bool
  name : Str
  many : Int
  most : Int
  begin : Int
structure GRw (r : RwT) : Prop where
  name : nameOk r.name
  m0 : 1 ≤ r.many
  m1 : r.many ≤ 1000000
  t0 : 1 ≤ r.most
  t1 : r.most ≤ 9
  b0 : 0 ≤ r.begin
  b1 : r.begin < r.many
  yb : r.going = false → r.begin = 0
def goF (name : Str) (many most begin : Int) : List (Str × D) := [("name", .str name), ("pieces", .int many), ("most", .int most), ("begin", .int begin)]
inductive Srt where
  | free | off | rest
deriving DecidableEq
def Srt.s : Srt → Str
  | .free => "free"
  | .off => "off"
  | .rest => "rest"
/-- these make a row -/
structure RowIs (a b c : D) (name : Str) (many most : Int) : Prop where
  a : a = .str name
  b : b = .int many
  c : c = .int most
  n : nameOk name
  m0 : 1 ≤ many
  m1 : many ≤ 1000000
  t0 : 1 ≤ most
  t1 : most ≤ 9
structure RowX (a b c : D) : Prop where
  da : a.dat = true
  sa : ∀ s : Str, a = .str s → s.length ≤ 100000
  db : b.dat = true
  dc : c.dat = true
theorem RowX.ok {n : Str} {i j : Int} (h : nameOk n) : RowX (.str n) (.int i) (.int j) := ⟨rfl, fun s e => by cases e; have := h.2.1; omega, rfl, rfl⟩
theorem RowIs.of {r : RwT} (h : GRw r) : RowIs (.str r.name) (.int r.many) (.int r.most) r.name r.many r.most := ⟨rfl, rfl, rfl, h.name, h.m0, h.m1, h.t0, h.t1⟩
theorem de_is {K : PySem.W.Frag} {B : Bs} {ρ : En} {μ : Mu} {te : TE} {P : D → Mu → Prop} {d0 : D} (h : DE K B te ρ μ fun d μ1 => d = d0 ∧ μ1 = μ) (k : P d0 μ) : DE K B te ρ μ P := h.imp fun d μ1 p => by obtain ⟨rfl, rfl⟩ := p; exact k
theorem Srt.ok (w : Srt) : PyData.strOk w.s = true := by cases w <;> decide +kernel
/-! ### what the days of a year are for a row -/
structure SpT where
  a : Int
  b : Int
  w : Srt
  t : Str
abbrev SgT := SpT
/-- stretches side by side from a to b, on each of which all days are as it tells -/
def Chain (S : Int → Srt × Str) : Int → List SgT → Int → Prop
  | a, [], b => a = b
  | a, g :: r, b => g.a = a ∧ g.a < g.b ∧ (∀ x, g.a ≤ x → x < g.b → S x = (g.w, g.t)) ∧ Chain S g.b r b
theorem Chain.le {S : Int → Srt × Str} : ∀ {gs : List SgT} {a b : Int}, Chain S a gs b → a ≤ b
  | [], _, _, h => by have : _ = _ := h; omega
  | g :: r, a, b, ⟨h1, h2, h3, h4⟩ => by have := h4.le; omega
/-! ### the one list of numbers in order -/
/-! ### contracts -/
def toldFe (f : FeT) : D := .tup [.str f.name, .int f.place, .int f.lasts, keptD f.kept, actsD f.acts]
/-- the same, both lists to be changed -/
def toldFo (f : FeT) (μ : Mu) : D × Mu := match f.kept with
  | none => (.tup [.str f.name, .int f.place, .int f.lasts, .non, .own μ.length], μ ++ [.lst (f.acts.map actD)])
  | some ys => (.tup [.str f.name, .int f.place, .int f.lasts, .own μ.length, .own (μ.length + 1)], μ ++ [.lst (ys.map D.int)] ++ [.lst (f.acts.map actD)])
def c_Feast_told (K : PySem.W.Frag) : CT := fun ds μ P PX => ∃ f : FeT, ds = [feD K f] ∧ (P (toldFe f) μ ∨ P (toldFo f μ).1 (toldFo f μ).2)
def t_Feast_told (K : PySem.W.Frag) (E : XK) : TS :=
    (tSeq (tAsg (tIf (tB (tIsN (tFld K (tVar 0) "kept"))) (tC .non) (tCB (rListOf K) (tCons (tFld K (tVar 0) "kept") tNil))) (gName 1))
      (tRet (tTup (tCons (tFld K (tVar 0) "name") (tCons (tFld K (tVar 0) "place") (tCons (tFld K (tVar 0) "lasts") (tCons (tVar 1) (tCons (tCB (rListOf K) (tCons (tFld K (tVar 0) "acts") tNil)) tNil))))))))
section
variable {K : PySem.W.Frag}
theorem d_Feast_told (kf : KFe K) : ∀ ds μ P PX, c_Feast_told K ds μ P PX → MuCl μ μ.length → clL ds μ.length = true → ∀ B E, XAg K B (RetX μ.length PX) E → DS K B (t_Feast_told K E) (startD ["self", "years"] ds) μ (fnE μ.length P) := by
  intro ds μ P PX h hm hc B E hE
  obtain ⟨f, rfl, h⟩ := h
  have k1 := kf.cl; have k2 := kf.name; have k3 := kf.place; have k4 := kf.lasts; have k5 := kf.kept; have k6 := kf.acts
  have hcl : ∀ n, (toldFe f).cl n = true := fun n => by simp [toldFe, D.cl, clL, cl_kept, cl_acts]
  show DS K B _ [some (feD K f), none] μ _
  unfold t_Feast_told
  rcases h with h | h
  · skip
    refine q_set (de_is (d0 := keptD f.kept) ?_ ?_)
    · cases q : f.kept with
      | none =>
        wtm_at "A"
        rw [q]
        refine np_t ?_
        wtm_at "A"
        exact ⟨rfl, rfl⟩
      | some ys =>
        have hq : keptD f.kept = intsD ys := by rw [q]; rfl
        wtm_at "A"
        rw [hq]
        refine np_lst ?_
        wtm_at "A"
        rw [hq]
        wtm_at "A"
        exact ⟨rfl, rfl⟩
    wtm_at "A"
    exact ret_same0 (Nat.le_refl _) hm (hcl _) h
  · unfold toldFo at h
    cases q : f.kept with
    | none =>
      simp only [q] at h
      refine q_set (de_is (d0 := .non) ?_ ?_)
      · wtm_at "A"
        rw [q]
        refine np_t ?_
        wtm_at "A"
        exact ⟨rfl, rfl⟩
      refine ds_ret (de_tupZ ?_)
      refine da_cons (de_fldZ ?_)
      wtm_at "v"
      refine fp_obj k1 k2 (by rfl) ?_
      refine da_cons (de_fldZ ?_)
      wtm_at "v"
      refine fp_obj k1 k3 (by rfl) ?_
      refine da_cons (de_fldZ ?_)
      wtm_at "v"
      refine fp_obj k1 k4 (by rfl) ?_
      refine da_cons (de_var rfl ?_)
      refine da_cons (de_cb ?_)
      refine da_cons (de_fldZ ?_)
      wtm_at "v"
      refine fp_obj k1 k6 (by rfl) ?_
      refine da_nil ?_
      refine rc_listO (.lst _) ?_
      wtm_at "A"
      exact ret_same0 (by simp) (hm.app (by simp [MO.cl, clL_map, actD, D.cl, clL])) (by simp [D.cl, clL]) h
    | some ys =>
      simp only [q] at h
      have hq : keptD f.kept = intsD ys := by rw [q]; rfl
      refine q_set (de_if ?_)
      wtm_at "A"
      rw [hq]
      refine np_lst ?_
      refine ⟨false, rfl, fun z => (by cases z), fun _ => ?_⟩
      refine de_cb ?_
      refine da_cons (de_fldZ ?_)
      wtm_at "v"
      refine fp_obj k1 k5 (by rfl) ?_
      rw [hq]
      refine da_nil ?_
      refine rc_listO (.lst _) ?_
      refine ds_ret (de_tupZ ?_)
      refine da_cons (de_fldZ ?_)
      wtm_at "v"
      refine fp_obj k1 k2 (by rfl) ?_
      refine da_cons (de_fldZ ?_)
      wtm_at "v"
      refine fp_obj k1 k3 (by rfl) ?_
      refine da_cons (de_fldZ ?_)
      wtm_at "v"
      refine fp_obj k1 k4 (by rfl) ?_
      refine da_cons (de_var rfl ?_)
      refine da_cons (de_cb ?_)
      refine da_cons (de_fldZ ?_)
      wtm_at "v"
      refine fp_obj k1 k6 (by rfl) ?_
      refine da_nil ?_
      refine rc_listO (.lst _) ?_
      wtm_at "A"
      have hy : clL (ys.map D.int) μ.length = true := clL_map fun _ _ => rfl
      exact ret_same0 (by simp) ((hm.app (o := .lst (ys.map D.int)) hy).app (by simp [MO.cl, clL_map, actD, D.cl, clL])) (by simp [D.cl, clL]) (by rw [List.length_append, List.length_singleton]; exact h)
end
/-! ### == of calendars -/
def c_Calendar_eq (K : PySem.W.Frag) : CT := fun ds μ P PX => ∃ (ls : List Int) (y : D), ds = [calD K ls, y] ∧ ((∃ ms, y = calD K ms ∧ P (.bl (decide (ls = ms))) μ) ∨ ∃ t, TyDV K μ y t ∧ PySem.W.kitOne K t (.ref (cCal K)) = some false ∧ P (.bl false) μ)
def t_Calendar_eq (K : PySem.W.Frag) (E : XK) : TS :=
    (tRet (tAndV (tCB (rIsi K) (tCons (tVar 1) (tCons (tC (.ref (He.ga K "Calendar"))) tNil))) (tOp (rEqD K) (tFld K (tVar 0) "lengths") (tFld K (tVar 1) "lengths"))))
local macro_rules | `(tactic| wtm_at "d7") => `(tactic| with_reducible (first | refine de_xfZ ?_ | refine np_exc ?_))
local macro_rules | `(tactic| wtm_at "g7") => `(tactic| first | refine xf_i (by assumption) (by simp) (by rfl) ?_ | refine ro_eqSS (by decide +kernel) ?_ | refine ro_neSS (by decide +kernel) ?_ | refine ro_eqSd (by decide +kernel) (by decide +kernel) (by decide +kernel) ?_ | refine ro_neSd (by decide +kernel) (by decide +kernel) (by decide +kernel) ?_)
local macro_rules | `(tactic| wtm_at "Q7") => `(tactic| wtm_at "g7")
local macro_rules | `(tactic| wtm_at "Q7") => `(tactic| wtm_at "d7")
local macro_rules | `(tactic| wtm_at "Q7") => `(tactic| wtm_at "Q")
local macro_rules | `(tactic| wtm_at "E") => `(tactic| repeat' first | wtm_at "Q7" | fail)
local macro_rules | `(tactic| wtm_at "QA7") => `(tactic| wtm_at "Q7")
local macro_rules | `(tactic| wtm_at "QA7") => `(tactic| wtm_at "Qs")
local macro_rules | `(tactic| wtm_at "A") => `(tactic| repeat' first | wtm_at "QA7" | fail)
theorem shp_ints (ls : List Int) : (intsD ls).shp 1 = true := by
  unfold intsD
  simp only [D.shp]
  exact shpL_map fun _ _ => rfl
theorem eqv_ints (ls ms : List Int) : eqvD (intsD ls) (intsD ms) = decide (ls = ms) := by
  unfold intsD
  rw [eqvD_lst]
  exact eqvL_map (fun a b => eqvD_int a b) ls ms
section
variable {K : PySem.W.Frag}
theorem d_Calendar_eq (kc : KCal K) (kq : KEq K "Calendar") : ∀ ds μ P PX, c_Calendar_eq K ds μ P PX → MuCl μ μ.length → clL ds μ.length = true → ∀ B E, XAg K B (RetX μ.length PX) E → DS K B (t_Calendar_eq K E) (startD ["self", "other"] ds) μ (fnE μ.length P) := by
  intro ds μ P PX h hm hc B E hE
  obtain ⟨ls, y, rfl, h⟩ := h
  obtain ⟨_, _, _, _⟩ := kc
  show DS K B _ [some (calD K ls), some y] μ _
  unfold t_Calendar_eq
  refine ds_ret (de_andV (de_cb ?_))
  wtm_at "g"
  rcases h with ⟨ms, rfl, h⟩ | ⟨t, ht, hk, h⟩
  · refine rc_isi (.obj kq.ob) (.loc _) kq.is ?_
    refine ⟨true, rfl, fun _ => ?_, fun e => (nomatch e)⟩
    unfold calD
    wtm_at "E"
    refine ro_eqD (n := 1) (m := 1) (.id _) (.id _) (shp_ints _) (shp_ints _) ?_
    rw [eqv_ints]
    exact ret_same0 (Nat.le_refl _) hm rfl h
  · refine rc_isi ht (.loc _) hk ?_
    exact ⟨false, rfl, fun e => (nomatch e), fun _ => ret_same0 (Nat.le_refl _) hm rfl h⟩
/-- .. and no thing of another class -/
theorem ro_calO {E : XK} {μ : Mu} {P : D → Mu → Prop} {ls : List Int} {y : Str} {gs : List (Str × D)} (kn : KNe K "Calendar" y) (h : P (.bl false) μ) : RO K (rEqO K (He.ga K "Calendar") (spD K (c_Calendar_eq K)) E) (calD K ls) (.obj (He.ga K y) gs) μ P :=
  ro_eqO ⟨_, .inl rfl⟩ (.obj kn.ob) kn.nf ⟨ls, _, rfl, .inr ⟨_, .obj kn.ob, kn.is, _, rfl, h⟩⟩
theorem ro_calON {E : XK} {μ : Mu} {P : D → Mu → Prop} {ls : List Int} {y : Str} {gs : List (Str × D)} (kn : KNe K "Calendar" y) (h : P (.bl true) μ) : RO K (rNeO K (He.ga K "Calendar") (spD K (c_Calendar_eq K)) E) (calD K ls) (.obj (He.ga K y) gs) μ P :=
  ro_neO ⟨_, .inl rfl⟩ (.obj kn.ob) kn.nf ⟨ls, _, rfl, .inr ⟨_, .obj kn.ob, kn.is, _, rfl, h⟩⟩
end
/-! ### == of feasts -/
def c_Feast_eq (K : PySem.W.Frag) : CT := fun ds μ P PX => ∃ (f : FeT) (y : D), ds = [feD K f, y] ∧ GFe f ∧ ((∃ g, y = feD K g ∧ GFe g ∧ P (.bl (eqvD (toldFe f) (toldFe g))) μ) ∨ ∃ t, TyDV K μ y t ∧ PySem.W.kitOne K t (.ref (cFe K)) = some false ∧ P (.bl false) μ)
theorem told_shp {f : FeT} (h : GFe f) : (toldFe f).shp 3 = true := by
  have h1 : (keptD f.kept).shp 2 = true := by
    cases f.kept with
    | none => rfl
    | some ys =>
      unfold keptD intsD
      rw [D.shp]
      simp only [Bool.and_eq_true, decide_eq_true_eq]
      exact ⟨by decide, shpL_map fun _ _ => rfl⟩
  have h2 : (actsD f.acts).shp 2 = true := by
    unfold actsD
    rw [D.shp]
    simp only [Bool.and_eq_true, decide_eq_true_eq]
    refine ⟨by decide, shpL_map fun p hp => ?_⟩
    obtain ⟨a1, a2⟩ := h.acts.each p hp
    have a3 : PyData.strOk p.2 = true := by
      rcases a2 with e | e <;> rw [e] <;> decide +kernel
    simp [actD, D.shp, shpL, a1.strOk, a3]
  unfold toldFe
  simp only [D.shp, shpL, h1, h2, h.name.strOk, Bool.and_true, Bool.true_and]
  rfl
def t_Feast_eq (K : PySem.W.Frag) (E : XK) : TS :=
    (tRet (tAndV (tCB (rIsi K) (tCons (tVar 1) (tCons (tC (.ref (He.ga K "Feast"))) tNil))) (tOp (rEqD K) (tMeth (He.ga K "Feast") "told" (spD K (c_Feast_told K)) [] E (tVar 0) tNil) (tMeth (He.ga K "Feast") "told" (spD K (c_Feast_told K)) [] E (tVar 1) tNil))))
section
variable {K : PySem.W.Frag}
theorem d_Feast_eq (kq : KEq K "Feast") : ∀ ds μ P PX, c_Feast_eq K ds μ P PX → MuCl μ μ.length → clL ds μ.length = true → ∀ B E, XAg K B (RetX μ.length PX) E → DS K B (t_Feast_eq K E) (startD ["self", "other"] ds) μ (fnE μ.length P) := by
  intro ds μ P PX h hm hc B E hE
  obtain ⟨f, y, rfl, gf, h⟩ := h
  show DS K B _ [some (feD K f), some y] μ _
  unfold t_Feast_eq
  refine ds_ret (de_andV (de_cb ?_))
  wtm_at "g"
  rcases h with ⟨g, rfl, gg, h⟩ | ⟨t, ht, hk, h⟩
  · refine rc_isi (.obj kq.ob) (.loc _) kq.is ?_
    refine ⟨true, rfl, fun _ => ?_, fun e => (nomatch e)⟩
    refine de_op (de_methZ hE ?_)
    wtm_at "v"
    refine mp_obj (by rfl) ?_
    refine da_nil ⟨f, rfl, .inl ?_⟩
    refine de_methZ hE ?_
    wtm_at "v"
    refine mp_obj (by rfl) ?_
    refine da_nil ⟨g, rfl, .inl ?_⟩
    refine ro_eqD (n := 3) (m := 3) (.id _) (.id _) (told_shp gf) (told_shp gg) ?_
    exact ret_same0 (Nat.le_refl _) hm rfl h
  · refine rc_isi ht (.loc _) hk ?_
    exact ⟨false, rfl, fun e => (nomatch e), fun _ => ret_same0 (Nat.le_refl _) hm rfl h⟩
theorem ro_feEqG {E : XK} {μ : Mu} {P : D → Mu → Prop} {f g : FeT} (kq : KEq K "Feast") (gf : GFe f) (gg : GFe g) (h : P (.bl (eqvD (toldFe f) (toldFe g))) μ) : RO K (rEqO K (He.ga K "Feast") (spD K (c_Feast_eq K)) E) (feD K f) (feD K g) μ P :=
  ro_eqO ⟨_, .inl rfl⟩ (.obj kq.ob) kq.nf ⟨f, _, rfl, gf, .inl ⟨g, rfl, gg, _, rfl, h⟩⟩
theorem ro_feNeG {E : XK} {μ : Mu} {P : D → Mu → Prop} {f g : FeT} (kq : KEq K "Feast") (gf : GFe f) (gg : GFe g) (h : P (.bl (!eqvD (toldFe f) (toldFe g))) μ) : RO K (rNeO K (He.ga K "Feast") (spD K (c_Feast_eq K)) E) (feD K f) (feD K g) μ P :=
  ro_neO ⟨_, .inl rfl⟩ (.obj kq.ob) kq.nf ⟨f, _, rfl, gf, .inl ⟨g, rfl, gg, _, rfl, h⟩⟩
theorem ro_feT {E : XK} {μ : Mu} {P : D → Mu → Prop} {f : FeT} {y : D} {n : String} (kq : KEq K "Feast") (gf : GFe f) (ht : tyD μ y = some n) (hn : n ∈ (["int", "list", "tuple"] : List String)) (h : P (.bl false) μ) : RO K (rEqO K (He.ga K "Feast") (spD K (c_Feast_eq K)) E) (feD K f) y μ P :=
  ro_eqO ⟨_, .inl rfl⟩ (.ty ht) (kq.no n hn).2 ⟨f, y, rfl, gf, .inr ⟨_, .ty ht, (kq.no n hn).1, _, rfl, h⟩⟩
theorem ro_feO {E : XK} {μ : Mu} {P : D → Mu → Prop} {f : FeT} {y : Str} {gs : List (Str × D)} (kn : KNe K "Feast" y) (gf : GFe f) (h : P (.bl false) μ) : RO K (rEqO K (He.ga K "Feast") (spD K (c_Feast_eq K)) E) (feD K f) (.obj (He.ga K y) gs) μ P :=
  ro_eqO ⟨_, .inl rfl⟩ (.obj kn.ob) kn.nf ⟨f, _, rfl, gf, .inr ⟨_, .obj kn.ob, kn.is, _, rfl, h⟩⟩
end
/-! ### feasts told again: contracts -/
/-- None, or a list that may change -/
def Kp17 (ν : Mu) (b : Nat) (x : D) (kp : Option (List Int)) : Prop := (x = .non ∧ kp = none) ∨ ∃ (a : Nat) (ys : List Int), x = .own a ∧ b ≤ a ∧ kp = some ys ∧ ν[a]? = some (.lst (ys.map D.int))
theorem Kp17.app {ν : Mu} {b : Nat} {x : D} {kp : Option (List Int)} (h : Kp17 ν b x kp) (e : Mu) : Kp17 (ν ++ e) b x kp := by
  rcases h with h | ⟨a, ys, h1, h2, h3, h4⟩
  · exact .inl h
  · exact .inr ⟨a, ys, h1, h2, h3, mu_old h4⟩
theorem Kp17.fz {ν : Mu} {b : Nat} {x : D} {kp : Option (List Int)} (h : Kp17 ν b x kp) : Fz ν x (keptD kp) := by
  rcases h with ⟨rfl, rfl⟩ | ⟨a, ys, rfl, h2, rfl, h4⟩
  · exact .id _
  · exact .own h4
theorem Kp17.cl {ν : Mu} {b : Nat} {x : D} {kp : Option (List Int)} (h : Kp17 ν b x kp) : x.cl ν.length = true := by
  rcases h with ⟨rfl, rfl⟩ | ⟨a, ys, rfl, h2, rfl, h4⟩
  · rfl
  · have := (List.getElem?_eq_some_iff.mp h4).1
    simpa [D.cl] using this
def c_fo_kept (K : PySem.W.Frag) : CT := fun ds μ P PX => ∃ (k k2 : Nat) (c : Int) (ns : List Int), ds = [.own k] ∧ Hd k k2 c ns μ ∧ c < 2 ^ 38 ∧ ∀ (kp : Option (List Int)) (c' : Int) (ns' : List Int) (e : Mu) (x : D), KeptO kp → c ≤ c' → c' ≤ c + 30 → ns'.length = ns.length → MuCl (hold μ k k2 c' ns' ++ e) (hold μ k k2 c' ns' ++ e).length → Kp17 (hold μ k k2 c' ns' ++ e) μ.length x kp → P x (hold μ k k2 c' ns' ++ e)
def c_fo_acts (K : PySem.W.Frag) : CT := fun ds μ P PX => ∃ (k k2 : Nat) (c : Int) (ns : List Int), ds = [.own k] ∧ Hd k k2 c ns μ ∧ c < 2 ^ 37 ∧ ∀ (ps : List (Str × Str)) (c' : Int) (ns' : List Int), ActsOk ps → c ≤ c' → c' ≤ c + 60 → ns'.length = ns.length → P (.own μ.length) (hold μ k k2 c' ns' ++ [.lst (ps.map actD)])
def c_fo_feast (K : PySem.W.Frag) : CT := fun ds μ P PX => ∃ (k k2 : Nat) (c : Int) (ns : List Int), ds = [.own k] ∧ Hd k k2 c ns μ ∧ c < 2 ^ 36 ∧ ∀ (f : FeT) (c' : Int) (ns' : List Int) (e : Mu) (x : D) (a : Nat), GFe f → c ≤ c' → c' ≤ c + 200 → ns'.length = ns.length → MuCl (hold μ k k2 c' ns' ++ e) (hold μ k k2 c' ns' ++ e).length → Kp17 (hold μ k k2 c' ns' ++ e) μ.length x f.kept → μ.length ≤ a → (hold μ k k2 c' ns' ++ e)[a]? = some (.lst (f.acts.map actD)) → P (.lst [.str f.name, .int f.place, .int f.lasts, x, .own a]) (hold μ k k2 c' ns' ++ e)
def c_fo_made (K : PySem.W.Frag) : CT := fun ds μ P PX => ∃ (f : FeT) (x : D) (a : Nat) (w : Int), ds = [.lst [.str f.name, .int f.place, .int f.lasts, x, .own a], .int w] ∧ GFe f ∧ Fz μ x (keptD f.kept) ∧ μ[a]? = some (.lst (f.acts.map actD)) ∧ 0 ≤ w ∧ w < 10 ∧ ∀ (g : FeT) (y z : D), GFe g → Fz μ y (keptD g.kept) → Fz μ z (actsD g.acts) → P (.tup [feD K g, .lst [.str g.name, .int g.place, .int g.lasts, y, z]]) μ
def c_fo_told_is (K : PySem.W.Frag) : CT := fun ds μ P PX => ∃ (f : FeT) (x y : D), ds = [.tup [.str f.name, .int f.place, .int f.lasts, x, y], .lst (feL f)] ∧ GFe f ∧ Fz μ x (keptD f.kept) ∧ Fz μ y (actsD f.acts) ∧ P (.bl true) μ
def c_fo_spoil (K : PySem.W.Frag) : CT := fun ds μ P PX => ∃ (k k2 : Nat) (c : Int) (ns : List Int) (x : D), ds = [x, .own k] ∧ Hd k k2 c ns μ ∧ c < 2 ^ 38 ∧ ((x = .non ∧ P .non μ) ∨ ∃ (a : Nat) (xs : List D), x = .own a ∧ a ≠ k ∧ a ≠ k2 ∧ μ[a]? = some (.lst xs) ∧ shpL xs 2 = true ∧ xs.length ≤ 100 ∧ ∀ (xs' : List D) (c' : Int) (ns' : List Int), shpL xs' 2 = true → xs'.length ≤ xs.length + 1 → c ≤ c' → c' ≤ c + 2 → ns'.length = ns.length → P .non ((hold μ k k2 c' ns').set a (.lst xs')))
def c_fo_equal_right (K : PySem.W.Frag) : CT := fun ds μ P PX => ∃ (k k2 : Nat) (c : Int) (ns : List Int) (f : FeT), ds = [feD K f, .lst (feL f), .own k] ∧ GFe f ∧ Hd k k2 c ns μ ∧ c < 2 ^ 35 ∧ ∀ (c' : Int) (ns' : List Int), c ≤ c' → c' ≤ c + 300 → ns'.length = ns.length → P (.bl true) (hold μ k k2 c' ns')
mutual
theorem shp_cl17 : ∀ {d : D} {n : Nat} (m : Nat), d.shp n = true → d.cl m = true
  | .non, _, _, _ => rfl
  | .bl _, _, _, _ => rfl
  | .int _, _, _, _ => rfl
  | .str _, _, _, _ => rfl
  | .tup xs, n, m, h => by
    rw [D.shp, Bool.and_eq_true] at h
    rw [D.cl]
    exact shpL_cl17 m h.2
  | .lst xs, n, m, h => by
    rw [D.shp, Bool.and_eq_true] at h
    rw [D.cl]
    exact shpL_cl17 m h.2
  | .rdl xs, n, m, h => by
    rw [D.shp, Bool.and_eq_true] at h
    rw [D.cl]
    exact shpL_cl17 m h.2
  | .rdt xs, n, m, h => by
    rw [D.shp, Bool.and_eq_true] at h
    rw [D.cl]
    exact shpL_cl17 m h.2
  | .ty _, _, _, h => by simp [D.shp] at h
  | .obj _ _, _, _, h => by simp [D.shp] at h
  | .dct _, _, _, h => by simp [D.shp] at h
  | .own _, _, _, h => by simp [D.shp] at h
  | .loc _, _, _, h => by simp [D.shp] at h
  | .exc _ _, _, _, h => by simp [D.shp] at h
theorem shpL_cl17 : ∀ {ds : List D} {n : Nat} (m : Nat), shpL ds n = true → clL ds m = true
  | [], _, _, _ => rfl
  | x :: xs, n, m, h => by
    rw [shpL, Bool.and_eq_true] at h
    rw [clL, shp_cl17 m h.1, shpL_cl17 m h.2]
    rfl
end
section
variable {K : PySem.W.Frag} {B : Bs} {ρ : En} {μ : Mu} {P : D → Mu → Prop} {te : TE}
theorem de_lstRgO (h : DE K B te ρ μ fun x μ1 => ∃ n : Int, x = .int n ∧ 0 ≤ n ∧ n ≤ 100000 ∧ P (.own μ1.length) (μ1 ++ [.lst (rangeD 0 n.toNat)])) : DE K B (tLstRg (tRg1 te)) ρ μ P := fun σ G H al hB hσ hA Q hQ =>
  h σ G H al hB hσ hA _ fun v d μ1 G1 H1 al1 n1 A1 r1 p1 => by
    obtain ⟨n, rfl, h0, h1, p⟩ := p1
    cases r1
    refine ⟨n, rfl, ⟨by omega, by omega, by omega, by omega, by omega⟩, fun q hq => ?_⟩
    obtain ⟨A2, n2⟩ := A1.own (o := .lst (rgV 0 n)) (m := .lst (rangeD 0 n.toNat)) hq ⟨A1.sub.free hq, _, upd_same, by
      unfold rgV rangeD
      rw [show (n - 0).toNat = n.toNat by omega]
      have : ∀ l : List Nat, Rps K G1 (al1 ++ [q]) (l.map fun i => V.int (0 + (i : Nat))) (l.map fun (i : Nat) => D.int (0 + (i : Int))) := by
        intro l
        induction l with
        | nil => exact .nil
        | cons a l ih => exact .cons (.int _) ih
      exact this _⟩
    exact hQ _ _ _ _ _ _ (n1.trans n2) A2 (.own (by rw [← A1.len]; simp)) p
end
def c_law (K : PySem.W.Frag) : CT := fun ds μ P PX => ∃ ns : List Int, ds = [.rdl (ns.map D.int)] ∧ ns.length ≤ 63 ∧ ∀ μ', P (.bl true) μ'
def t_fo_kept (K : PySem.W.Frag) (E : XK) : TS :=
    (tSeq (tAsg (tCall (spD K (c_law_draw K)) [] E (tCons (tVar 0) (tCons (tC (.int 4)) tNil))) (gName 1))
      (tSeq (tIfS (tTest (tOp (rEqD K) (tVar 1) (tC (.int 0)))) (tRet (tC .non)) tNext)
      (tSeq (tAsg (tCall (spD K (c_law_draw K)) [] E (tCons (tVar 0) (tCons (tC (.int 20)) tNil))) (gName 2))
      (tSeq (tIfS (tTest (tOp (rEqD K) (tVar 1) (tC (.int 1)))) (tRet (tOp (rIx K) (tLst (tCons (tLstRg (tRg1 (tC (.int 20)))) (tCons (tLst (tCons (tVar 2) tNil)) (tCons (tLst (tCons (tC (.int 0)) tNil)) (tCons (tLst (tCons (tC (.int 19)) tNil)) tNil))))) (tCall (spD K (c_law_draw K)) [] E (tCons (tVar 0) (tCons (tC (.int 4)) tNil))))) tNext)
      (tRet (tLc (iRng1 (tCons (tC (.int 20)) tNil)) (gName 3) (tOr (tTest (tOp (rEqD K) (tVar 3) (tVar 2))) (tTest (tOp (rEqD K) (tCall (spD K (c_law_draw K)) [] E0 (tCons (tVar 0) (tCons (tOp (rAddA K) (tC (.int 1)) (tVar 1)) tNil))) (tC (.int 0))))) (tVar 3) [3]))))))
def t_fo_acts (K : PySem.W.Frag) (E : XK) : TS :=
    (tSeq (tAsg (tLst tNil) (gName 1))
      (tSeq (tFor (iRng1 (tCons (tCall (spD K (c_law_draw K)) [] E (tCons (tVar 0) (tCons (tC (.int 5)) tNil))) tNil)) (gName 2) (tSeq (tAsg (tCall (spD K (c_law_name K)) [] E (tCons (tVar 0) tNil)) (gName 3))
      (tIfS (tTest (tOp (rNotInA K) (tVar 3) (tLc (iAny K (tVar 1)) (gTup K 2 (gCons (gName 4) (gCons (gName 5) gNil))) tYes (tVar 4) [4, 5]))) (tDrop (tBM K "list" rAppend (tVar 1) (tCons (tTup (tCons (tVar 3) (tCons (tOp (rIx K) (tLst (tCons (tC (.str "off")) (tCons (tC (.str "rest")) tNil))) (tCall (spD K (c_law_draw K)) [] E (tCons (tVar 0) (tCons (tC (.int 2)) tNil)))) tNil))) tNil))) tNext)))
      (tRet (tVar 1))))
def t_fo_feast (K : PySem.W.Frag) (E : XK) : TS :=
    (tSeq (tAsg (tCall (spD K (c_law_draw K)) [] E (tCons (tVar 0) (tCons (tC (.int 6)) tNil))) (gName 1))
      (tSeq (tPar 2 3 (tCons (tCall (spD K (c_law_draw K)) [] E (tCons (tVar 0) (tCons (tC (.int 400)) tNil))) (tCons (tCall (spD K (c_law_draw K)) [] E (tCons (tVar 0) (tCons (tC (.int 8)) tNil))) tNil)))
      (tSeq (tAsg (tOp (rIx K) (tLst (tCons (tVar 2) (tCons (tVar 3) (tCons (tOp (rI0 fun i j => .int (i - j)) (tUn (rU fun i => .int (-i)) (tC (.int 1))) (tVar 2)) (tCons (tOp (rI0 fun i j => .int (i - j)) (tUn (rU fun i => .int (-i)) (tC (.int 1))) (tVar 3)) (tCons (tC (.int 399)) (tCons (tUn (rU fun i => .int (-i)) (tC (.int 400))) tNil))))))) (tVar 1)) (gName 4))
      (tSeq (tAsg (tOp (rAddA K) (tC (.int 1)) (tCall (spD K (c_law_draw K)) [] E (tCons (tVar 0) (tCons (tOp (rIx K) (tLst (tCons (tC (.int 1)) (tCons (tC (.int 4)) (tCons (tC (.int 40)) (tCons (tC (.int 40)) tNil))))) (tCall (spD K (c_law_draw K)) [] E (tCons (tVar 0) (tCons (tC (.int 4)) tNil)))) tNil)))) (gName 5))
      (tRet (tLst (tCons (tCall (spD K (c_law_name K)) [] E (tCons (tVar 0) tNil)) (tCons (tVar 4) (tCons (tVar 5) (tCons (tCall (spD K (c_fo_kept K)) [] E (tCons (tVar 0) tNil)) (tCons (tCall (spD K (c_fo_acts K)) [] E (tCons (tVar 0) tNil)) tNil)))))))))))
def t_fo_made (K : PySem.W.Frag) (E : XK) : TS :=
    (tSeq (tAsg (tVar 0) (gUnl K 5 (gCons (gName 2) (gCons (gName 3) (gCons (gName 4) (gCons (gName 5) (gCons (gName 6) gNil)))))))
      (tSeq (tIfS (tTest (tOp (rEqD K) (tVar 1) (tC (.int 0)))) (tRet (tTup (tCons (tMake (He.ga K "Feast") (spD K (c_Feast_init K)) [.int (1), .non, .non] E (tCons (tVar 2) (tCons (tVar 3) tNil))) (tCons (tLst (tCons (tVar 2) (tCons (tVar 3) (tCons (tC (.int 1)) (tCons (tC .non) (tCons (tLst tNil) tNil)))))) tNil)))) tNext)
      (tSeq (tIfS (tTest (tOp (rEqD K) (tVar 1) (tC (.int 1)))) (tRet (tTup (tCons (tMake (He.ga K "Feast") (spD K (c_Feast_init K)) [.non, .non] E (tCons (tVar 2) (tCons (tVar 3) (tCons (tVar 4) tNil)))) (tCons (tLst (tCons (tVar 2) (tCons (tVar 3) (tCons (tVar 4) (tCons (tC .non) (tCons (tLst tNil) tNil)))))) tNil)))) tNext)
      (tSeq (tIfS (tTest (tOp (rEqD K) (tVar 1) (tC (.int 2)))) (tRet (tTup (tCons (tMake (He.ga K "Feast") (spD K (c_Feast_init K)) [.non] E (tCons (tVar 2) (tCons (tVar 3) (tCons (tVar 4) (tCons (tVar 5) tNil))))) (tCons (tLst (tCons (tVar 2) (tCons (tVar 3) (tCons (tVar 4) (tCons (tVar 5) (tCons (tLst tNil) tNil)))))) tNil)))) tNext)
      (tSeq (tIfS (tTest (tOp (rEqD K) (tVar 1) (tC (.int 3)))) (tRet (tTup (tCons (tMake (He.ga K "Feast") (spD K (c_Feast_init K)) [] E (tPermD 2 1 [1, 2, 0] [.int (1), .non, .non] (tCons (tVar 2) (tCons (tVar 3) tNil)) (tCons (tVar 6) tNil))) (tCons (tLst (tCons (tVar 2) (tCons (tVar 3) (tCons (tC (.int 1)) (tCons (tC .non) (tCons (tVar 6) tNil)))))) tNil)))) tNext)
      (tSeq (tIfS (tTest (tOp (rEqD K) (tVar 1) (tC (.int 4)))) (tRet (tTup (tCons (tMake (He.ga K "Feast") (spD K (c_Feast_init K)) [] E (tPermD 0 3 [1, 0, 3, 2, 5] [.int (1), .non, .non] tNil (tCons (tVar 3) (tCons (tVar 2) (tCons (tVar 5) tNil))))) (tCons (tLst (tCons (tVar 2) (tCons (tVar 3) (tCons (tC (.int 1)) (tCons (tVar 5) (tCons (tLst tNil) tNil)))))) tNil)))) tNext)
      (tSeq (tIfS (tTest (tOp (rEqD K) (tVar 1) (tC (.int 5)))) (tRet (tTup (tCons (tMake (He.ga K "Feast") (spD K (c_Feast_init K)) [] E (tCons (tVar 2) (tCons (tVar 3) (tCons (tVar 4) (tCons (tC .non) (tCons (tC .non) tNil)))))) (tCons (tLst (tCons (tVar 2) (tCons (tVar 3) (tCons (tVar 4) (tCons (tC .non) (tCons (tLst tNil) tNil)))))) tNil)))) tNext)
      (tSeq (tIfS (tTest (tOp (rEqD K) (tVar 1) (tC (.int 6)))) (tRet (tTup (tCons (tMake (He.ga K "Feast") (spD K (c_Feast_init K)) [] E (tPermD 2 2 [0, 3, 1] [.int (1), .non, .non] (tCons (tVar 2) (tCons (tVar 3) tNil)) (tCons (tVar 4) (tCons (tVar 6) tNil)))) (tCons (tLst (tCons (tVar 2) (tCons (tVar 3) (tCons (tVar 4) (tCons (tC .non) (tCons (tVar 6) tNil)))))) tNil)))) tNext)
      (tSeq (tIfS (tTest (tOp (rEqD K) (tVar 1) (tC (.int 7)))) (tRet (tTup (tCons (tMake (He.ga K "Feast") (spD K (c_Feast_init K)) [] E (tPermD 0 5 [2, 4, 1, 3, 0] [.int (1), .non, .non] tNil (tCons (tVar 6) (tCons (tVar 4) (tCons (tVar 2) (tCons (tVar 5) (tCons (tVar 3) tNil))))))) (tCons (tLst (tCons (tVar 2) (tCons (tVar 3) (tCons (tVar 4) (tCons (tVar 5) (tCons (tVar 6) tNil)))))) tNil)))) tNext)
      (tRet (tTup (tCons (tMake (He.ga K "Feast") (spD K (c_Feast_init K)) [] E (tCons (tVar 2) (tCons (tVar 3) (tCons (tVar 4) (tCons (tVar 5) (tCons (tVar 6) tNil)))))) (tCons (tLst (tCons (tVar 2) (tCons (tVar 3) (tCons (tVar 4) (tCons (tVar 5) (tCons (tVar 6) tNil)))))) tNil)))))))))))))
def t_fo_told_is (K : PySem.W.Frag) (E : XK) : TS :=
    (tSeq (tIfS (tOr (tNot (tTruth K (tCB (rIsi K) (tCons (tVar 0) (tCons (tC (.ty "tuple")) tNil))))) (tOr (tTest (tOp (rNeD K) (tCB (rLen K) (tCons (tVar 0) tNil)) (tC (.int 5)))) (tOr (tTest (tOp (rNeD K) (tOp (rIx K) (tVar 0) (tC (.int 0))) (tOp (rIx K) (tVar 1) (tC (.int 0))))) (tTest (tOp (rNeD K) (tOp (rIx K) (tVar 0) (tC (.int 4))) (tOp (rIx K) (tVar 1) (tC (.int 4)))))))) (tRet (tC (.bl false))) tNext)
      (tSeq (tIfS (tOr (tNot (tTruth K (tCall (spD K (c_law_is K)) [] E (tCons (tOp (rIx K) (tVar 0) (tC (.int 1))) (tCons (tOp (rIx K) (tVar 1) (tC (.int 1))) tNil))))) (tOr (tNot (tTruth K (tCall (spD K (c_law_is K)) [] E (tCons (tOp (rIx K) (tVar 0) (tC (.int 2))) (tCons (tOp (rIx K) (tVar 1) (tC (.int 2))) tNil))))) (tNot (tTruth K (tCB (rIsi K) (tCons (tOp (rIx K) (tVar 0) (tC (.int 4))) (tCons (tC (.ty "list")) tNil))))))) (tRet (tC (.bl false))) tNext)
      (tSeq (tIfS (tB (tIsN (tOp (rIx K) (tVar 1) (tC (.int 3))))) (tRet (tIsN (tOp (rIx K) (tVar 0) (tC (.int 3))))) tNext)
      (tRet (tAndV (tCB (rIsi K) (tCons (tOp (rIx K) (tVar 0) (tC (.int 3))) (tCons (tC (.ty "list")) tNil))) (tCall (spD K (c_law_row_is K)) [] E (tCons (tOp (rIx K) (tVar 0) (tC (.int 3))) (tCons (tOp (rIx K) (tVar 1) (tC (.int 3))) tNil))))))))
def t_fo_spoil (K : PySem.W.Frag) (E : XK) : TS :=
    (tSeq (tIfS (tB (tIsN (tVar 0))) tRetN tNext)
      (tSeq (tAsg (tCall (spD K (c_law_draw K)) [] E (tCons (tVar 1) (tCons (tC (.int 3)) tNil))) (gName 2))
      (tIfS (tOr (tTest (tOp (rEqD K) (tVar 2) (tC (.int 0)))) (tTest (tOp (rEqD K) (tVar 0) (tLst tNil)))) (tDrop (tBM K "list" rAppend (tVar 0) (tCons (tTup (tCons (tC (.str "late")) (tCons (tC (.str "off")) tNil))) tNil))) (tIfS (tTest (tOp (rEqD K) (tVar 2) (tC (.int 1)))) (tAsg (tC (.int 7)) (gSub (tVar 0) (tCall (spD K (c_law_draw K)) [] E (tCons (tVar 1) (tCons (tCB (rLen K) (tCons (tVar 0) tNil)) tNil))) rSetL)) (tDrop (tBM0 K "list" rClear (tVar 0)))))))
def t_fo_equal_right (K : PySem.W.Frag) (E : XK) : TS :=
    (tSeq (tAsg (tCall (spD K (c_law_draw K)) [] E (tCons (tVar 2) (tCons (tC (.int 8)) tNil))) (gName 3))
      (tSeq (tAsg (tOp (rAddA K) (tSl (rSlA K) (tVar 1) tNoPart (tPart (tC (.int 3)))) (tLst (tCons (tIf (tB (tIsN (tOp (rIx K) (tVar 1) (tC (.int 3))))) (tC .non) (tCB (rListOf K) (tCons (tOp (rIx K) (tVar 1) (tC (.int 3))) tNil))) (tCons (tCB (rListOf K) (tCons (tOp (rIx K) (tVar 1) (tC (.int 4))) tNil)) tNil)))) (gName 4))
      (tSeq (tIfS (tTest (tOp (rI0 fun i j => .bl (decide (i < j))) (tVar 3) (tC (.int 5)))) (tAsg (tOp (rIx K) (tCall (spD K (c_fo_feast K)) [] E (tCons (tVar 2) tNil)) (tVar 3)) (gSub (tVar 4) (tVar 3) rSetL)) tNext)
      (tSeq (tIfS (tTest (tOp (rEqD K) (tVar 3) (tC (.int 5)))) (tDrop (tBM0 K "list" rReverse (tOp (rIx K) (tVar 4) (tC (.int 4))))) tNext)
      (tSeq (tAsg (tMake (He.ga K "Feast") (spD K (c_Feast_init K)) [] E (tCons (tOp (rIx K) (tVar 4) (tC (.int 0))) (tCons (tOp (rIx K) (tVar 4) (tC (.int 1))) (tCons (tOp (rIx K) (tVar 4) (tC (.int 2))) (tCons (tOp (rIx K) (tVar 4) (tC (.int 3))) (tCons (tOp (rIx K) (tVar 4) (tC (.int 4))) tNil)))))) (gName 5))
      (tSeq (tPar 6 7 (tCons (tOp (rEqO K (He.ga K "Feast") (spD K (c_Feast_eq K)) E) (tVar 0) (tVar 5)) (tCons (tOp (rNeO K (He.ga K "Feast") (spD K (c_Feast_eq K)) E) (tVar 5) (tVar 0)) tNil)))
      (tSeq (tIfS (tOr (tNot (tTruth K (tCB (rIsi K) (tCons (tVar 6) (tCons (tC (.ty "bool")) tNil))))) (tOr (tTest (tOp (rNeD K) (tVar 6) (tOp (rOr (rEqD K) (rEqO K (He.ga K "Calendar") (spD K (c_Calendar_eq K)) E)) (tVar 4) (tVar 1)))) (tTest (tOp (rNeD K) (tVar 7) (tOp (rOr (rNeD K) (rNeO K (He.ga K "Calendar") (spD K (c_Calendar_eq K)) E)) (tVar 4) (tVar 1)))))) (tRet (tC (.bl false))) tNext)
      (tSeq (tAsg (tMake (He.ga K "Calendar") (spD K (c_Calendar_init K)) [] E (tCons (tLst (tCons (tOp (rIx K) (tVar 1) (tC (.int 2))) tNil)) tNil)) (gName 4))
      (tSeq (tIfS (tOr (tTest (tOp rNotB (tOp (rEqO K (He.ga K "Feast") (spD K (c_Feast_eq K)) E) (tVar 0) (tVar 4)) (tC (.bl false)))) (tOr (tTest (tOp rNotB (tOp (rOr (rEqD K) (rEqO K (He.ga K "Calendar") (spD K (c_Calendar_eq K)) E)) (tVar 4) (tVar 0)) (tC (.bl false)))) (tTest (tOp rNotB (tOp (rOr (rNeD K) (rNeO K (He.ga K "Calendar") (spD K (c_Calendar_eq K)) E)) (tVar 4) (tVar 0)) (tC (.bl true)))))) (tRet (tC (.bl false))) tNext)
      (tRet (tAndV (tOp rIsB (tOp (rEqO K (He.ga K "Feast") (spD K (c_Feast_eq K)) E) (tVar 0) (tMeth (He.ga K "Feast") "told" (spD K (c_Feast_told K)) [] E (tVar 0) tNil)) (tC (.bl false))) (tOp rIsB (tOp (rEqO K (He.ga K "Feast") (spD K (c_Feast_eq K)) E) (tVar 0) (tC (.int 0))) (tC (.bl false))))))))))))))
def t_law (K : PySem.W.Frag) (E : XK) : TS :=
    (tSeq (tAsg (tLst (tCons (tC (.int 0)) (tCons (tIf (tTest (tOp (rNeD K) (tVar 0) (tLst tNil))) (tCB (rListOf K) (tCons (tVar 0) tNil)) (tLst (tCons (tC (.int 0)) tNil))) tNil))) (gName 1))
      (tSeq (tFor (iRng1 (tCons (tCB (rMaxA K) (tCons (tC (.int 1)) (tCons (tCB (rMinA K) (tCons (tC (.int 20)) (tCons (tCB (rLen K) (tCons (tVar 0) tNil)) tNil))) tNil))) tNil)) (gName 2) (tSeq (tAsg (tCall (spD K (c_fo_feast K)) [] E (tCons (tVar 1) tNil)) (gName 3))
      (tSeq (tAsg (tCall (spD K (c_fo_made K)) [] E (tCons (tVar 3) (tCons (tCall (spD K (c_law_draw K)) [] E (tCons (tVar 1) (tCons (tC (.int 10)) tNil))) tNil))) (gTup K 2 (gCons (gName 4) (gCons (gName 5) gNil))))
      (tSeq (tAsg (tOp (rAddA K) (tSl (rSlA K) (tVar 5) tNoPart (tPart (tC (.int 3)))) (tLst (tCons (tIf (tB (tIsN (tOp (rIx K) (tVar 5) (tC (.int 3))))) (tC .non) (tCB (rListOf K) (tCons (tOp (rIx K) (tVar 5) (tC (.int 3))) tNil))) (tCons (tCB (rListOf K) (tCons (tOp (rIx K) (tVar 5) (tC (.int 4))) tNil)) tNil)))) (gName 5))
      (tSeq (tFor (iRng1 (tCons (tC (.int 2)) tNil)) (gName 6) (tSeq (tAsg (tMeth (He.ga K "Feast") "told" (spD K (c_Feast_told K)) [] E (tVar 4) tNil) (gName 7))
      (tSeq (tIfS (tOr (tNot (tTruth K (tCall (spD K (c_fo_told_is K)) [] E (tCons (tVar 7) (tCons (tVar 5) tNil))))) (tNot (tTruth K (tCall (spD K (c_fo_equal_right K)) [] E (tCons (tVar 4) (tCons (tVar 5) (tCons (tVar 1) tNil))))))) (tRet (tC (.bl false))) tNext)
      (tSeq (tDrop (tCall (spD K (c_fo_spoil K)) [] E (tCons (tOp (rIx K) (tVar 3) (tC (.int 3))) (tCons (tVar 1) tNil))))
      (tSeq (tDrop (tCall (spD K (c_fo_spoil K)) [] E (tCons (tOp (rIx K) (tVar 7) (tC (.int 3))) (tCons (tVar 1) tNil))))
      (tSeq (tDrop (tCall (spD K (c_fo_spoil K)) [] E (tCons (tOp (rIx K) (tVar 3) (tC (.int 4))) (tCons (tVar 1) tNil))))
      (tDrop (tCall (spD K (c_fo_spoil K)) [] E (tCons (tOp (rIx K) (tVar 7) (tC (.int 4))) (tCons (tVar 1) tNil))))))))))
      (tIfS (tNot (tTruth K (tCall (spD K (c_fo_told_is K)) [] E (tCons (tMeth (He.ga K "Feast") "told" (spD K (c_Feast_told K)) [] E (tVar 4) tNil) (tCons (tVar 5) tNil))))) (tRet (tC (.bl false))) tNext))))))
      (tRet (tC (.bl true)))))
section
variable {K : PySem.W.Frag}
theorem d_fo_kept : ∀ ds μ P PX, c_fo_kept K ds μ P PX → MuCl μ μ.length → clL ds μ.length = true → ∀ B E, XAg K B (RetX μ.length PX) E → DS K B (t_fo_kept K E) (startD ["_law_hold", "_law_way", "_law_one", "_law_number"] ds) μ (fnE μ.length P) := by
  intro ds μ P PX h hm hc B E hE
  obtain ⟨k, k2, c, ns, rfl, hd, hc38, h⟩ := h
  show DS K B _ [some (.own k), none, none, none] μ _
  have hc0 := hd.c0
  have ret0 : ∀ (c' : Int) (ns' : List Int), c ≤ c' → c' ≤ c + 30 → ns'.length = ns.length → Ret μ.length P .non (hold μ k k2 c' ns') := fun c' ns' h2 h3 hn => by
    have q := h none c' ns' [] .non (fun _ e => by cases e) h2 h3 hn (by rw [List.append_nil]; exact hd.cl hm) (.inl ⟨rfl, rfl⟩)
    rw [List.append_nil] at q
    exact ret_same0 (by rw [hold_len]; exact Nat.le_refl _) (hd.cl hm) rfl q
  have ret : ∀ (ys : List Int) (c' : Int) (ns' : List Int) (e : Mu) (a : Nat), KeptOk ys → c ≤ c' → c' ≤ c + 30 → ns'.length = ns.length → μ.length ≤ a → (hold μ k k2 c' ns' ++ e)[a]? = some (.lst (ys.map D.int)) → MuCl (hold μ k k2 c' ns' ++ e) (hold μ k k2 c' ns' ++ e).length → Ret μ.length P (.own a) (hold μ k k2 c' ns' ++ e) := fun ys c' ns' e a h1 h2 h3 hn ha hl hcl => by
    have q := h (some ys) c' ns' e (.own a) (fun _ z => by cases z; exact h1) h2 h3 hn hcl (.inr ⟨a, ys, rfl, ha, rfl, hl⟩)
    have := (List.getElem?_eq_some_iff.mp hl).1
    exact ret_same0 (by rw [List.length_append, hold_len]; omega) hcl (by simpa [D.cl] using this) q
  have ks : ∀ {ys}, KeptOk ys → KeptO (some ys) := fun h ys' e => by cases e; exact h
  unfold t_fo_kept
  wtm_at "A"
  refine ⟨k, k2, c, ns, 4, rfl, hd, by omega, by decide, by decide, fun w ns1 hw0 hw1 hn1 => ?_⟩
  have hd1 := hd.hold (c' := c + 1) (ns' := ns1) (by omega) hn1
  wtm_at "A"
  · exact ret0 _ ns1 (by omega) (by omega) hn1
  · refine ⟨k, k2, _, ns1, 20, rfl, hd1, by omega, by decide, by decide, fun one ns2 ho0 ho1 hn2 => ?_⟩
    rw [hold_hold hd.ne]
    have hd2 := hd.hold (c' := c + 1 + 1) (ns' := ns2) (by omega) (by omega)
    wtm_at "A"
    · refine de_lstZ ?_
      refine da_cons (de_lstRgO ?_)
      wtm_at "A"
      refine ⟨by omega, by omega, ?_⟩
      refine da_cons (de_lstOZ ?_)
      wtm_at "A"
      refine de_lstOZ ?_
      wtm_at "A"
      refine de_lstOZ ?_
      wtm_at "A"
      have hh : (hold μ k k2 (c + 1 + 1) ns2).length = μ.length := hold_len
      simp only [List.append_assoc, List.cons_append, List.nil_append, List.length_append, List.length_cons, List.length_nil, hh, Nat.zero_add, Nat.add_assoc, Nat.reduceAdd, Nat.add_zero]
      refine ⟨k, k2, _, ns2, 4, rfl, hd2.app _, by omega, by decide, by decide, fun r ns3 hr0 hr1 hn3 => ?_⟩
      rw [hold_app hd2, hold_hold hd.ne]
      have h2 : (hold μ k k2 (c + 1 + 1 + 1) ns3).length = μ.length := hold_len
      have cl4 : MuCl (hold μ k k2 (c + 1 + 1 + 1) ns3 ++ [MO.lst (rangeD 0 (Int.toNat 20)), .lst [.int one], .lst [.int 0], .lst [.int 19]]) (hold μ k k2 (c + 1 + 1 + 1) ns3 ++ [MO.lst (rangeD 0 (Int.toNat 20)), .lst [.int one], .lst [.int 0], .lst [.int 19]]).length := by
        have q := ((((hd.cl (c' := c + 1 + 1 + 1) (ns' := ns3) hm).app (o := .lst (rangeD 0 (Int.toNat 20))) (clL_map fun _ _ => rfl)).app (o := .lst [.int one]) rfl).app (o := .lst [.int 0]) rfl).app (o := .lst [.int 19]) rfl
        simpa [List.append_assoc] using q
      have gt : ∀ i : Nat, (hold μ k k2 (c + 1 + 1 + 1) ns3 ++ [MO.lst (rangeD 0 (Int.toNat 20)), .lst [.int one], .lst [.int 0], .lst [.int 19]])[μ.length + i]? = ([MO.lst (rangeD 0 (Int.toNat 20)), .lst [.int one], .lst [.int 0], .lst [.int 19]] : Mu)[i]? := fun i => by
        rw [List.getElem?_append_right (by omega), h2, Nat.add_sub_cancel_left]
      have hr : r = 0 ∨ r = 1 ∨ r = 2 ∨ r = 3 := by omega
      rcases hr with e | e | e | e <;> rw [e] <;> refine ro_ixL (.lst _) rfl ?_
      · exact ret ((List.range 20).map fun (i : Nat) => (i : Int)) _ ns3 _ (μ.length + 0) keptOk_rg (by omega) (by omega) (by omega) (by omega) (gt 0) cl4
      · exact ret [one] _ ns3 _ (μ.length + 1) (keptOk_one ho0 (by omega)) (by omega) (by omega) (by omega) (by omega) (gt 1) cl4
      · exact ret [0] _ ns3 _ (μ.length + 2) (keptOk_one (by omega) (by omega)) (by omega) (by omega) (by omega) (by omega) (gt 2) cl4
      · exact ret [19] _ ns3 _ (μ.length + 3) (keptOk_one (by omega) (by omega)) (by omega) (by omega) (by omega) (by omega) (gt 3) cl4
    · refine de_lcF (gw_name (by simp)) ?_
      wtm_at "A"
      refine ⟨by omega, by omega, by rw [rangeD_length]; decide, fun i acc μ' => ∃ (ys ns3 : List Int) (c3 : Int), acc = ys.map D.int ∧ μ' = hold μ k k2 c3 ns3 ∧ ns3.length = ns.length ∧ c ≤ c3 ∧ c3 ≤ c + 2 + i ∧ Rise one i ys,
        ⟨[], ns2, _, rfl, rfl, by omega, by omega, by omega, Rise.nil ho0⟩, fun _ _ _ _ _ => trivial, ?_, ?_⟩
      · rintro i d acc μ' hd' ⟨ys, ns3, c3, rfl, rfl, hn3, hc3, hc3', hrise⟩
        obtain ⟨hi, rfl⟩ := rangeD_some hd'
        have hi20 : i < 20 := by simpa using hi
        have hd3 := hd.hold (c' := c3) (ns' := ns3) (by omega) hn3
        wtm_at "E"
        · refine de_call XAg.none ?_
          wtm_at "E"
          refine ⟨k, k2, _, ns3, 1 + w, rfl, hd3, by omega, by omega, by omega, fun r ns4 hr0 hr1 hn4 => ?_⟩
          rw [hold_hold hd.ne]
          wtm_at "E"
          · exact ⟨ys ++ [(i : Int)], ns4, _, by simp, rfl, by omega, by omega, by omega, hrise.keep⟩
          · exact ⟨ys, ns4, _, rfl, rfl, by omega, by omega, by omega, hrise.skip (by omega)⟩
        · exact ⟨ys ++ [(i : Int)], ns3, c3, by simp, rfl, hn3, hc3, by omega, hrise.keep⟩
      · rintro acc μ' ⟨ys, ns3, c3, rfl, rfl, hn3, hc3, hc3', hrise⟩
        rw [rangeD_length] at hrise hc3'
        refine .inr ?_
        have hh : (hold μ k k2 c3 ns3).length = μ.length := hold_len
        have hcl := (hd.cl (c' := c3) (ns' := ns3) hm).app (o := .lst (ys.map D.int)) (clL_map fun _ _ => rfl)
        exact ret ys c3 ns3 [.lst (ys.map D.int)] _ (hrise.kept (by simpa using ho1) (by decide)) hc3 (by omega) hn3 (by omega) mu_last hcl
theorem d_fo_acts : ∀ ds μ P PX, c_fo_acts K ds μ P PX → MuCl μ μ.length → clL ds μ.length = true → ∀ B E, XAg K B (RetX μ.length PX) E → DS K B (t_fo_acts K E) (startD ["_law_hold", "_law_found", "_law_k", "_law_word", "_law_one", "_law_sort"] ds) μ (fnE μ.length P) := by
  intro ds μ P PX h hm hc B E hE
  obtain ⟨k, k2, c, ns, rfl, hd, hc38, h⟩ := h
  show DS K B _ [some (.own k), none, none, none, none, none] μ _
  have hc0 := hd.c0
  have hlast : ∀ (c' : Int) (ns' : List Int) (o : MO), (hold μ k k2 c' ns' ++ [o])[μ.length]? = some o := fun c' ns' o => by rw [← hold_len (μ := μ) (k := k) (k2 := k2) (c := c') (ns := ns')]; exact mu_last
  have hsetl : ∀ (c' : Int) (ns' : List Int) (o o' : MO), (hold μ k k2 c' ns' ++ [o]).set μ.length o' = hold μ k k2 c' ns' ++ [o'] := fun c' ns' o o' => by rw [← hold_len (μ := μ) (k := k) (k2 := k2) (c := c') (ns := ns')]; exact set_last
  unfold t_fo_acts
  wtm_at "A"
  refine de_lstOZ ?_
  wtm_at "A"
  refine q_for ?_
  wtm_at "E"
  refine ⟨k, k2, c, ns, 5, rfl, hd.app _, by omega, by decide, by decide, fun m ns1 hm0 hm1 hn1 => ?_⟩
  rw [hold_app hd]
  wtm_at "E"
  refine ⟨by omega, by omega, fun i ρ μ' => ∃ (y2 y3 y4 y5 : Option D) (ps : List (Str × Str)) (c3 : Int) (ns3 : List Int), ρ = [some (.own k), some (.own μ.length), y2, y3, y4, y5] ∧ μ' = hold μ k k2 c3 ns3 ++ [.lst (ps.map actD)] ∧ ns3.length = ns.length ∧ c ≤ c3 ∧ c3 ≤ c + 1 + 12 * i ∧ ActsOk ps ∧ ps.length ≤ i,
    ⟨none, none, none, none, [], _, ns1, rfl, rfl, hn1, by omega, by omega, ⟨by decide, by simp, by simp⟩, by simp⟩, fun _ _ _ _ _ => trivial, ?_, ?_⟩
  · rintro i d ρ μ' hd' ⟨y2, y3, y4, y5, ps, c3, ns3, rfl, rfl, hn3, hc3, hc3', hok, hpl⟩
    obtain ⟨hi, rfl⟩ := rangeD_some hd'
    have hd3 := hd.hold (c' := c3) (ns' := ns3) (by omega) hn3
    wtm_at "A"
    refine ⟨k, k2, _, ns3, rfl, hd3.app _, by omega, fun s c4 ns4 hs hc4 hc4' hn4 => ?_⟩
    rw [hold_app hd3, hold_hold hd.ne]
    have hd4 := hd.hold (c' := c4) (ns' := ns4) (by omega) (by omega)
    wtm_at "A"
    refine lc_map actN (gw_tup (gws_cons (i := 4) (vs := [4, 5]) (by simp) (gws_cons (i := 5) (by simp) gws_nil))) ?_
    wtm_at "A"
    refine ⟨_, _, .own (hlast _ _ _), hlast _ _ _, by simp; omega, fun j d hj => ?_, fun out ho => ?_⟩
    · obtain ⟨p, _, rfl⟩ := acts_get hj
      wtm_at "A"
      refine ⟨rfl, ?_⟩
      wtm_at "A"
      exact ⟨rfl, rfl⟩
    refine ro_notInS (ns := ps.map (·.1)) (by rw [← ho, List.map_map, List.map_map]; exact .lst _) ?_
    wtm_at "A"
    · rename_i hb
      have hnot : s ∉ ps.map (·.1) := by simpa using hb
      refine ⟨ty_list (.own (hlast _ _ _)), ?_⟩
      wtm_at "A"
      refine de_lstZ ?_
      wtm_at "A"
      refine ⟨k, k2, _, ns4, 2, rfl, hd4.app _, by omega, by decide, by decide, fun r ns5 hr0 hr1 hn5 => ?_⟩
      rw [hold_app hd4, hold_hold hd.ne]
      obtain ⟨so, hso, hso'⟩ : ∃ so : Str, atI [D.str "off", .str "rest"] r = some (.str so) ∧ (so = "off" ∨ so = "rest") := by
        have : r = 0 ∨ r = 1 := by omega
        rcases this with rfl | rfl
        · exact ⟨"off", rfl, .inl rfl⟩
        · exact ⟨"rest", rfl, .inr rfl⟩
      refine ro_ixL (.lst _) hso ?_
      wtm_at "A"
      refine rm_app (hlast _ _ _) (by simp; omega) ?_
      rw [hsetl]
      exact ⟨_, _, _, _, ps ++ [(s, so)], c4 + 1, ns5, rfl, by simp [actD], by omega, by omega, by omega, acts_add hok (by omega) hs hso' hnot, by simp; omega⟩
    · exact ⟨_, _, _, _, ps, c4, ns4, rfl, rfl, by omega, by omega, by omega, hok, by omega⟩
  · rintro ρ μ' ⟨y2, y3, y4, y5, ps, c3, ns3, rfl, rfl, hn3, hc3, hc3', hok, hpl⟩
    rw [rangeD_length] at hc3'
    refine ds_ret ?_
    wtm_at "v"
    have hcl : clL (ps.map actD) (hold μ k k2 c3 ns3).length = true := clL_map fun p _ => by simp [actD, D.cl, clL]
    exact ret_same0 (by simp [hold_len]) ((hd.cl hm).app (o := .lst (ps.map actD)) hcl) (by simp [D.cl, hold_len]) (h ps c3 ns3 hok hc3 (by omega) hn3)
theorem d_fo_feast : ∀ ds μ P PX, c_fo_feast K ds μ P PX → MuCl μ μ.length → clL ds μ.length = true → ∀ B E, XAg K B (RetX μ.length PX) E → DS K B (t_fo_feast K E) (startD ["_law_hold", "_law_way", "_law_far", "_law_near", "_law_spot", "_law_lasts"] ds) μ (fnE μ.length P) := by
  intro ds μ P PX h hm hc B E hE
  obtain ⟨k, k2, c, ns, rfl, hd, hc37, h⟩ := h
  show DS K B _ [some (.own k), none, none, none, none, none] μ _
  have hc0 := hd.c0
  unfold t_fo_feast
  wtm_at "A"
  refine ⟨k, k2, c, ns, 6, rfl, hd, by omega, by decide, by decide, fun w ns1 hw0 hw1 hn1 => ?_⟩
  have hd1 := hd.hold (c' := c + 1) (ns' := ns1) (by omega) hn1
  wtm_at "A"
  refine ⟨k, k2, _, ns1, 400, rfl, hd1, by omega, by decide, by decide, fun fa ns2 hf0 hf1 hn2 => ?_⟩
  rw [hold_hold hd.ne]
  have hd2 := hd.hold (c' := c + 1 + 1) (ns' := ns2) (by omega) (by omega)
  wtm_at "A"
  refine ⟨k, k2, _, ns2, 8, rfl, hd2, by omega, by decide, by decide, fun ne ns3 hne0 hne1 hn3 => ?_⟩
  rw [hold_hold hd.ne]
  have hd3 := hd.hold (c' := c + 1 + 1 + 1) (ns' := ns3) (by omega) (by omega)
  wtm_at "A"
  refine de_lstZ ?_
  wtm_at "A"
  obtain ⟨sp, hsp, hsp0, hsp1⟩ : ∃ sp, atI [D.int fa, .int ne, .int (-1 - fa), .int (-1 - ne), .int 399, .int (-400)] w = some (.int sp) ∧ -400 ≤ sp ∧ sp ≤ 399 := by
    have : w = 0 ∨ w = 1 ∨ w = 2 ∨ w = 3 ∨ w = 4 ∨ w = 5 := by omega
    rcases this with rfl | rfl | rfl | rfl | rfl | rfl <;> exact ⟨_, rfl, by omega, by omega⟩
  refine ro_ixL (.lst _) hsp ?_
  wtm_at "A"
  refine de_lstZ ?_
  wtm_at "A"
  refine ⟨k, k2, _, ns3, 4, rfl, hd3, by omega, by decide, by decide, fun r4 ns4 hr40 hr41 hn4 => ?_⟩
  rw [hold_hold hd.ne]
  have hd4 := hd.hold (c' := c + 1 + 1 + 1 + 1) (ns' := ns4) (by omega) (by omega)
  obtain ⟨top, htop, ht0, ht1⟩ : ∃ top, atI [D.int 1, .int 4, .int 40, .int 40] r4 = some (.int top) ∧ 1 ≤ top ∧ top ≤ 40 := by
    have : r4 = 0 ∨ r4 = 1 ∨ r4 = 2 ∨ r4 = 3 := by omega
    rcases this with rfl | rfl | rfl | rfl <;> exact ⟨_, rfl, by omega, by omega⟩
  refine ro_ixL (.lst _) htop ?_
  wtm_at "A"
  refine ⟨k, k2, _, ns4, top, rfl, hd4, by omega, by omega, by omega, fun la ns5 hla0 hla1 hn5 => ?_⟩
  rw [hold_hold hd.ne]
  have hd5 := hd.hold (c' := c + 1 + 1 + 1 + 1 + 1) (ns' := ns5) (by omega) (by omega)
  wtm_at "A"
  -- the list
  refine de_lstZ ?_
  wtm_at "E"
  refine ⟨k, k2, _, ns5, rfl, hd5, by omega, fun s c6 ns6 hs hc6 hc6' hn6 => ?_⟩
  rw [hold_hold hd.ne]
  have hd6 := hd.hold (c' := c6) (ns' := ns6) (by omega) (by omega)
  wtm_at "E"
  refine ⟨k, k2, _, ns6, rfl, hd6, by omega, fun kp c7 ns7 e x hkp hc7 hc7' hn7 hKc hK => ?_⟩
  rw [hold_hold hd.ne] at hK hKc ⊢
  have hd7 := hd.hold (c' := c7) (ns' := ns7) (by omega) (by omega)
  wtm_at "E"
  refine ⟨k, k2, _, ns7, rfl, hd7.app _, by omega, fun ps c8 ns8 hps hc8 hc8' hn8 => ?_⟩
  rw [hold_app hd7, hold_hold hd.ne]
  wtm_at "E"
  have hl7 : (hold μ k k2 c7 ns7 ++ e).length = (hold μ k k2 c8 ns8 ++ e).length := by rw [List.length_append, List.length_append, hold_len, hold_len]
  have hl0 : μ.length ≤ (hold μ k k2 c8 ns8 ++ e).length := by rw [List.length_append, hold_len]; omega
  have hK8 : Kp17 (hold μ k k2 c8 ns8 ++ e) μ.length x kp := by
    rcases hK with hK | ⟨a, ys, h1, h2, h3, h4⟩
    · exact .inl hK
    · refine .inr ⟨a, ys, h1, by rw [hold_len] at h2; exact h2, h3, ?_⟩
      rw [hold_len] at h2
      rw [List.getElem?_append_right (by rw [hold_len]; exact h2), hold_len] at h4 ⊢
      exact h4
  have hcl8 : MuCl (hold μ k k2 c8 ns8 ++ e) (hold μ k k2 c8 ns8 ++ e).length := by
    intro o ho
    rcases List.mem_append.mp ho with z | z
    · exact MO.cl_mono o (by rw [List.length_append]; omega) (hd.cl hm o z)
    · rw [← hl7]
      exact hKc o (List.mem_append.mpr (.inr z))
  have hacl : clL (ps.map actD) (hold μ k k2 c8 ns8 ++ e).length = true := clL_map fun p _ => by simp [actD, D.cl, clL]
  have hcl9 := hcl8.app (o := .lst (ps.map actD)) hacl
  rw [hl7]
  have q := h ⟨s, sp, 1 + la, kp, ps⟩ c8 ns8 (e ++ [.lst (ps.map actD)]) x (hold μ k k2 c8 ns8 ++ e).length ⟨hs, hsp0, hsp1, by show 1 ≤ 1 + la; omega, by show 1 + la ≤ 40; omega, hkp, hps⟩ (by omega) (by omega) (by omega)
  rw [← List.append_assoc] at q
  refine ret_same0 (by simp [hold_len]) hcl9 ?_ (q hcl9 (hK8.app _) hl0 mu_last)
  have hx := (hK8.app [MO.lst (ps.map actD)]).cl
  simp only [D.cl, clL, hx, Bool.true_and, Bool.and_true]
  simp
end
/-- the last thing handed in: the puts, or None for none -/
def Pu17 (μ : Mu) (xp : D) (ps : List (Str × Str)) : Prop := Fz μ xp (actsD ps) ∨ (xp = .non ∧ ps = [])
theorem c_Feast_ok17 {K : PySem.W.Frag} {μ : Mu} {P : D → Mu → Prop} {PX : PXT} {k : Nat} {f : FeT} {xk xp : D} (hk : μ[k]? = some (.ins (cFe K) [])) (hg : GFe f) (fk : Fz μ xk (keptD f.kept)) (fp : Pu17 μ xp f.acts) (h : P .non (μ.set k (.ins (cFe K) (feF f)))) : c_Feast_init K [.own k, .str f.name, .int f.place, .int f.lasts, xk, xp] μ P PX := by
  rcases fp with fp | ⟨rfl, e⟩
  · exact c_Feast_ok hk hg fk fp h
  · have is : FeIs (.str f.name) (.int f.place) (.int f.lasts) (keptD f.kept) .non f := ⟨hg, rfl, rfl, rfl, rfl, hg.acts, .inr ⟨rfl, e⟩⟩
    exact ⟨k, _, _, _, xk, _, .non, .non, rfl, hk, rfl, fun s e => by cases e; have := hg.name.2.1; omega, rfl, rfl, fk, .inl (kept_datF _), .id _, ⟨.inl rfl, fun xs e => (by cases e)⟩, fun g hg' => by rw [← is.uniq hg']; exact h, fun hn => absurd is (hn f)⟩
theorem feD_cl17 (K : PySem.W.Frag) (f : FeT) (n : Nat) : (feD K f).cl n = true := by simp only [feD, feF, D.cl, clF, cl_kept, cl_acts, Bool.and_self]
theorem no_acts17 : ActsOk [] := ⟨by decide, fun p hp => (by cases hp), by decide⟩
section
variable {K : PySem.W.Frag}
theorem de_feast17 {B : Bs} {E : XK} {PX : PXT} {ts : TA} {ρ : En} {μ : Mu} {P : D → Mu → Prop} {dvs : List V} {dds : List D} (hE : XAg K B PX E) (hd : ∀ G al, Rps K G al dvs dds) (h : DA K B ts ρ μ fun ds μ1 => ∃ (f : FeT) (xk xp : D), ds ++ dds = [.str f.name, .int f.place, .int f.lasts, xk, xp] ∧ GFe f ∧ Fz μ1 xk (keptD f.kept) ∧ Pu17 μ1 xp f.acts ∧ P (feD K f) μ1) : DE K B (tMake (He.ga K "Feast") (spD K (c_Feast_init K)) dvs E ts) ρ μ P := by
  refine de_make hE hd ?_
  refine da_imp h fun ds μ1 p1 => ?_
  obtain ⟨f, xk, xp, e, gf, fk, fp, p⟩ := p1
  rw [e]
  exact c_Feast_ok17 mu_last gf (fk.app _) (fp.imp (fun z => z.app _) id) ⟨rfl, feF f, set_last, feD_cl17 K f _, p⟩
theorem d_fo_made : ∀ ds μ P PX, c_fo_made K ds μ P PX → MuCl μ μ.length → clL ds μ.length = true → ∀ B E, XAg K B (RetX μ.length PX) E → DS K B (t_fo_made K E) (startD ["_law_some", "_law_way", "_law_word", "_law_spot", "_law_lasts", "_law_kept_here", "_law_acts_here"] ds) μ (fnE μ.length P) := by
  intro ds μ P PX h hm hc B E hE
  obtain ⟨f, x, a, w, rfl, gf, fx, ha, w0, w1, h⟩ := h
  have xcl : x.cl μ.length = true := by
    have := hc
    simp only [clL, D.cl, Bool.and_eq_true] at this
    exact this.1.2.2.2.1
  have acl : (D.own a).cl μ.length = true := by
    have := (List.getElem?_eq_some_iff.mp ha).1
    simpa [D.cl] using this
  have fin : ∀ (g : FeT) (y z : D), GFe g → Fz μ y (keptD g.kept) → Fz μ z (actsD g.acts) → y.cl μ.length = true → z.cl μ.length = true → Ret μ.length P (.tup [feD K g, .lst [.str g.name, .int g.place, .int g.lasts, y, z]]) μ := fun g y z h1 h2 h3 h4 h5 =>
    ret_same0 (Nat.le_refl _) hm (by simp only [D.cl, clL, h4, h5, feD_cl17 K g, Bool.and_self, Bool.and_true]) (h g y z h1 h2 h3)
  show DS K B _ [some (.lst [.str f.name, .int f.place, .int f.lasts, x, .own a]), some (.int w), none, none, none, none, none] μ _
  have nk : KeptO none := fun _ e => (by cases e)
  have k0 : GFe { f with lasts := 1, kept := none, acts := [] } := ⟨gf.name, gf.p0, gf.p1, (show (1 : Int) ≤ 1 by decide), (show (1 : Int) ≤ 40 by decide), nk, no_acts17⟩
  have k1 : GFe { f with kept := none, acts := [] } := ⟨gf.name, gf.p0, gf.p1, gf.l0, gf.l1, nk, no_acts17⟩
  have k2 : GFe { f with acts := [] } := ⟨gf.name, gf.p0, gf.p1, gf.l0, gf.l1, gf.kept, no_acts17⟩
  have k3 : GFe { f with lasts := 1, kept := none } := ⟨gf.name, gf.p0, gf.p1, (show (1 : Int) ≤ 1 by decide), (show (1 : Int) ≤ 40 by decide), nk, gf.acts⟩
  have k4 : GFe { f with lasts := 1, acts := [] } := ⟨gf.name, gf.p0, gf.p1, (show (1 : Int) ≤ 1 by decide), (show (1 : Int) ≤ 40 by decide), gf.kept, no_acts17⟩
  have k6 : GFe { f with kept := none } := ⟨gf.name, gf.p0, gf.p1, gf.l0, gf.l1, nk, gf.acts⟩
  unfold t_fo_made
  refine q_asg (de_var rfl (dg_unl (.lst _) rfl ?_))
  wtm_at "E"
  refine q_when (dt_test ?_)
  wtm_at "E"
  · refine ds_ret (de_tupZ ?_)
    refine da_cons (de_feast17 hE (fun G al => .cons (.int 1) (.cons .non (.cons .non .nil))) ?_)
    wtm_at "E"
    refine ⟨{ f with lasts := 1, kept := none, acts := [] }, .non, .non, rfl, k0, .id _, .inr ⟨rfl, rfl⟩, ?_⟩
    refine da_cons (de_lstZ ?_)
    wtm_at "E"
    refine de_lstZ ?_
    wtm_at "E"
    exact fin { f with lasts := 1, kept := none, acts := [] } .non (.lst []) k0 (.id _) (.id _) rfl rfl
  refine q_when (dt_test ?_)
  wtm_at "E"
  · refine ds_ret (de_tupZ ?_)
    refine da_cons (de_feast17 hE (fun G al => .cons .non (.cons .non .nil)) ?_)
    wtm_at "E"
    refine ⟨{ f with kept := none, acts := [] }, .non, .non, rfl, k1, .id _, .inr ⟨rfl, rfl⟩, ?_⟩
    refine da_cons (de_lstZ ?_)
    wtm_at "E"
    refine de_lstZ ?_
    wtm_at "E"
    exact fin { f with kept := none, acts := [] } .non (.lst []) k1 (.id _) (.id _) rfl rfl
  refine q_when (dt_test ?_)
  wtm_at "E"
  · refine ds_ret (de_tupZ ?_)
    refine da_cons (de_feast17 hE (fun G al => .cons .non .nil) ?_)
    wtm_at "E"
    refine ⟨{ f with acts := [] }, x, .non, rfl, k2, fx, .inr ⟨rfl, rfl⟩, ?_⟩
    refine da_cons (de_lstZ ?_)
    wtm_at "E"
    refine de_lstZ ?_
    wtm_at "E"
    exact fin { f with acts := [] } x (.lst []) k2 fx (.id _) xcl rfl
  refine q_when (dt_test ?_)
  wtm_at "E"
  · refine ds_ret (de_tupZ ?_)
    refine da_cons (de_feast17 hE (fun G al => .nil) ?_)
    refine da_permD rps_fe ?_
    wtm_at "E"
    refine ⟨rfl, rfl, { f with lasts := 1, kept := none }, .non, (.own a), rfl, k3, .id _, .inl (.own ha), ?_⟩
    refine da_cons (de_lstZ ?_)
    wtm_at "E"
    exact fin { f with lasts := 1, kept := none } .non (.own a) k3 (.id _) (.own ha) rfl acl
  refine q_when (dt_test ?_)
  wtm_at "E"
  · refine ds_ret (de_tupZ ?_)
    refine da_cons (de_feast17 hE (fun G al => .nil) ?_)
    refine da_permD rps_fe ?_
    wtm_at "E"
    refine ⟨rfl, rfl, { f with lasts := 1, acts := [] }, x, .non, rfl, k4, fx, .inr ⟨rfl, rfl⟩, ?_⟩
    refine da_cons (de_lstZ ?_)
    wtm_at "E"
    refine de_lstZ ?_
    wtm_at "E"
    exact fin { f with lasts := 1, acts := [] } x (.lst []) k4 fx (.id _) xcl rfl
  refine q_when (dt_test ?_)
  wtm_at "E"
  · refine ds_ret (de_tupZ ?_)
    refine da_cons (de_feast17 hE (fun G al => .nil) ?_)
    wtm_at "E"
    refine ⟨{ f with kept := none, acts := [] }, .non, .non, rfl, k1, .id _, .inr ⟨rfl, rfl⟩, ?_⟩
    refine da_cons (de_lstZ ?_)
    wtm_at "E"
    refine de_lstZ ?_
    wtm_at "E"
    exact fin { f with kept := none, acts := [] } .non (.lst []) k1 (.id _) (.id _) rfl rfl
  refine q_when (dt_test ?_)
  wtm_at "E"
  · refine ds_ret (de_tupZ ?_)
    refine da_cons (de_feast17 hE (fun G al => .nil) ?_)
    refine da_permD rps_fe ?_
    wtm_at "E"
    refine ⟨rfl, rfl, { f with kept := none }, .non, (.own a), rfl, k6, .id _, .inl (.own ha), ?_⟩
    refine da_cons (de_lstZ ?_)
    wtm_at "E"
    exact fin { f with kept := none } .non (.own a) k6 (.id _) (.own ha) rfl acl
  refine q_when (dt_test ?_)
  wtm_at "E"
  · refine ds_ret (de_tupZ ?_)
    refine da_cons (de_feast17 hE (fun G al => .nil) ?_)
    refine da_permD rps_fe ?_
    wtm_at "E"
    refine ⟨rfl, rfl, f, x, (.own a), rfl, gf, fx, .inl (.own ha), ?_⟩
    refine da_cons (de_lstZ ?_)
    wtm_at "E"
    exact fin f x (.own a) gf fx (.own ha) xcl acl
  refine ds_ret (de_tupZ ?_)
  refine da_cons (de_feast17 hE (fun G al => .nil) ?_)
  wtm_at "E"
  refine ⟨f, x, (.own a), rfl, gf, fx, .inl (.own ha), ?_⟩
  refine da_cons (de_lstZ ?_)
  wtm_at "E"
  exact fin f x (.own a) gf fx (.own ha) xcl acl
end
theorem Fz.tyL {μ : Mu} {y : D} {l : List D} (h : Fz μ y (.lst l)) : tyD μ y = some "list" := by
  generalize hd : D.lst l = d at h
  cases h with
  | id => rw [← hd]; rfl
  | own hk => simp only [tyD, hk]
theorem Fz.seqI {μ : Mu} {y : D} {l : List Int} (h : Fz μ y (.lst (l.map D.int))) : SeqI μ true y l := by
  generalize hd : D.lst (l.map D.int) = d at h
  cases h with
  | id => rw [← hd]; exact .lst _
  | own hk => cases hd; exact .own hk
theorem kept_shp17 (kp : Option (List Int)) : (keptD kp).shp 2 = true := by
  cases kp with
  | none => rfl
  | some ys =>
    unfold keptD intsD
    rw [D.shp]
    simp only [Bool.and_eq_true, decide_eq_true_eq]
    exact ⟨by decide, shpL_map fun _ _ => rfl⟩
theorem acts_shp17 {ps : List (Str × Str)} (h : ActsOk ps) : (actsD ps).shp 2 = true := by
  unfold actsD
  rw [D.shp]
  simp only [Bool.and_eq_true, decide_eq_true_eq]
  refine ⟨by decide, shpL_map fun p hp => ?_⟩
  obtain ⟨a1, a2⟩ := h.each p hp
  have a3 : PyData.strOk p.2 = true := by
    rcases a2 with e | e <;> rw [e] <;> decide +kernel
  simp [actD, D.shp, shpL, a1.strOk, a3]
section
variable {K : PySem.W.Frag}
theorem d_fo_told_is : ∀ ds μ P PX, c_fo_told_is K ds μ P PX → MuCl μ μ.length → clL ds μ.length = true → ∀ B E, XAg K B (RetX μ.length PX) E → DS K B (t_fo_told_is K E) (startD ["_law_found", "_law_due"] ds) μ (fnE μ.length P) := by
  intro ds μ P PX h hm hc B E hE
  obtain ⟨f, x, y, rfl, gf, fx, fy, h⟩ := h
  have ash := acts_shp17 gf.acts
  show DS K B _ [some (.tup [.str f.name, .int f.place, .int f.lasts, x, y]), some (.lst (feL f))] μ _
  unfold t_fo_told_is feL
  refine q_when (dt_or (dt_not (dt_truth (de_cb ?_))))
  wtm_at "E"
  refine ro_ixL (.lst _) (d := .str f.name) rfl ?_
  refine ro_neSS gf.name.strOk ?_
  refine ⟨false, rfl, fun _ => ?_, fun z => (nomatch z)⟩
  refine dt_test (de_op ?_)
  wtm_at "E"
  refine ro_ixL (.lst _) (d := actsD f.acts) rfl ?_
  refine ro_neD (n := 2) (m := 2) fy (.id _) ash ash ?_
  rw [eqvD_refl ash]
  wtm_at "E"
  refine q_when (dt_or (dt_not (dt_truth ?_)))
  wtm_at "E"
  refine ro_ixL (.lst _) (d := .int f.place) rfl ?_
  wtm_at "E"
  refine ⟨f.place, rfl, ?_⟩
  wtm_at "E"
  refine ro_ixL (.lst _) (d := .int f.lasts) rfl ?_
  wtm_at "E"
  refine ⟨f.lasts, rfl, ?_⟩
  wtm_at "E"
  refine rc_isiB (Fz.tyL fy) (by rfl) ?_
  wtm_at "E"
  refine q_when ?_
  wtm_at "E"
  refine ro_ixL (.lst _) (d := keptD f.kept) rfl ?_
  have fin : Ret μ.length P (.bl true) μ := ret_same0 (Nat.le_refl _) hm rfl h
  cases q : f.kept with
  | none =>
    rw [q] at fx
    have ex : x = .non := by
      generalize hd : keptD none = d at fx
      cases fx with
      | id => exact hd.symm
      | own hk => cases hd
    subst ex
    refine np_t ?_
    refine ⟨true, rfl, fun _ => ?_, fun z => (nomatch z)⟩
    refine ds_ret ?_
    wtm_at "E"
    exact fin
  | some ys =>
    rw [q] at fx
    have l20 := (gf.kept ys q).most
    refine np_lst (i := ys.map D.int) ?_
    refine ⟨false, rfl, fun z => (nomatch z), fun _ => ?_⟩
    refine ds_ret (de_andV (de_cb ?_))
    wtm_at "E"
    refine rc_isiB (Fz.tyL (l := ys.map D.int) fx) (by rfl) ?_
    refine ⟨true, rfl, fun _ => ?_, fun z => (nomatch z)⟩
    refine de_call hE ?_
    wtm_at "E"
    refine ro_ixL (.lst _) (d := keptD (some ys)) rfl ?_
    wtm_at "E"
    exact ⟨x, _, true, ys, rfl, Fz.seqI (l := ys) fx, .lst _, by omega, fin⟩
theorem d_fo_spoil : ∀ ds μ P PX, c_fo_spoil K ds μ P PX → MuCl μ μ.length → clL ds μ.length = true → ∀ B E, XAg K B (RetX μ.length PX) E → DS K B (t_fo_spoil K E) (startD ["_law_some", "_law_hold", "_law_way"] ds) μ (fnE μ.length P) := by
  intro ds μ P PX h hm hc B E hE
  obtain ⟨k, k2, c, ns, x, rfl, hd, hc38, h⟩ := h
  have hc0 := hd.c0
  show DS K B _ [some x, some (.own k), none] μ _
  unfold t_fo_spoil
  rcases h with ⟨rfl, h⟩ | ⟨a, xs, rfl, n1, n2, ha, hsh, hl, h⟩
  · refine q_when ?_
    wtm_at "E"
    refine ds_retN ?_
    exact ret_same0 (Nat.le_refl _) hm rfl h
  · have hA : ∀ (c' : Int) (ns' : List Int), (hold μ k k2 c' ns')[a]? = some (.lst xs) := fun c' ns' => by rw [hold_get (Ne.symm n1) (Ne.symm n2)]; exact ha
    have fin : ∀ (xs' : List D) (c' : Int) (ns' : List Int), shpL xs' 2 = true → xs'.length ≤ xs.length + 1 → c ≤ c' → c' ≤ c + 2 → ns'.length = ns.length → Ret μ.length P .non ((hold μ k k2 c' ns').set a (.lst xs')) := fun xs' c' ns' h1 h2 h3 h4 h5 => by
      refine ret_same0 (by rw [List.length_set, hold_len]; exact Nat.le_refl _) ?_ rfl (h xs' c' ns' h1 h2 h3 h4 h5)
      have q := hd.cl (c' := c') (ns' := ns') hm
      rw [List.length_set]
      exact q.set (o := .lst xs') (shpL_cl17 _ h1)
    refine q_when ?_
    wtm_at "E"
    refine q_set ?_
    wtm_at "E"
    refine ⟨k, k2, c, ns, 3, rfl, hd, by omega, by decide, by decide, fun w ns1 w0 w1 hn1 => ?_⟩
    have hd1 := hd.hold (c' := c + 1) (ns' := ns1) (by omega) hn1
    have late : shpL (xs ++ [D.tup [.str "late", .str "off"]]) 2 = true := by
      rw [shpL_iff] at hsh ⊢
      intro z hz
      rcases List.mem_append.mp hz with q | q
      · exact hsh z q
      · simp at q
        subst q
        decide +kernel
    refine ds_if (dt_or (dt_test ?_))
    wtm_at "E"
    rotate_left
    · refine ds_drop (de_bm ?_)
      wtm_at "E"
      refine ⟨ty_list (.own (hA _ _)), ?_⟩
      wtm_at "E"
      refine rm_app (hA _ _) (by omega) ?_
      exact fin _ (c + 1) ns1 late (by simp) (by omega) (by omega) hn1
    · refine de_lstZ ?_
      wtm_at "E"
      refine ro_eqNil (n := 2) (.own (hA _ _)) hsh ?_
      refine ⟨_, rfl, fun hb => ?_, fun hb => ?_⟩
      · refine ds_drop (de_bm ?_)
        wtm_at "E"
        refine ⟨ty_list (.own (hA _ _)), ?_⟩
        wtm_at "E"
        refine rm_app (hA _ _) (by omega) ?_
        exact fin _ (c + 1) ns1 late (by simp) (by omega) (by omega) hn1
      · have hne : 0 < xs.length := by
          have : xs ≠ [] := by simpa using hb
          exact List.length_pos_iff.mpr this
        refine ds_if (dt_test ?_)
        wtm_at "E"
        · refine ds_asg ?_
          wtm_at "E"
          refine rc_lenL (.own (hA _ _)) ?_
          wtm_at "E"
          refine ⟨k, k2, _, ns1, _, rfl, hd1, by omega, by omega, by omega, fun r ns2 r0 r1 hn2 => ?_⟩
          rw [hold_hold hd.ne]
          refine rset_lst (j := r.toNat) (hA _ _) (by unfold ixN; rw [if_pos (by omega), if_pos (by omega)]) ?_
          refine fin _ (c + 1 + 1) ns2 ?_ (by rw [List.length_set]; omega) (by omega) (by omega) (by omega)
          rw [shpL_iff] at hsh ⊢
          intro z hz
          rcases List.mem_or_eq_of_mem_set hz with q | q
          · exact hsh z q
          · rw [q]
            rfl
        · refine ds_drop (de_bm0 ?_)
          wtm_at "E"
          refine ⟨ty_list (.own (hA _ _)), rm_clear (hA _ _) ?_⟩
          exact fin [] (c + 1) ns1 rfl (by simp) (by omega) (by omega) hn1
end
theorem Fz.n1 {μ : Mu} {x d : D} (h : Fz μ x d) : FzN μ 1 x d := by
  cases h with
  | id => exact FzN.id _
  | own hk => exact fzn_own hk (Al2.refl (fun _ => rfl) _)
theorem feL_comm17 (f g : FeT) : eqvD (toldFe f) (toldFe g) = eqvD (.lst (feL g)) (.lst (feL f)) := by
  show PyData.eqv (D.tup (feL f)).py (D.tup (feL g)).py = _
  rw [eqv_either]
  show eqvD (.tup (feL g)) (.tup (feL f)) = _
  rw [eqvD_tup, eqvD_lst]
theorem feL_swap17 (f g : FeT) : eqvD (toldFe g) (toldFe f) = eqvD (.lst (feL g)) (.lst (feL f)) := by
  show eqvD (.tup (feL g)) (.tup (feL f)) = _
  rw [eqvD_tup, eqvD_lst]
theorem feL_shp17 {f : FeT} (h : GFe f) : (D.lst (feL f)).shp 3 = true := by
  have h1 := kept_shp17 f.kept
  have h2 := acts_shp17 h.acts
  have h3 := h.name.strOk
  unfold feL
  simp only [D.shp, shpL, h1, h2, h3, Bool.and_true, Bool.true_and]
  rfl
theorem ActsOk.rev {ps : List (Str × Str)} (h : ActsOk ps) : ActsOk ps.reverse := ⟨by rw [List.length_reverse]; exact h.most, fun p hp => h.each p (List.mem_reverse.mp hp), by rw [List.map_reverse]; unfold List.Nodup; rw [List.pairwise_reverse]; exact List.Pairwise.imp (fun z => z.symm) h.nd⟩
/-- what the other one is made of stands at o -/
structure Ot17 (μ : Mu) (k k2 : Nat) (c : Int) (ns : List Int) (o : Nat) (ν : Mu) (g : FeT) (x y : D) (q : Int) : Prop where
  gf : GFe g
  at_ : ν[o]? = some (.lst [.str g.name, .int g.place, .int g.lasts, x, y])
  fx : Fz ν x (keptD g.kept)
  fy : Fz ν y (actsD g.acts)
  ex : ∃ (c' : Int) (ns' : List Int) (e : Mu), ν = hold μ k k2 c' ns' ++ e ∧ c ≤ c' ∧ c' ≤ c + q ∧ ns'.length = ns.length
section
variable {K : PySem.W.Frag}
set_option maxHeartbeats 2000000 in
theorem d_fo_equal_right (kq : KEq K "Feast") (kc : KEq K "Calendar") (n1 : KNe K "Feast" "Calendar") (n2 : KNe K "Calendar" "Feast") : ∀ ds μ P PX, c_fo_equal_right K ds μ P PX → MuCl μ μ.length → clL ds μ.length = true → ∀ B E, XAg K B (RetX μ.length PX) E → DS K B (t_fo_equal_right K E) (startD ["_law_feast_here", "_law_due", "_law_hold", "_law_way", "_law_other", "_law_twin", "_law_same", "_law_unlike"] ds) μ (fnE μ.length P) := by
  intro ds μ P PX h hm hc B E hE
  obtain ⟨k, k2, c, ns, f, rfl, gf, hd, hc35, h⟩ := h
  have hc0 := hd.c0
  show DS K B _ [some (feD K f), some (.lst (feL f)), some (.own k), none, none, none, none, none] μ _
  unfold t_fo_equal_right
  refine q_set ?_
  wtm_at "E"
  refine ⟨k, k2, c, ns, 8, rfl, hd, by omega, by decide, by decide, fun w ns1 w0 w1 hn1 => ?_⟩
  have hd1 := hd.hold (c' := c + 1) (ns' := ns1) (by omega) hn1
  refine q_set (de_op ?_)
  wtm_at "E"
  refine de_lstZ ?_
  refine da_cons (de_is (d0 := keptD f.kept) ?_ ?_)
  · refine de_if ?_
    unfold feL
    wtm_at "E"
    refine ro_ixL (.lst _) (d := keptD f.kept) rfl ?_
    cases q : f.kept with
    | none =>
      refine np_t ?_
      refine ⟨true, rfl, fun _ => ?_, fun z => (by cases z)⟩
      wtm_at "E"
      exact ⟨rfl, rfl⟩
    | some ys =>
      refine np_lst (i := ys.map D.int) ?_
      refine ⟨false, rfl, fun z => (by cases z), fun _ => ?_⟩
      wtm_at "E"
      refine ro_ixL (.lst _) (d := keptD (some ys)) rfl ?_
      refine da_nil (rc_list (.lst (ys.map D.int)) ?_)
      exact ⟨rfl, rfl⟩
  refine da_cons (de_cb (da_cons ?_))
  unfold feL
  wtm_at "E"
  refine ro_ixL (.lst _) (d := actsD f.acts) rfl ?_
  refine da_nil ?_
  refine rc_listO (.lst (f.acts.map actD)) ?_
  wtm_at "E"
  refine ro_addLO (.lst _) (.lst _) (by simp [cutD]; omega) ?_
  have hM : (hold μ k k2 (c + 1) ns1).length = μ.length := hold_len
  have hln : (hold μ k k2 (c + 1) ns1 ++ [MO.lst (f.acts.map actD)]).length = μ.length + 1 := by simp [hM]
  rw [hln, hM]
  have A1 : (hold μ k k2 (c + 1) ns1 ++ [MO.lst (f.acts.map actD)] ++ [MO.lst [.str f.name, .int f.place, .int f.lasts, keptD f.kept, .own μ.length]])[μ.length]? = some (.lst (f.acts.map actD)) := by
    rw [← hM, List.append_assoc, List.getElem?_append_right (Nat.le_refl _)]
    simp
  have A2 : (hold μ k k2 (c + 1) ns1 ++ [MO.lst (f.acts.map actD)] ++ [MO.lst [.str f.name, .int f.place, .int f.lasts, keptD f.kept, .own μ.length]])[μ.length + 1]? = some (.lst [.str f.name, .int f.place, .int f.lasts, keptD f.kept, .own μ.length]) := by
    rw [← hln]
    exact mu_last
  have hE1 : Hd k k2 (c + 1) ns1 (hold μ k k2 (c + 1) ns1 ++ [MO.lst (f.acts.map actD)] ++ [MO.lst [.str f.name, .int f.place, .int f.lasts, keptD f.kept, .own μ.length]]) := (hd1.app _).app _
  have hX1 : ∀ (c3 : Int) (ns3 : List Int), hold (hold μ k k2 (c + 1) ns1 ++ [MO.lst (f.acts.map actD)] ++ [MO.lst [.str f.name, .int f.place, .int f.lasts, keptD f.kept, .own μ.length]]) k k2 c3 ns3 = hold μ k k2 c3 ns3 ++ ([MO.lst (f.acts.map actD)] ++ [MO.lst [.str f.name, .int f.place, .int f.lasts, keptD f.kept, .own μ.length]]) := fun c3 ns3 => by
    rw [List.append_assoc, hold_app hd1, hold_hold hd.ne]
  have hL1 : (hold μ k k2 (c + 1) ns1 ++ [MO.lst (f.acts.map actD)] ++ [MO.lst [.str f.name, .int f.place, .int f.lasts, keptD f.kept, .own μ.length]]).length = μ.length + 2 := by simp [hM]
  have hX0 : hold μ k k2 (c + 1) ns1 ++ [MO.lst (f.acts.map actD)] ++ [MO.lst [.str f.name, .int f.place, .int f.lasts, keptD f.kept, .own μ.length]] = hold μ k k2 (c + 1) ns1 ++ ([MO.lst (f.acts.map actD)] ++ [MO.lst [.str f.name, .int f.place, .int f.lasts, keptD f.kept, .own μ.length]]) := List.append_assoc _ _ _
  show DS K B _ _ (hold μ k k2 (c + 1) ns1 ++ [MO.lst (f.acts.map actD)] ++ [MO.lst [.str f.name, .int f.place, .int f.lasts, keptD f.kept, .own μ.length]]) _
  generalize hold μ k k2 (c + 1) ns1 ++ [MO.lst (f.acts.map actD)] ++ [MO.lst [.str f.name, .int f.place, .int f.lasts, keptD f.kept, .own μ.length]] = ν1 at A1 A2 hE1 hX1 hL1 hX0 ⊢
  generalize [MO.lst (f.acts.map actD)] ++ [MO.lst [.str f.name, .int f.place, .int f.lasts, keptD f.kept, .own μ.length]] = e1 at hX1 hX0
  have kl : k < μ.length := (List.getElem?_eq_some_iff.mp hd.a).1
  have kl2 : k2 < μ.length := (List.getElem?_eq_some_iff.mp hd.b).1
  refine ds_cut (M := fun ρ1 μ1 => ∃ (g : FeT) (x y : D), ρ1 = [some (feD K f), some (.lst (feL f)), some (.own k), some (.int w), some (.own (μ.length + 1)), none, none, none] ∧ Ot17 μ k k2 c ns (μ.length + 1) μ1 g x y 201 ∧ (5 ≤ w → y = .own μ.length ∧ g = f ∧ x = keptD f.kept ∧ μ1[μ.length]? = some (.lst (f.acts.map actD)))) ?_ ?_
  · refine s_when (dt_test ?_)
    wtm_at "E"
    · refine ds_asg (de_op (de_call hE ?_))
      wtm_at "E"
      refine ⟨k, k2, _, ns1, rfl, hE1, by omega, fun f2 c3 ns3 e2 x2 a2 gf2 h1 h2 h3 hcl hK2 ha2 hac => ?_⟩
      rw [hX1] at hcl hK2 hac ⊢
      have get2 : ∀ {j : Nat} {o : MO}, μ.length ≤ j → ν1[j]? = some o → (hold μ k k2 c3 ns3 ++ e1 ++ e2)[j]? = some o := fun {j o} hj z => by
        rw [hX0] at z
        rw [List.append_assoc, List.getElem?_append_right (by rw [hold_len]; exact hj), hold_len]
        rw [List.getElem?_append_right (by rw [hold_len]; exact hj), hold_len] at z
        rw [List.getElem?_append_left (List.getElem?_eq_some_iff.mp z).1]
        exact z
      have A3 := get2 (Nat.le_refl _) A1
      have A4 := get2 (by omega) A2
      have fin : ∀ (g : FeT) (x y : D) (L : List D), L = [.str g.name, .int g.place, .int g.lasts, x, y] → GFe g → Fz ((hold μ k k2 c3 ns3 ++ e1 ++ e2).set (μ.length + 1) (.lst L)) x (keptD g.kept) → Fz ((hold μ k k2 c3 ns3 ++ e1 ++ e2).set (μ.length + 1) (.lst L)) y (actsD g.acts) → Ot17 μ k k2 c ns (μ.length + 1) ((hold μ k k2 c3 ns3 ++ e1 ++ e2).set (μ.length + 1) (.lst L)) g x y 201 := fun g x y L hL gg q1 q2 =>
        ⟨gg, by rw [List.getElem?_set_self (List.getElem?_eq_some_iff.mp A4).1, hL], q1, q2, c3, ns3, (e1 ++ e2).set 1 (.lst L), by rw [List.append_assoc, List.set_append_right _ _ (by rw [hold_len]; omega), hold_len, Nat.add_sub_cancel_left], by omega, by omega, by omega⟩
      have fa : ∀ L : List D, Fz ((hold μ k k2 c3 ns3 ++ e1 ++ e2).set (μ.length + 1) (.lst L)) (.own μ.length) (actsD f.acts) := fun L => .own (by rw [List.getElem?_set_ne (by omega)]; exact A3)
      have fk2 : ∀ L : List D, Fz ((hold μ k k2 c3 ns3 ++ e1 ++ e2).set (μ.length + 1) (.lst L)) x2 (keptD f2.kept) := fun L => by
        rcases hK2 with ⟨rfl, q⟩ | ⟨b, ys, rfl, hb, q, hb2⟩
        · rw [q]; exact .id _
        · rw [q]; exact .own (by rw [List.getElem?_set_ne (by omega)]; exact hb2)
      have fa2 : ∀ L : List D, Fz ((hold μ k k2 c3 ns3 ++ e1 ++ e2).set (μ.length + 1) (.lst L)) (.own a2) (actsD f2.acts) := fun L => .own (by rw [List.getElem?_set_ne (by omega)]; exact hac)
      have hw : w = 0 ∨ w = 1 ∨ w = 2 ∨ w = 3 ∨ w = 4 := by omega
      wtm_at "E"
      rcases hw with rfl | rfl | rfl | rfl | rfl
      · refine ro_ixL (.lst _) (d := .str f2.name) rfl ?_
        wtm_at "E"
        refine rset_lst (j := 0) A4 rfl ?_
        exact ⟨{ f with name := f2.name }, _, _, rfl, fin _ _ _ _ rfl ⟨gf2.name, gf.p0, gf.p1, gf.l0, gf.l1, gf.kept, gf.acts⟩ (.id _) (fa _), fun z => by omega⟩
      · refine ro_ixL (.lst _) (d := .int f2.place) rfl ?_
        wtm_at "E"
        refine rset_lst (j := 1) A4 rfl ?_
        exact ⟨{ f with place := f2.place }, _, _, rfl, fin _ _ _ _ rfl ⟨gf.name, gf2.p0, gf2.p1, gf.l0, gf.l1, gf.kept, gf.acts⟩ (.id _) (fa _), fun z => by omega⟩
      · refine ro_ixL (.lst _) (d := .int f2.lasts) rfl ?_
        wtm_at "E"
        refine rset_lst (j := 2) A4 rfl ?_
        exact ⟨{ f with lasts := f2.lasts }, _, _, rfl, fin _ _ _ _ rfl ⟨gf.name, gf.p0, gf.p1, gf2.l0, gf2.l1, gf.kept, gf.acts⟩ (.id _) (fa _), fun z => by omega⟩
      · refine ro_ixL (.lst _) (d := x2) rfl ?_
        wtm_at "E"
        refine rset_lst (j := 3) A4 rfl ?_
        exact ⟨{ f with kept := f2.kept }, _, _, rfl, fin _ _ _ _ rfl ⟨gf.name, gf.p0, gf.p1, gf.l0, gf.l1, gf2.kept, gf.acts⟩ (fk2 _) (fa _), fun z => by omega⟩
      · refine ro_ixL (.lst _) (d := .own a2) rfl ?_
        wtm_at "E"
        refine rset_lst (j := 4) A4 rfl ?_
        exact ⟨{ f with acts := f2.acts }, _, _, rfl, fin _ _ _ _ rfl ⟨gf.name, gf.p0, gf.p1, gf.l0, gf.l1, gf.kept, gf2.acts⟩ (.id _) (fa2 _), fun z => by omega⟩
    · exact ⟨f, _, _, rfl, ⟨gf, A2, .id _, .own A1, c + 1, ns1, e1, hX0, by omega, by omega, hn1⟩, fun _ => ⟨rfl, rfl, rfl, A1⟩⟩
  rintro ρ1 μ1 ⟨g, x, y, rfl, O1, hw5⟩
  refine ds_cut (M := fun ρ1 μ1 => ∃ (g : FeT) (x y : D), ρ1 = [some (feD K f), some (.lst (feL f)), some (.own k), some (.int w), some (.own (μ.length + 1)), none, none, none] ∧ Ot17 μ k k2 c ns (μ.length + 1) μ1 g x y 201) ?_ ?_
  · refine s_when (dt_test ?_)
    wtm_at "E"
    · rename_i hb
      obtain ⟨rfl, rfl, rfl, ha⟩ := hw5 (by omega)
      obtain ⟨c', ns', e, hme, h1, h2, h3⟩ := O1.ex
      refine ds_drop (de_bm0 ?_)
      wtm_at "E"
      refine ro_ixL (.own O1.at_) (d := .own μ.length) rfl ?_
      refine ⟨ty_list (.own ha), rm_reverse ha ?_⟩
      refine ⟨{ g with acts := g.acts.reverse }, _, _, rfl, ⟨gf.name, gf.p0, gf.p1, gf.l0, gf.l1, gf.kept, gf.acts.rev⟩, by rw [List.getElem?_set_ne (by omega)]; exact O1.at_, .id _, .own ?_, c', ns', e.set 0 (.lst (g.acts.map actD).reverse), ?_, h1, h2, h3⟩
      · rw [List.getElem?_set_self (List.getElem?_eq_some_iff.mp ha).1, List.map_reverse]
      · rw [hme, List.set_append_right _ _ (by rw [hold_len]; exact Nat.le_refl _), hold_len, Nat.sub_self]
    · exact ⟨g, x, y, rfl, O1⟩
  clear hw5 O1 A1 A2
  rintro ρ1 μ2 ⟨g, x, y, rfl, O2⟩
  have gg := O2.gf
  have oat := O2.at_
  refine q_set (de_feast17 hE (fun G al => .nil) ?_)
  refine da_cons (de_op ?_)
  wtm_at "E"
  refine ro_ixL (.own oat) (d := .str g.name) rfl ?_
  wtm_at "E"
  refine ro_ixL (.own oat) (d := .int g.place) rfl ?_
  wtm_at "E"
  refine ro_ixL (.own oat) (d := .int g.lasts) rfl ?_
  wtm_at "E"
  refine ro_ixL (.own oat) (d := x) rfl ?_
  wtm_at "E"
  refine ro_ixL (.own oat) (d := y) rfl ?_
  refine da_nil ⟨g, x, y, rfl, gg, O2.fx, .inl O2.fy, ?_⟩
  refine q_par ?_
  wtm_at "E"
  refine ro_feEqG kq gf gg ?_
  wtm_at "E"
  refine ro_feNeG kq gg gf ?_
  wtm_at "E"
  refine ⟨_, _, rfl, ?_⟩
  rw [feL_comm17 f g, feL_swap17 f g]
  have sg := feL_shp17 gg
  have sf := feL_shp17 gf
  have fo : FzN μ2 2 (.own (μ.length + 1)) (.lst (feL g)) := fzn_own oat (.cons (FzN.id _) (.cons (FzN.id _) (.cons (FzN.id _) (.cons O2.fx.n1 (.cons O2.fy.n1 .nil)))))
  refine q_when (dt_or (dt_not (dt_truth (de_cb ?_))))
  wtm_at "E"
  refine ro_orL (ro_eqN (n := 3) (m := 3) (q := 2) (r := 0) fo rfl sg sf ?_)
  refine ro_neB ?_
  refine ⟨_, rfl, fun _ => ?_, fun z => absurd z (by simp)⟩
  refine dt_test (de_op ?_)
  wtm_at "E"
  refine ro_orL (ro_neN (n := 3) (m := 3) (q := 2) (r := 0) fo rfl sg sf ?_)
  refine ro_neB ?_
  refine ⟨_, rfl, fun z => absurd z (by simp), fun _ => ?_⟩
  -- a calendar is none of them
  have l0 := gf.l0; have l1 := gf.l1
  have gc : GCal [f.lasts] := ⟨by simp, by simp, fun z hz => by simp at hz; subst hz; omega⟩
  refine q_set (de_cal hE ?_)
  refine da_cons (de_lstZ ?_)
  unfold feL
  wtm_at "E"
  refine ro_ixL (.lst _) (d := .int f.lasts) rfl ?_
  wtm_at "E"
  refine ⟨_, [f.lasts], rfl, .id _, gc, ?_⟩
  refine q_when (dt_or (dt_test (de_op (de_op ?_))))
  wtm_at "E"
  refine ro_feO n1 gf ?_
  wtm_at "E"
  refine ro_orR (ro_calO n2 ?_)
  wtm_at "E"
  refine ro_orR (ro_calON n2 ?_)
  wtm_at "E"
  obtain ⟨c', ns', e, rfl, h1, h2, h3⟩ := O2.ex
  refine ds_ret (de_andV (de_op (de_op ?_)))
  wtm_at "E"
  refine ⟨f, rfl, .inl ?_⟩
  refine ro_feT (n := "tuple") kq gf rfl (by simp) ?_
  wtm_at "E"
  refine ro_feT (n := "int") kq gf rfl (by simp) ?_
  wtm_at "E"
  exact ret_same (by rw [hold_len]; exact Nat.le_refl _) (hd.cl hm) rfl (h c' ns' h1 (by omega) h3)
end
/-! ### the rounds -/
def Ext17 (μ ν : Mu) : Prop := ∃ e, ν = μ ++ e
theorem Ext17.app {μ ν : Mu} (h : Ext17 μ ν) (e : Mu) : Ext17 μ (ν ++ e) := by
  obtain ⟨a, rfl⟩ := h
  exact ⟨a ++ e, List.append_assoc _ _ _⟩
theorem Ext17.set {μ ν : Mu} (h : Ext17 μ ν) {k : Nat} (hk : μ.length ≤ k) (o : MO) : Ext17 μ (ν.set k o) := by
  obtain ⟨a, rfl⟩ := h
  exact ⟨a.set (k - μ.length) o, List.set_append_right _ _ hk⟩
theorem Ext17.hold {μ ν : Mu} (h : Ext17 μ ν) {k k2 : Nat} (hk : μ.length ≤ k) (hk2 : μ.length ≤ k2) (c : Int) (ns : List Int) : Ext17 μ (Dl.hold ν k k2 c ns) := by
  unfold Dl.hold
  exact (h.set (by assumption) _).set (by assumption) _
/-- where the rounds stand -/
structure St17 (μ : Mu) (k k2 L : Nat) (c : Int) (ν : Mu) : Prop where
  ext : Ext17 μ ν
  hd : ∃ cs, Hd k k2 c cs ν
  mK : μ.length ≤ k
  mK2 : μ.length ≤ k2
  kL : k < L
  kL2 : k2 < L
theorem St17.app {μ ν : Mu} {k k2 L : Nat} {c : Int} (h : St17 μ k k2 L c ν) (e : Mu) : St17 μ k k2 L c (ν ++ e) := ⟨h.ext.app e, h.hd.imp fun cs z => z.app e, h.mK, h.mK2, h.kL, h.kL2⟩
theorem St17.hold {μ ν : Mu} {k k2 L : Nat} {c c' : Int} {cs cs' : List Int} (h : St17 μ k k2 L c ν) (hd : Hd k k2 c cs ν) (h0 : 0 ≤ c') (hl : cs'.length = cs.length) : St17 μ k k2 L c' (Dl.hold ν k k2 c' cs') := ⟨h.ext.hold h.mK h.mK2 _ _, ⟨cs', hd.hold h0 hl⟩, h.mK, h.mK2, h.kL, h.kL2⟩
theorem St17.set {μ ν : Mu} {k k2 L : Nat} {c : Int} (h : St17 μ k k2 L c ν) {a : Nat} (ha : L ≤ a) (o : MO) : St17 μ k k2 L c (ν.set a o) := by
  have h1 := h.kL; have h2 := h.kL2; have h3 := h.mK
  obtain ⟨cs, hd⟩ := h.hd
  exact ⟨h.ext.set (by omega) _, ⟨cs, { hd with a := by rw [List.getElem?_set_ne (by omega)]; exact hd.a, b := by rw [List.getElem?_set_ne (by omega)]; exact hd.b }⟩, h.mK, h.mK2, h.kL, h.kL2⟩
/-- None, or a list that may change, behind L -/
def Sp17 (ν : Mu) (L n : Nat) (x : D) : Prop := x = .non ∨ ∃ (a : Nat) (xs : List D), x = .own a ∧ L ≤ a ∧ ν[a]? = some (.lst xs) ∧ shpL xs 2 = true ∧ xs.length ≤ n
theorem Sp17.more {ν : Mu} {L n m : Nat} {x : D} (h : Sp17 ν L n x) (hm : n ≤ m) : Sp17 ν L m x := by
  rcases h with h | ⟨a, xs, h1, h2, h3, h4, h5⟩
  · exact .inl h
  · exact .inr ⟨a, xs, h1, h2, h3, h4, by omega⟩
theorem Sp17.app {ν : Mu} {L n : Nat} {x : D} (h : Sp17 ν L n x) (e : Mu) : Sp17 (ν ++ e) L n x := by
  rcases h with h | ⟨a, xs, h1, h2, h3, h4, h5⟩
  · exact .inl h
  · exact .inr ⟨a, xs, h1, h2, mu_old h3, h4, h5⟩
theorem Sp17.hold {ν : Mu} {L n k k2 : Nat} {x : D} (h : Sp17 ν L n x) (h1 : k < L) (h2 : k2 < L) (c : Int) (cs : List Int) : Sp17 (Dl.hold ν k k2 c cs) L n x := by
  rcases h with h | ⟨a, xs, q1, q2, q3, q4, q5⟩
  · exact .inl h
  · exact .inr ⟨a, xs, q1, q2, by rw [hold_get (by omega) (by omega)]; exact q3, q4, q5⟩
theorem Sp17.set {ν : Mu} {L n a : Nat} {x : D} {ys : List D} (h : Sp17 ν L n x) (h1 : shpL ys 2 = true) (h2 : ∀ xs, ν[a]? = some (.lst xs) → ys.length ≤ xs.length + 1) : Sp17 (ν.set a (.lst ys)) L (n + 1) x := by
  rcases h with h | ⟨b, xs, q1, q2, q3, q4, q5⟩
  · exact .inl h
  · by_cases e : a = b
    · subst e
      exact .inr ⟨a, ys, q1, q2, List.getElem?_set_self (List.getElem?_eq_some_iff.mp q3).1, h1, by have := h2 xs q3; omega⟩
    · exact .inr ⟨b, xs, q1, q2, by rw [List.getElem?_set_ne e]; exact q3, q4, by omega⟩
theorem Fz.holdL {ν : Mu} {L k k2 : Nat} {x d : D} (h : Fz ν x d) (hx : ∀ a, x = .own a → L ≤ a) (h1 : k < L) (h2 : k2 < L) (c : Int) (cs : List Int) : Fz (Dl.hold ν k k2 c cs) x d := by
  cases h with
  | id => exact .id _
  | own hk => exact .own (by have := hx _ rfl; rw [hold_get (by omega) (by omega)]; exact hk)
theorem Fz.lsL {ν : Mu} {x : D} {l : List D} (h : Fz ν x (.lst l)) : Ls ν x l := by
  generalize hd : D.lst l = d at h
  cases h with
  | id => rw [← hd]; exact .lst _
  | own hk => cases hd; exact .own hk
theorem Fz.nonE {ν : Mu} {x : D} (h : Fz ν x .non) : x = .non := by
  generalize hd : D.non = d at h
  cases h with
  | id => rfl
  | own hk => cases hd
theorem Fz.lstN {ν : Mu} {x : D} {l : List D} (h : Fz ν x (.lst l)) : x ≠ .non := by
  rintro rfl
  generalize hd : D.lst l = d at h
  cases h with
  | id => cases hd
mutual
theorem shp_more : ∀ {d : D} {n : Nat}, d.shp n = true → d.shp (n + 1) = true
  | .non, _, _ => rfl
  | .bl _, _, _ => rfl
  | .int _, _, _ => rfl
  | .str _, _, h => by rw [D.shp] at h ⊢; exact h
  | .tup xs, n, h => by
    rw [D.shp, Bool.and_eq_true] at h ⊢
    have h0 : 0 < n := by simpa using h.1
    refine ⟨by simp, ?_⟩
    have := shpL_more (n := n - 1) h.2
    rwa [show n - 1 + 1 = n + 1 - 1 by omega] at this
  | .lst xs, n, h => by
    rw [D.shp, Bool.and_eq_true] at h ⊢
    have h0 : 0 < n := by simpa using h.1
    refine ⟨by simp, ?_⟩
    have := shpL_more (n := n - 1) h.2
    rwa [show n - 1 + 1 = n + 1 - 1 by omega] at this
  | .rdl xs, n, h => by
    rw [D.shp, Bool.and_eq_true] at h ⊢
    have h0 : 0 < n := by simpa using h.1
    refine ⟨by simp, ?_⟩
    have := shpL_more (n := n - 1) h.2
    rwa [show n - 1 + 1 = n + 1 - 1 by omega] at this
  | .rdt xs, n, h => by
    rw [D.shp, Bool.and_eq_true] at h ⊢
    have h0 : 0 < n := by simpa using h.1
    refine ⟨by simp, ?_⟩
    have := shpL_more (n := n - 1) h.2
    rwa [show n - 1 + 1 = n + 1 - 1 by omega] at this
  | .ty _, _, h => by simp [D.shp] at h
  | .obj _ _, _, h => by simp [D.shp] at h
  | .dct _, _, h => by simp [D.shp] at h
  | .own _, _, h => by simp [D.shp] at h
  | .loc _, _, h => by simp [D.shp] at h
  | .exc _ _, _, h => by simp [D.shp] at h
theorem shpL_more : ∀ {ds : List D} {n : Nat}, shpL ds n = true → shpL ds (n + 1) = true
  | [], _, _ => rfl
  | x :: xs, n, h => by
    rw [shpL, Bool.and_eq_true] at h ⊢
    exact ⟨shp_more h.1, shpL_more h.2⟩
end
section
variable {K : PySem.W.Frag}
theorem de_spoil17 {B : Bs} {E : XK} {PX : PXT} {te : TE} {ρ : En} {μ ν : Mu} {P : D → Mu → Prop} {k k2 L n : Nat} {c : Int} {x : D} (hE : XAg K B PX E) (hte : ∀ P' : D → Mu → Prop, P' x ν → DE K B te ρ ν P') (h1 : ρ[1]? = some (some (.own k))) (hs : St17 μ k k2 L c ν) (hx : Sp17 ν L n x) (hn : n ≤ 90) (hc : c < 2 ^ 38)
    (h : ∀ (ν' : Mu) (c' : Int), St17 μ k k2 L c' ν' → c ≤ c' → c' ≤ c + 2 → (∀ (y : D) (m : Nat), Sp17 ν L m y → Sp17 ν' L (m + 1) y) → P .non ν') : DE K B (tCall (spD K (c_fo_spoil K)) [] E (tCons te (tCons (tVar 1) tNil))) ρ ν P := by
  refine de_call hE (da_cons (hte _ (da_cons (de_var h1 (da_nil ?_)))))
  obtain ⟨cs, hd⟩ := hs.hd
  have q1 := hs.kL; have q2 := hs.kL2; have hc0 := hd.c0
  rcases hx with rfl | ⟨a, xs, rfl, ha, hl, hsh, hle⟩
  · exact ⟨k, k2, c, cs, .non, rfl, hd, hc, .inl ⟨rfl, h ν c hs (by omega) (by omega) fun y m z => z.more (by omega)⟩⟩
  · refine ⟨k, k2, c, cs, .own a, rfl, hd, hc, .inr ⟨a, xs, rfl, by omega, by omega, hl, hsh, by omega, fun xs' c' ns' h1 h2 h3 h4 h5 => ?_⟩⟩
    refine h _ c' ((hs.hold hd (by omega) h5).set ha _) h3 h4 fun y m z => ?_
    refine (z.hold q1 q2 c' ns').set h1 fun zs hz => ?_
    rw [hold_get (by omega) (by omega), hl] at hz
    cases hz
    exact h2
set_option maxHeartbeats 4000000 in
theorem d_law : ∀ ds μ P PX, c_law K ds μ P PX → MuCl μ μ.length → clL ds μ.length = true → ∀ B E, XAg K B (RetX μ.length PX) E → DS K B (t_law K E) (startD ["_law_script", "_law_hold", "_law_k", "_law_some", "_law_feast_here", "_law_due", "_law_turn", "_law_told"] ds) μ (fnE μ.length P) := by
  intro ds μ P PX h hm hc B E hE
  obtain ⟨ns, rfl, hl, h⟩ := h
  show DS K B _ [some (.rdl (ns.map D.int)), none, none, none, none, none, none, none] μ _
  unfold t_law
  refine q_set (de_hold0 rfl hl fun cs hd0 => ?_)
  have hS0 : St17 μ (μ.length + 1) μ.length (μ.length + 2) 0 (μ ++ [MO.lst (cs.map D.int), MO.lst [D.int 0, D.own μ.length]]) := ⟨⟨_, rfl⟩, ⟨cs, hd0⟩, by omega, by omega, by omega, by omega⟩
  have hll : μ.length + 2 ≤ (μ ++ [MO.lst (cs.map D.int), MO.lst [D.int 0, D.own μ.length]]).length := by simp
  generalize μ ++ [MO.lst (cs.map D.int), MO.lst [D.int 0, D.own μ.length]] = μ0 at hS0 hll ⊢
  clear hd0
  refine q_for ?_
  wtm_at "E"
  refine ⟨by rw [List.length_map]; omega, by rw [List.length_map]; omega, fun i ρ μ' => ∃ (y2 y3 y4 y5 y6 y7 : Option D) (c : Int), ρ = [some (.rdl (ns.map D.int)), some (.own (μ.length + 1)), y2, y3, y4, y5, y6, y7] ∧ St17 μ (μ.length + 1) μ.length (μ.length + 2) c μ' ∧ μ.length + 2 ≤ μ'.length ∧ c ≤ 1000 * i, ⟨_, _, _, _, _, _, 0, rfl, hS0, hll, by omega⟩, fun _ _ _ _ _ => trivial, ?_, ?_⟩
  · rintro i d ρ μ1 hi ⟨y2, y3, y4, y5, y6, y7, c, rfl, hS, hL, hcb⟩
    obtain ⟨hi, rfl⟩ := rangeD_some hi
    have hi63 : i < 63 := by rw [List.length_map] at hi; omega
    obtain ⟨cs1, hd1⟩ := hS.hd
    have hc0 := hd1.c0
    refine dg_name ?_
    refine q_set ?_
    wtm_at "E"
    refine ⟨_, _, c, cs1, rfl, hd1, by omega, fun f c1 cs2 e x a gf h1 h2 h3 hcl hK ha hac => ?_⟩
    have hd2 := (hd1.hold (c' := c1) (ns' := cs2) (by omega) h3).app e
    have hS2 := (hS.hold hd1 (c' := c1) (cs' := cs2) (by omega) h3).app e
    have hxL : Sp17 (hold μ1 (μ.length + 1) μ.length c1 cs2 ++ e) (μ.length + 2) 20 x := by
      rcases hK with ⟨rfl, q⟩ | ⟨b, zs, rfl, hb, q, hb2⟩
      · exact .inl rfl
      · exact .inr ⟨b, _, rfl, by omega, hb2, shpL_map fun _ _ => rfl, by rw [List.length_map]; exact (gf.kept zs q).most⟩
    have haL : Sp17 (hold μ1 (μ.length + 1) μ.length c1 cs2 ++ e) (μ.length + 2) 20 (.own a) := .inr ⟨a, _, rfl, by omega, hac, by have := acts_shp17 gf.acts; unfold actsD at this; rw [D.shp] at this; simp only [Bool.and_eq_true] at this; exact shpL_more this.2, by rw [List.length_map]; have := gf.acts.most; omega⟩
    have fx : Fz (hold μ1 (μ.length + 1) μ.length c1 cs2 ++ e) x (keptD f.kept) := hK.fz
    generalize hold μ1 (μ.length + 1) μ.length c1 cs2 ++ e = ν1 at hd2 hS2 hxL haL fx hac ⊢
    have q1 := hS2.kL
    have q2 := hS2.kL2
    have hxi : ∀ b, x = .own b → μ.length + 2 ≤ b := fun b eb => by
      rcases hxL with z | ⟨b', _, z, hb', _⟩
      · rw [z] at eb; cases eb
      · rw [z] at eb; cases eb; exact hb'
    refine q_asg (de_call hE ?_)
    wtm_at "E"
    refine ⟨_, _, c1, cs2, 10, rfl, hd2, by omega, by decide, by decide, fun w cs3 w0 w1 hn3 => ?_⟩
    have hd3 := hd2.hold (c' := c1 + 1) (ns' := cs3) (by omega) hn3
    have hS3 := hS2.hold hd2 (c' := c1 + 1) (cs' := cs3) (by omega) hn3
    have hxL3 := hxL.hold q1 q2 (c1 + 1) cs3
    have haL3 := haL.hold q1 q2 (c1 + 1) cs3
    have fx3 := fx.holdL hxi q1 q2 (c1 + 1) cs3
    have hac3 : (hold ν1 (μ.length + 1) μ.length (c1 + 1) cs3)[a]? = some (.lst (f.acts.map actD)) := by
      rw [hold_get (by omega) (by omega)]
      exact hac
    generalize hold ν1 (μ.length + 1) μ.length (c1 + 1) cs3 = ν2 at hd3 hS3 hxL3 haL3 fx3 hac3 ⊢
    wtm_at "E"
    refine ⟨f, x, a, w, rfl, gf, fx3, hac3, w0, by omega, fun g y z gg fy fz => ?_⟩
    wtm_at "E"
    refine q_set (de_op ?_)
    wtm_at "E"
    refine de_lstZ ?_
    refine da_cons (de_is (d0 := keptD g.kept) ?_ ?_)
    · refine de_if ?_
      wtm_at "E"
      refine ro_ixL (.lst _) (d := y) rfl ?_
      cases q : g.kept with
      | none =>
        rw [q] at fy
        rw [Fz.nonE fy]
        refine np_t ?_
        refine ⟨true, rfl, fun _ => ?_, fun z => (by cases z)⟩
        wtm_at "E"
        exact ⟨rfl, rfl⟩
      | some ys =>
        rw [q] at fy
        refine np_f (Fz.lstN (l := ys.map D.int) fy) ?_
        refine ⟨false, rfl, fun z => (by cases z), fun _ => ?_⟩
        wtm_at "E"
        refine ro_ixL (.lst _) (d := y) rfl ?_
        refine da_nil (rc_list (Fz.lsL (l := ys.map D.int) fy) ?_)
        exact ⟨rfl, rfl⟩
    refine da_cons (de_cb (da_cons ?_))
    wtm_at "E"
    refine ro_ixL (.lst _) (d := z) rfl ?_
    refine da_nil ?_
    refine rc_list (Fz.lsL (l := g.acts.map actD) fz) ?_
    wtm_at "E"
    refine ro_addL (.lst _) (.lst _) (by simp [cutD]; omega) ?_
    have hL2 : μ.length + 2 ≤ ν2.length := by
      have := (List.getElem?_eq_some_iff.mp hac3).1
      omega
    have asg : shpL (g.acts.map actD) 2 = true := by
      have := acts_shp17 gg.acts
      unfold actsD at this
      rw [D.shp] at this
      simp only [Bool.and_eq_true] at this
      exact shpL_more this.2
    have a4g := gg.acts.most
    show DS K B _ [some (.rdl (ns.map D.int)), some (.own (μ.length + 1)), some (.int (0 + (i : Int))), some (.lst [.str f.name, .int f.place, .int f.lasts, x, .own a]), some (feD K g), some (.lst (feL g)), y6, y7] ν2 _
    refine q_for ?_
    wtm_at "E"
    refine ⟨by omega, by omega, fun j ρ μ' => ∃ (y6 y7 : Option D) (c' : Int), ρ = [some (.rdl (ns.map D.int)), some (.own (μ.length + 1)), some (.int (0 + (i : Int))), some (.lst [.str f.name, .int f.place, .int f.lasts, x, .own a]), some (feD K g), some (.lst (feL g)), y6, y7] ∧ St17 μ (μ.length + 1) μ.length (μ.length + 2) c' μ' ∧ μ.length + 2 ≤ μ'.length ∧ c' ≤ c1 + 1 + 320 * j ∧ Sp17 μ' (μ.length + 2) (20 + 5 * j) x ∧ Sp17 μ' (μ.length + 2) (20 + 5 * j) (.own a), ⟨_, _, _, rfl, hS3, hL2, by omega, hxL3, haL3⟩, fun _ _ _ _ _ => trivial, ?_, ?_⟩
    · rintro j d ρ μ2 hj ⟨y6, y7, c2, rfl, hSj, hLj, hcj, hxj, haj⟩
      obtain ⟨hj, rfl⟩ := rangeD_some hj
      have hj2 : j < 2 := by omega
      refine dg_name ?_
      refine q_set (DE.imp (P' := fun d ν' => ∃ (tx : D) (ta : Nat), d = .tup [.str g.name, .int g.place, .int g.lasts, tx, .own ta] ∧ St17 μ (μ.length + 1) μ.length (μ.length + 2) c2 ν' ∧ Sp17 ν' (μ.length + 2) (20 + 5 * j) x ∧ Sp17 ν' (μ.length + 2) (20 + 5 * j) (.own a) ∧ Sp17 ν' (μ.length + 2) 20 tx ∧ Sp17 ν' (μ.length + 2) 20 (.own ta) ∧ Fz ν' tx (keptD g.kept) ∧ Fz ν' (.own ta) (actsD g.acts) ∧ μ2.length ≤ ν'.length) ?_ ?_)
      · refine de_methZ hE ?_
        wtm_at "v"
        refine mp_obj (by rfl) ?_
        refine da_nil ⟨g, rfl, .inr ?_⟩
        unfold toldFo
        cases q : g.kept with
        | none => exact ⟨.non, μ2.length, rfl, hSj.app _, hxj.app _, haj.app _, .inl rfl, .inr ⟨_, _, rfl, hLj, mu_last, asg, by rw [List.length_map]; omega⟩, .id _, .own mu_last, by simp⟩
        | some ys =>
          have hl1 : (μ2 ++ [MO.lst (ys.map D.int)]).length = μ2.length + 1 := by simp
          have g1 : (μ2 ++ [MO.lst (ys.map D.int)] ++ [MO.lst (g.acts.map actD)])[μ2.length]? = some (.lst (ys.map D.int)) := by
            rw [List.append_assoc, List.getElem?_append_right (Nat.le_refl _)]
            simp
          have g2 : (μ2 ++ [MO.lst (ys.map D.int)] ++ [MO.lst (g.acts.map actD)])[μ2.length + 1]? = some (.lst (g.acts.map actD)) := by
            rw [← hl1]
            exact mu_last
          exact ⟨.own μ2.length, μ2.length + 1, rfl, (hSj.app _).app _, (hxj.app _).app _, (haj.app _).app _, .inr ⟨_, _, rfl, hLj, g1, shpL_map fun _ _ => rfl, by rw [List.length_map]; exact (gg.kept ys q).most⟩, .inr ⟨_, _, rfl, by omega, g2, asg, by rw [List.length_map]; omega⟩, .own g1, .own g2, by simp⟩
      rintro d ν3 ⟨tx, ta, rfl, hS4, hx4, ha4, htx, hta, ftx, fta, hlen⟩
      obtain ⟨cs4, hd4⟩ := hS4.hd
      have hc2 := hd4.c0
      refine q_when (dt_or (dt_not (dt_truth ?_)))
      wtm_at "E"
      refine ⟨g, tx, .own ta, rfl, gg, ftx, fta, ?_⟩
      wtm_at "E"
      refine ⟨_, _, c2, cs4, g, rfl, gg, hd4, by omega, fun c5 cs5 h1 h2 h3 => ?_⟩
      have hS5 := hS4.hold hd4 (c' := c5) (cs' := cs5) (by omega) h3
      have hx5 := hx4.hold q1 q2 c5 cs5
      have ha5 := ha4.hold q1 q2 c5 cs5
      have htx5 := htx.hold q1 q2 c5 cs5
      have hta5 := hta.hold q1 q2 c5 cs5
      have hl5 : μ2.length ≤ (hold ν3 (μ.length + 1) μ.length c5 cs5).length := by rw [hold_len]; exact hlen
      generalize hold ν3 (μ.length + 1) μ.length c5 cs5 = ν5 at hS5 hx5 ha5 htx5 hta5 hl5 ⊢
      wtm_at "E"
      refine q_drop (de_spoil17 (x := x) hE (fun P' hp => ?_) rfl hS5 hx5 (by omega) (by omega) fun ν6 c6 hS6 g1 g2 hh6 => ?_)
      · refine de_op ?_
        wtm_at "E"
        exact ro_ixL (.lst _) (d := x) rfl hp
      refine q_drop (de_spoil17 (x := tx) hE (fun P' hp => ?_) rfl hS6 (hh6 tx 20 htx5) (by omega) (by omega) fun ν7 c7 hS7 g3 g4 hh7 => ?_)
      · refine de_op ?_
        wtm_at "E"
        exact hp
      refine q_drop (de_spoil17 (x := .own a) hE (fun P' hp => ?_) rfl hS7 (hh7 _ _ (hh6 _ _ ha5)) (by omega) (by omega) fun ν8 c8 hS8 g5 g6 hh8 => ?_)
      · refine de_op ?_
        wtm_at "E"
        exact ro_ixL (.lst _) (d := .own a) rfl hp
      refine ds_drop (de_spoil17 (x := .own ta) hE (fun P' hp => ?_) rfl hS8 (hh8 _ _ (hh7 _ _ (hh6 _ _ hta5))) (by omega) (by omega) fun ν9 c9 hS9 g7 g8 hh9 => ?_)
      · refine de_op ?_
        wtm_at "E"
        exact hp
      have hx9 := hh9 _ _ (hh8 _ _ (hh7 _ _ (hh6 _ _ hx5)))
      have ha9 := hh9 _ _ (hh8 _ _ (hh7 _ _ (hh6 _ _ ha5)))
      refine ⟨_, _, c9, rfl, hS9, ?_, by omega, hx9.more (by omega), ha9.more (by omega)⟩
      rcases ha9 with z | ⟨b, zs, _, hb, hb2, _, _⟩
      · cases z
      · have := (List.getElem?_eq_some_iff.mp hb2).1
        omega
    rintro ρ μ2 ⟨y6, y7, c2, rfl, hSj, hLj, hcj, hxj, haj⟩
    refine s_when (dt_not (dt_truth ?_))
    wtm_at "E"
    rw [rangeD_length] at hcj
    refine ⟨g, rfl, .inl ?_⟩
    wtm_at "E"
    refine ⟨g, keptD g.kept, actsD g.acts, rfl, gg, .id _, .id _, ?_⟩
    wtm_at "E"
    refine ⟨_, _, _, _, _, _, c2, rfl, hSj, hLj, ?_⟩
    have : ((2 : Int).toNat : Int) = 2 := rfl
    omega
  · rintro ρ μ' ⟨y2, y3, y4, y5, y6, y7, c, rfl, hS, hL, hcb⟩
    obtain ⟨e, rfl⟩ := hS.ext
    refine ds_ret ?_
    wtm_at "E"
    exact ret_same (Nat.le_refl _) hm rfl (h _)
end
local macro_rules | `(tactic| wtm_at "ln") => `(tactic| (intro ds μ P PX h; first | (obtain ⟨_, e, _⟩ := h; exact congrArg List.length e) | (obtain ⟨_, _, e, _⟩ := h; exact congrArg List.length e) | (obtain ⟨_, _, _, e, _⟩ := h; exact congrArg List.length e) | (obtain ⟨_, _, _, _, e, _⟩ := h; exact congrArg List.length e) | (obtain ⟨_, _, _, _, _, e, _⟩ := h; exact congrArg List.length e) | (obtain ⟨_, _, _, _, _, _, e, _⟩ := h; exact congrArg List.length e) | (obtain ⟨_, _, _, _, _, _, _, e, _⟩ := h; exact congrArg List.length e) | (obtain ⟨_, _, _, _, _, _, _, _, e, _⟩ := h; exact congrArg List.length e) | (obtain ⟨_, _, _, _, _, _, _, _, _, e, _⟩ := h; exact congrArg List.length e) | (obtain ⟨_, _, _, _, _, _, _, _, _, _, e, _⟩ := h; exact congrArg List.length e) | (obtain ⟨_, _, _, _, _, _, _, _, _, _, _, e, _⟩ := h; exact congrArg List.length e) | (obtain ⟨_, _, _, _, _, _, _, _, _, _, _, _, e, _⟩ := h; exact congrArg List.length e) | (obtain ⟨_, _, _, _, _, _, _, _, _, _, _, _, _, e, _⟩ := h; exact congrArg List.length e) | (obtain ⟨_, _, _, _, _, _, _, _, _, _, _, _, _, _, e, _⟩ := h; exact congrArg List.length e)))
local macro_rules | `(tactic| wtm_at "oi") => `(tactic| first | exact Or.inl rfl | exact Or.inr rfl)
structure FQ (P : Program) (w : World) (K : PySem.W.Frag) (mg : Str → Option Value) (base : Heap) (n : Nat) (f : Addr) (fd : FuncData) (ps : List Str) (C : CT) : Prop where
  F : FnOk P w K mg base (L2.CX P w) n f fd ps (spD K C)
  B : Binds K fd ps []
structure FG (P : Program) (w : World) (K : PySem.W.Frag) (mg : Str → Option Value) (base : Heap) (n : Nat) (f : Addr) (fd : FuncData) (ps : List Str) (C : CT) (x : Str) : Prop extends FQ P w K mg base n f fd ps C where
  m : mg x = some (.ref f)
  k : PySem.W.keepIn K (.ref f) = true
abbrev GD (K : PySem.W.Frag) (a b : Str) (s : Stmt) (f : Addr) (fd : FuncData) : Prop := FunD K a b (defArgs s) (defBody s) (defScope s) [] [] f fd
section
variable {P : Program} {w : World} {K : PySem.W.Frag} {mg : Str → Option Value} {base : Heap}
set_option maxHeartbeats 1000000
local macro_rules | `(tactic| wtm_at "pk") => `(tactic| exact passes_call (takes_of rfl rfl rfl rfl) (fun _ _ _ _ h => h))
local macro_rules | `(tactic| wtm_at "sn") => `(tactic| exact ⟨rfl, rfl, rfl, by decide +kernel, rfl, by decide +kernel, by decide +kernel⟩)
/-! ### the text, def by def -/
abbrev N_law_draw : List Str := ["_law_hold", "_law_many", "_law_spot", "_law_cell", "_law_mark"]
theorem sc_law_draw : FnScope N_law_draw ["_law_hold", "_law_many"] (defScope s_law_draw) := by wtm_at "sn"
theorem ok_law_draw {f : Addr} {fd : FuncData} (F : GD K "_law_draw" "_law_draw" s_law_draw f fd) (n_len : mg "len" = none) :
    FnOk P w K mg base (L2.CX P w) 1 f fd ["_law_hold", "_law_many"] (spD K (c_law_draw K)) :=
  fn_DD (t := t_law_draw K) F sc_law_draw (by wtm_at "ln") (by decide)
    (fun cdv A outer s H E hr => by exact
      (pss_cons (ps_set (i := 2) sc_law_draw.nd rfl (by wtm_at "oi") (pe_op op_modA (pe_ix ix_seq (pv 0) pe_int (fun _ _ => rfl)) (pe_callB call_len (by rfl) n_len (by decide +kernel) (pa_cons (pe_ix ix_seq (pv 0) pe_int (fun _ _ => rfl)) pa_nil))))
      (pss_cons (ps_set (i := 3) sc_law_draw.nd rfl (by wtm_at "oi") (pe_ix ix_seq (pe_ix ix_seq (pv 0) pe_int (fun _ _ => rfl)) (pv 2) (fun _ _ => rfl)))
      (pss_cons (ps_augS (pv 0) pe_int get_list pe_int ip_add set_list)
      (pss_cons (ps_if (pt_cmpR op_ge (pv 3) pe_int (nomark _)) (pss_cons (ps_asg (pe_op op_fdivA (pv 3) (pv 1)) (pg_sub (pe_ix ix_seq (pv 0) pe_int (fun _ _ => rfl)) (pv 2) set_list))
      (pss_one (ps_ret (pe_op op_modA (pv 3) (pv 1))))) pss_nil)
      (pss_cons (ps_set (i := 4) sc_law_draw.nd rfl (by wtm_at "oi") (pe_op op_modA (pe_op op_addA (pe_op op_modA (pv 3) pe_int) (pe_op op_mulA pe_int (pe_ix ix_seq (pv 0) pe_int (fun _ _ => rfl)))) pe_int))
      (pss_cons (ps_set (i := 4) sc_law_draw.nd rfl (by wtm_at "oi") (pe_op op_modA (pe_op op_mulA (pe_op op_modA (pe_op op_pow (pv 4) pe_int) pe_int) pe_int) pe_int))
      (pss_one (ps_ret (pe_op op_modA (pe_op op_fdivA (pe_op op_modA (pe_op op_pow (pe_op op_addA (pv 4) (pe_op op_mulA (pe_op op_modA (pv 3) pe_int) (pe_ix ix_seq (pv 0) pe_int (fun _ _ => rfl)))) pe_int) pe_int) pe_int) (pv 1)))))))))))
    (d_law_draw)
abbrev N_law_name : List Str := ["_law_hold", "_law_words", "_law_way", "_law_letters", "_law_k"]
theorem sc_law_name : FnScope N_law_name ["_law_hold"] (defScope s_law_name) := by wtm_at "sn"
theorem ok_law_name {f : Addr} {fd : FuncData} {f_law_draw : Addr} {fd_law_draw : FuncData} (F : GD K "_law_name" "_law_name" s_law_name f fd) (F_law_draw : FG P w K mg base 1 f_law_draw fd_law_draw ["_law_hold", "_law_many"] (c_law_draw K) "_law_draw") (n_range : mg "range" = none) :
    FnOk P w K mg base (L2.CX P w) 2 f fd ["_law_hold"] (spD K (c_law_name K)) :=
  fn_DD (t := t_law_name K) F sc_law_name (by wtm_at "ln") (by decide)
    (fun cdv A outer s H E hr => by exact
      (pss_cons (ps_set (i := 1) sc_law_name.nd rfl (by wtm_at "oi") (pe_lst (pa_cons pe_str (pa_cons pe_str (pa_cons pe_str (pa_cons pe_str (pa_cons pe_str (pa_cons pe_str (pa_cons pe_str (pa_cons pe_str pa_nil))))))))))
      (pss_cons (ps_set (i := 2) sc_law_name.nd rfl (by wtm_at "oi") (pe_call F_law_draw.F (hr.mono (by decide)) (by rfl) F_law_draw.m F_law_draw.k F_law_draw.B .nil (by wtm_at "pk") (pa_cons (pv 0) (pa_cons pe_int pa_nil))))
      (pss_cons (ps_if (pt_cmpR op_lt (pv 2) pe_int (nomark _)) (pss_one (ps_ret (pe_ix ix_seq (pv 1) (pv 2) (fun _ _ => rfl)))) pss_nil)
      (pss_cons (ps_set (i := 3) sc_law_name.nd rfl (by wtm_at "oi") pe_str)
      (pss_one (ps_ret (pe_bm PySem.F.plainAttrs_str PySem.F.slot_str_join PySem.F.type_str_join mt_join pe_str (pa_cons (pe_lc (own := [("_law_k", 4)]) (g := (gName 4)) (tt := tYes) (te := (tOp (rIx K) (tVar 3) (tCall (spD K (c_law_draw K)) [] E0 (tCons (tVar 0) (tCons (tC (.int 26)) tNil))))) (by rfl) sc_law_name.nd (pi_range1 (by rfl) n_range (pa_cons (pe_op op_addA pe_int (pe_call F_law_draw.F (hr.mono (by decide)) (by rfl) F_law_draw.m F_law_draw.k F_law_draw.B .nil (by wtm_at "pk") (pa_cons (pv 0) (pa_cons pe_int pa_nil)))) pa_nil)) (blkOk_by (own := [("_law_k", 4)]) (N := N_law_name) (sc := defScope s_law_name) (by decide +kernel)) (fun _ _ _ _ _ => by exact (pg_name (i := 4) sc_law_name.nd rfl (by wtm_at "oi"))) (fun _ _ _ _ _ => by exact pts_nil) (fun _ _ _ _ _ => by exact (pe_ix ix_seq (pv 3) (pe_call F_law_draw.F (hr.mono (by decide)) (by rfl) F_law_draw.m F_law_draw.k F_law_draw.B .nil passL (pa_cons (pv 0) (pa_cons pe_int pa_nil))) (fun _ _ => rfl)))) pa_nil)))))))))
    (d_law_name)
abbrev N_fo_acts : List Str := ["_law_hold", "_law_found", "_law_k", "_law_word", "_law_one", "_law_sort"]
theorem sc_fo_acts : FnScope N_fo_acts ["_law_hold"] (defScope s_fo_acts) := by wtm_at "sn"
theorem ok_fo_acts {f : Addr} {fd : FuncData} {f_law_draw f_law_name : Addr} {fd_law_draw fd_law_name : FuncData} (F : GD K "_law_acts" "_law_acts" s_fo_acts f fd) (F_law_draw : FG P w K mg base 1 f_law_draw fd_law_draw ["_law_hold", "_law_many"] (c_law_draw K) "_law_draw") (F_law_name : FG P w K mg base 2 f_law_name fd_law_name ["_law_hold"] (c_law_name K) "_law_name") (n_range : mg "range" = none) :
    FnOk P w K mg base (L2.CX P w) 3 f fd ["_law_hold"] (spD K (c_fo_acts K)) :=
  fn_DD (t := t_fo_acts K) F sc_fo_acts (by wtm_at "ln") (by decide)
    (fun cdv A outer s H E hr => by exact
      (pss_cons (ps_set (i := 1) sc_fo_acts.nd rfl (by wtm_at "oi") (pe_lst pa_nil))
      (pss_cons (ps_for (passes_of rfl) rfl (pi_range1 (by rfl) n_range (pa_cons (pe_call F_law_draw.F (hr.mono (by decide)) (by rfl) F_law_draw.m F_law_draw.k F_law_draw.B .nil (by wtm_at "pk") (pa_cons (pv 0) (pa_cons pe_int pa_nil))) pa_nil)) (pg_name (i := 2) sc_fo_acts.nd rfl (by wtm_at "oi")) (pss_cons (ps_set (i := 3) sc_fo_acts.nd rfl (by wtm_at "oi") (pe_call F_law_name.F (hr.mono (by decide)) (by rfl) F_law_name.m F_law_name.k F_law_name.B .nil (by wtm_at "pk") (pa_cons (pv 0) pa_nil)))
      (pss_one (ps_if (pt_cmpR op_notInA (pv 3) (pe_lc (own := [("_law_one", 4), ("_law_sort", 5)]) (g := (gTup K 2 (gCons (gName 4) (gCons (gName 5) gNil)))) (tt := tYes) (te := (tVar 4)) (by rfl) sc_fo_acts.nd (pi_any (pv 1)) (blkOk_by (own := [("_law_one", 4), ("_law_sort", 5)]) (N := N_fo_acts) (sc := defScope s_fo_acts) (by decide +kernel)) (fun _ _ _ _ _ => by exact (pg_tup rfl (pgs_cons (pg_name (i := 4) sc_fo_acts.nd rfl (by wtm_at "oi")) (pgs_cons (pg_name (i := 5) sc_fo_acts.nd rfl (by wtm_at "oi")) pgs_nil)))) (fun _ _ _ _ _ => by exact pts_nil) (fun _ _ _ _ _ => by exact (pv 4))) (by rfl)) (pss_one (ps_expr (pe_bm PySem.F.plainAttrs_list PySem.F.slot_list_append PySem.F.type_list_append mt_append (pv 1) (pa_cons (pe_tup (pa_cons (pv 3) (pa_cons (pe_ix ix_seq (pe_lst (pa_cons pe_str (pa_cons pe_str pa_nil))) (pe_call F_law_draw.F (hr.mono (by decide)) (by rfl) F_law_draw.m F_law_draw.k F_law_draw.B .nil (by wtm_at "pk") (pa_cons (pv 0) (pa_cons pe_int pa_nil))) (fun _ _ => rfl)) pa_nil))) pa_nil)))) pss_nil))))
      (pss_one (ps_ret (pv 1))))))
    (d_fo_acts)
abbrev N_fo_kept : List Str := ["_law_hold", "_law_way", "_law_one", "_law_number"]
theorem sc_fo_kept : FnScope N_fo_kept ["_law_hold"] (defScope s_fo_kept) := by wtm_at "sn"
theorem ok_fo_kept {f : Addr} {fd : FuncData} {f_law_draw : Addr} {fd_law_draw : FuncData} (F : GD K "_law_kept" "_law_kept" s_fo_kept f fd) (F_law_draw : FG P w K mg base 1 f_law_draw fd_law_draw ["_law_hold", "_law_many"] (c_law_draw K) "_law_draw") (n_list : mg "list" = none) (n_range : mg "range" = none) :
    FnOk P w K mg base (L2.CX P w) 2 f fd ["_law_hold"] (spD K (c_fo_kept K)) :=
  fn_DD (t := t_fo_kept K) F sc_fo_kept (by wtm_at "ln") (by decide)
    (fun cdv A outer s H E hr => by exact
      (pss_cons (ps_set (i := 1) sc_fo_kept.nd rfl (by wtm_at "oi") (pe_call F_law_draw.F (hr.mono (by decide)) (by rfl) F_law_draw.m F_law_draw.k F_law_draw.B .nil (by wtm_at "pk") (pa_cons (pv 0) (pa_cons pe_int pa_nil))))
      (pss_cons (ps_if (pt_cmpR (op_eqD hr.units) (pv 1) pe_int (nomark _)) (pss_one (ps_ret pe_non)) pss_nil)
      (pss_cons (ps_set (i := 2) sc_fo_kept.nd rfl (by wtm_at "oi") (pe_call F_law_draw.F (hr.mono (by decide)) (by rfl) F_law_draw.m F_law_draw.k F_law_draw.B .nil (by wtm_at "pk") (pa_cons (pv 0) (pa_cons pe_int pa_nil))))
      (pss_cons (ps_if (pt_cmpR (op_eqD hr.units) (pv 1) pe_int (nomark _)) (pss_one (ps_ret (pe_ix ix_seq (pe_lst (pa_cons (pe_listRg rfl (by rfl) n_list (prg_1 (by rfl) n_range pe_int)) (pa_cons (pe_lst (pa_cons (pv 2) pa_nil)) (pa_cons (pe_lst (pa_cons pe_int pa_nil)) (pa_cons (pe_lst (pa_cons pe_int pa_nil)) pa_nil))))) (pe_call F_law_draw.F (hr.mono (by decide)) (by rfl) F_law_draw.m F_law_draw.k F_law_draw.B .nil (by wtm_at "pk") (pa_cons (pv 0) (pa_cons pe_int pa_nil))) (fun _ _ => rfl)))) pss_nil)
      (pss_one (ps_ret (pe_lc (own := [("_law_number", 3)]) (g := (gName 3)) (tt := (tOr (tTest (tOp (rEqD K) (tVar 3) (tVar 2))) (tTest (tOp (rEqD K) (tCall (spD K (c_law_draw K)) [] E0 (tCons (tVar 0) (tCons (tOp (rAddA K) (tC (.int 1)) (tVar 1)) tNil))) (tC (.int 0)))))) (te := (tVar 3)) (by rfl) sc_fo_kept.nd (pi_range1 (by rfl) n_range (pa_cons pe_int pa_nil)) (blkOk_by (own := [("_law_number", 3)]) (N := N_fo_kept) (sc := defScope s_fo_kept) (by decide +kernel)) (fun _ _ _ _ _ => by exact (pg_name (i := 3) sc_fo_kept.nd rfl (by wtm_at "oi"))) (fun _ _ _ _ _ => by exact (pts_one (PW.pt (pw_or (pt_cmpR (op_eqD hr.units) (pv 3) (pv 2) (nomark _)) (pw_or1 (pt_cmpR (op_eqD hr.units) (pe_call F_law_draw.F (hr.mono (by decide)) (by rfl) F_law_draw.m F_law_draw.k F_law_draw.B .nil passL (pa_cons (pv 0) (pa_cons (pe_op op_addA pe_int (pv 1)) pa_nil))) pe_int (nomark _))))))) (fun _ _ _ _ _ => by exact (pv 3))))))))))
    (d_fo_kept)
abbrev N_fo_feast : List Str := ["_law_hold", "_law_way", "_law_far", "_law_near", "_law_spot", "_law_lasts"]
theorem sc_fo_feast : FnScope N_fo_feast ["_law_hold"] (defScope s_fo_feast) := by wtm_at "sn"
theorem ok_fo_feast {f : Addr} {fd : FuncData} {f_law_draw f_fo_acts f_fo_kept f_law_name : Addr} {fd_law_draw fd_fo_acts fd_fo_kept fd_law_name : FuncData} (F : GD K "_law_feast" "_law_feast" s_fo_feast f fd) (F_law_draw : FG P w K mg base 1 f_law_draw fd_law_draw ["_law_hold", "_law_many"] (c_law_draw K) "_law_draw") (F_fo_acts : FG P w K mg base 3 f_fo_acts fd_fo_acts ["_law_hold"] (c_fo_acts K) "_law_acts") (F_fo_kept : FG P w K mg base 2 f_fo_kept fd_fo_kept ["_law_hold"] (c_fo_kept K) "_law_kept") (F_law_name : FG P w K mg base 2 f_law_name fd_law_name ["_law_hold"] (c_law_name K) "_law_name") :
    FnOk P w K mg base (L2.CX P w) 4 f fd ["_law_hold"] (spD K (c_fo_feast K)) :=
  fn_DD (t := t_fo_feast K) F sc_fo_feast (by wtm_at "ln") (by decide)
    (fun cdv A outer s H E hr => by exact
      (pss_cons (ps_set (i := 1) sc_fo_feast.nd rfl (by wtm_at "oi") (pe_call F_law_draw.F (hr.mono (by decide)) (by rfl) F_law_draw.m F_law_draw.k F_law_draw.B .nil (by wtm_at "pk") (pa_cons (pv 0) (pa_cons pe_int pa_nil))))
      (pss_cons (ps_par (i := 2) (j := 3) (by rfl) sc_fo_feast.nd rfl rfl (by decide) rfl rfl (pa_cons (pe_call F_law_draw.F (hr.mono (by decide)) (by rfl) F_law_draw.m F_law_draw.k F_law_draw.B .nil (by wtm_at "pk") (pa_cons (pv 0) (pa_cons pe_int pa_nil))) (pa_cons (pe_call F_law_draw.F (hr.mono (by decide)) (by rfl) F_law_draw.m F_law_draw.k F_law_draw.B .nil (by wtm_at "pk") (pa_cons (pv 0) (pa_cons pe_int pa_nil))) pa_nil)) (by rfl))
      (pss_cons (ps_set (i := 4) sc_fo_feast.nd rfl (by wtm_at "oi") (pe_ix ix_seq (pe_lst (pa_cons (pv 2) (pa_cons (pv 3) (pa_cons (pe_op op_sub (pe_un un_neg pe_int) (pv 2)) (pa_cons (pe_op op_sub (pe_un un_neg pe_int) (pv 3)) (pa_cons pe_int (pa_cons (pe_un un_neg pe_int) pa_nil))))))) (pv 1) (fun _ _ => rfl)))
      (pss_cons (ps_set (i := 5) sc_fo_feast.nd rfl (by wtm_at "oi") (pe_op op_addA pe_int (pe_call F_law_draw.F (hr.mono (by decide)) (by rfl) F_law_draw.m F_law_draw.k F_law_draw.B .nil (by wtm_at "pk") (pa_cons (pv 0) (pa_cons (pe_ix ix_seq (pe_lst (pa_cons pe_int (pa_cons pe_int (pa_cons pe_int (pa_cons pe_int pa_nil))))) (pe_call F_law_draw.F (hr.mono (by decide)) (by rfl) F_law_draw.m F_law_draw.k F_law_draw.B .nil (by wtm_at "pk") (pa_cons (pv 0) (pa_cons pe_int pa_nil))) (fun _ _ => rfl)) pa_nil)))))
      (pss_one (ps_ret (pe_lst (pa_cons (pe_call F_law_name.F (hr.mono (by decide)) (by rfl) F_law_name.m F_law_name.k F_law_name.B .nil (by wtm_at "pk") (pa_cons (pv 0) pa_nil)) (pa_cons (pv 4) (pa_cons (pv 5) (pa_cons (pe_call F_fo_kept.F (hr.mono (by decide)) (by rfl) F_fo_kept.m F_fo_kept.k F_fo_kept.B .nil (by wtm_at "pk") (pa_cons (pv 0) pa_nil)) (pa_cons (pe_call F_fo_acts.F (hr.mono (by decide)) (by rfl) F_fo_acts.m F_fo_acts.k F_fo_acts.B .nil (by wtm_at "pk") (pa_cons (pv 0) pa_nil)) pa_nil)))))))))))))
    (d_fo_feast)
abbrev N_is_name : List Str := ["thing", "sign"]
theorem sc_is_name : FnScope N_is_name ["thing"] (defScope s_is_name) := by wtm_at "sn"
theorem ok_is_name {f : Addr} {fd : FuncData} (F : GD K "is_name" "is_name" s_is_name f fd) (n_str : mg "str" = none) (n_isinstance : mg "isinstance" = none) (n_len : mg "len" = none) (k_LETTERS : ∃ t, mg "LETTERS" = some (.str "abcdefghijklmnopqrstuvwxyz" t)) (n_all : mg "all" = none) :
    FnOk P w K mg base (L2.CX P w) 1 f fd ["thing"] (spD K (c_is_name K)) :=
  fn_DD (t := t_is_name K) F sc_is_name (by wtm_at "ln") (by decide)
    (fun cdv A outer s H E hr => by exact
      (pss_cons (ps_if (PW.pt (pw_or (pt_not (pt_truth (pe_callB call_isi (by rfl) n_isinstance (by decide +kernel) (pa_cons (pv 0) (pa_cons (pe_bltn (v := .ty "str") (by rfl) n_str (by decide +kernel) rfl) pa_nil))) (by intro _; rfl))) (pw_or1 (pt_not (pt_chain op_le op_le pe_int (pe_callB call_len (by rfl) n_len (by decide +kernel) (pa_cons (pv 0) pa_nil)) pe_int))))) (pss_one (ps_ret pe_bl)) pss_nil)
      (pss_one (ps_ret (pe_callB (cr_all rfl) (by rfl) n_all (by decide +kernel) (pa_cons (pe_lc (own := [("sign", 1)]) (g := (gName 1)) (tt := tYes) (te := (tOp (rInA K) (tVar 1) (tC (.str "abcdefghijklmnopqrstuvwxyz")))) (by rfl) sc_is_name.nd (pi_any (pv 0)) (blkOk_by (own := [("sign", 1)]) (N := N_is_name) (sc := defScope s_is_name) (by decide +kernel)) (fun _ _ _ _ _ => by exact (pg_name (i := 1) sc_is_name.nd rfl (by wtm_at "oi"))) (fun _ _ _ _ _ => by exact pts_nil) (fun _ _ _ _ _ => by exact (pe_cmpR op_inA (pv 1) (pe_glob (v := .str "abcdefghijklmnopqrstuvwxyz") (by rfl) k_LETTERS.choose_spec ⟨_, rfl⟩) (by rfl)))) pa_nil))))))
    (d_is_name)
abbrev N_is_number : List Str := ["thing", "least", "most"]
theorem sc_is_number : FnScope N_is_number ["thing", "least", "most"] (defScope s_is_number) := by wtm_at "sn"
theorem ok_is_number {f : Addr} {fd : FuncData} (F : GD K "is_number" "is_number" s_is_number f fd) (n_int : mg "int" = none) (n_isinstance : mg "isinstance" = none) (n_bool : mg "bool" = none) :
    FnOk P w K mg base (L2.CX P w) 1 f fd ["thing", "least", "most"] (spD K (c_is_number K)) :=
  fn_DD (t := t_is_number K) F sc_is_number (by wtm_at "ln") (by decide)
    (fun cdv A outer s H E hr => by exact
      (pss_one (ps_ret (pe_and (pe_callB call_isi (by rfl) n_isinstance (by decide +kernel) (pa_cons (pv 0) (pa_cons (pe_bltn (v := .ty "int") (by rfl) n_int (by decide +kernel) rfl) pa_nil))) (pe_and (pe_not (pe_callB call_isi (by rfl) n_isinstance (by decide +kernel) (pa_cons (pv 0) (pa_cons (pe_bltn (v := .ty "bool") (by rfl) n_bool (by decide +kernel) rfl) pa_nil)))) (pe_one (pe_chain op_le op_le (pv 1) (pv 0) (pv 2))))))))
    (d_is_number)
abbrev N_are_numbers : List Str := ["thing", "long", "least", "most", "one"]
theorem sc_are_numbers : FnScope N_are_numbers ["thing", "long", "least", "most"] (defScope s_are_numbers) := by wtm_at "sn"
theorem ok_are_numbers {f : Addr} {fd : FuncData} {f_is_number : Addr} {fd_is_number : FuncData} (F : GD K "are_numbers" "are_numbers" s_are_numbers f fd) (F_is_number : FG P w K mg base 1 f_is_number fd_is_number ["thing", "least", "most"] (c_is_number K) "is_number") (n_list : mg "list" = none) (n_isinstance : mg "isinstance" = none) (n_len : mg "len" = none) (n_all : mg "all" = none) :
    FnOk P w K mg base (L2.CX P w) 2 f fd ["thing", "long", "least", "most"] (spD K (c_are_numbers K)) :=
  fn_DD (t := t_are_numbers K) F sc_are_numbers (by wtm_at "ln") (by decide)
    (fun cdv A outer s H E hr => by exact
      (pss_cons (ps_if (PW.pt (pw_or (pt_not (pt_truth (pe_callB call_isi (by rfl) n_isinstance (by decide +kernel) (pa_cons (pv 0) (pa_cons (pe_bltn (v := .ty "list") (by rfl) n_list (by decide +kernel) rfl) pa_nil))) (by intro _; rfl))) (pw_or1 (pt_not (pt_chain op_le op_le pe_int (pe_callB call_len (by rfl) n_len (by decide +kernel) (pa_cons (pv 0) pa_nil)) (pv 1)))))) (pss_one (ps_ret pe_bl)) pss_nil)
      (pss_one (ps_ret (pe_callB (cr_all rfl) (by rfl) n_all (by decide +kernel) (pa_cons (pe_lc (own := [("one", 4)]) (g := (gName 4)) (tt := tYes) (te := (tCall (spD K (c_is_number K)) [] E0 (tCons (tVar 4) (tCons (tVar 2) (tCons (tVar 3) tNil))))) (by rfl) sc_are_numbers.nd (pi_any (pv 0)) (blkOk_by (own := [("one", 4)]) (N := N_are_numbers) (sc := defScope s_are_numbers) (by decide +kernel)) (fun _ _ _ _ _ => by exact (pg_name (i := 4) sc_are_numbers.nd rfl (by wtm_at "oi"))) (fun _ _ _ _ _ => by exact pts_nil) (fun _ _ _ _ _ => by exact (pe_call F_is_number.F (hr.mono (by decide)) (by rfl) F_is_number.m F_is_number.k F_is_number.B .nil passL (pa_cons (pv 4) (pa_cons (pv 2) (pa_cons (pv 3) pa_nil)))))) pa_nil))))))
    (d_are_numbers)
abbrev N_good_years : List Str := ["years", "k"]
theorem sc_good_years : FnScope N_good_years ["years"] (defScope s_good_years) := by wtm_at "sn"
theorem ok_good_years {f : Addr} {fd : FuncData} {f_are_numbers : Addr} {fd_are_numbers : FuncData} (F : GD K "good_years" "good_years" s_good_years f fd) (F_are_numbers : FG P w K mg base 2 f_are_numbers fd_are_numbers ["thing", "long", "least", "most"] (c_are_numbers K) "are_numbers") (n_len : mg "len" = none) (n_range : mg "range" = none) (n_all : mg "all" = none) :
    FnOk P w K mg base (L2.CX P w) 3 f fd ["years"] (spD K (c_good_years K)) :=
  fn_DD (t := t_good_years K) F sc_good_years (by wtm_at "ln") (by decide)
    (fun cdv A outer s H E hr => by exact
      (pss_cons (ps_if (pt_cmp (pc_isN (pv 0)) rfl) (pss_one (ps_ret pe_bl)) pss_nil)
      (pss_one (ps_ret (pe_and (pe_call F_are_numbers.F (hr.mono (by decide)) (by rfl) F_are_numbers.m F_are_numbers.k F_are_numbers.B .nil (by wtm_at "pk") (pa_cons (pv 0) (pa_cons pe_int (pa_cons pe_int (pa_cons pe_int pa_nil))))) (pe_one (pe_callB (cr_all rfl) (by rfl) n_all (by decide +kernel) (pa_cons (pe_lc (own := [("k", 1)]) (g := (gName 1)) (tt := tYes) (te := (tOp (rI0 fun i j => .bl (decide (i < j))) (tOp (rIx K) (tVar 0) (tVar 1)) (tOp (rIx K) (tVar 0) (tOp (rAddA K) (tVar 1) (tC (.int 1)))))) (by rfl) sc_good_years.nd (pi_range1 (by rfl) n_range (pa_cons (pe_op op_sub (pe_callB call_len (by rfl) n_len (by decide +kernel) (pa_cons (pv 0) pa_nil)) pe_int) pa_nil)) (blkOk_by (own := [("k", 1)]) (N := N_good_years) (sc := defScope s_good_years) (by decide +kernel)) (fun _ _ _ _ _ => by exact (pg_name (i := 1) sc_good_years.nd rfl (by wtm_at "oi"))) (fun _ _ _ _ _ => by exact pts_nil) (fun _ _ _ _ _ => by exact (pe_cmpR op_lt (pe_ix ix_seq (pv 0) (pv 1) (fun _ _ => rfl)) (pe_ix ix_seq (pv 0) (pe_op op_addA (pv 1) pe_int) (fun _ _ => rfl)) (nomark _)))) pa_nil))))))))
    (d_good_years)
abbrev N_is_put : List Str := ["pair"]
theorem sc_is_put : FnScope N_is_put ["pair"] (defScope s_is_put) := by wtm_at "sn"
theorem ok_is_put {f : Addr} {fd : FuncData} {f_is_name : Addr} {fd_is_name : FuncData} (F : GD K "is_put" "is_put" s_is_put f fd) (F_is_name : FG P w K mg base 1 f_is_name fd_is_name ["thing"] (c_is_name K) "is_name") (n_tuple : mg "tuple" = none) (n_isinstance : mg "isinstance" = none) (n_len : mg "len" = none) :
    FnOk P w K mg base (L2.CX P w) 2 f fd ["pair"] (spD K (c_is_put K)) :=
  fn_DD (t := t_is_put K) F sc_is_put (by wtm_at "ln") (by decide)
    (fun cdv A outer s H E hr => by exact
      (pss_one (ps_ret (pe_and (pe_callB call_isi (by rfl) n_isinstance (by decide +kernel) (pa_cons (pv 0) (pa_cons (pe_bltn (v := .ty "tuple") (by rfl) n_tuple (by decide +kernel) rfl) pa_nil))) (pe_and (pe_cmpR (op_eqD hr.units) (pe_callB call_len (by rfl) n_len (by decide +kernel) (pa_cons (pv 0) pa_nil)) pe_int (nomark _)) (pe_and (pe_call F_is_name.F (hr.mono (by decide)) (by rfl) F_is_name.m F_is_name.k F_is_name.B .nil (by wtm_at "pk") (pa_cons (pe_ix ix_seq (pv 0) pe_int (fun _ _ => rfl)) pa_nil)) (pe_one (pe_cmpR op_inA (pe_ix ix_seq (pv 0) pe_int (fun _ _ => rfl)) (pe_tup (pa_cons pe_str (pa_cons pe_str pa_nil))) (by rfl)))))))))
    (d_is_put)
abbrev N_good_puts : List Str := ["puts", "pair", "name", "sort"]
theorem sc_good_puts : FnScope N_good_puts ["puts"] (defScope s_good_puts) := by wtm_at "sn"
theorem ok_good_puts {f : Addr} {fd : FuncData} {f_is_put : Addr} {fd_is_put : FuncData} (F : GD K "good_puts" "good_puts" s_good_puts f fd) (F_is_put : FG P w K mg base 2 f_is_put fd_is_put ["pair"] (c_is_put K) "is_put") (n_list : mg "list" = none) (n_isinstance : mg "isinstance" = none) (n_len : mg "len" = none) (n_all : mg "all" = none) (n_set : mg "set" = none) :
    FnOk P w K mg base (L2.CX P w) 3 f fd ["puts"] (spD K (c_good_puts K)) :=
  fn_DD (t := t_good_puts K) F sc_good_puts (by wtm_at "ln") (by decide)
    (fun cdv A outer s H E hr => by exact
      (pss_cons (ps_if (pt_cmp (pc_isN (pv 0)) rfl) (pss_one (ps_ret pe_bl)) pss_nil)
      (pss_cons (ps_if (PW.pt (pw_or (pt_not (pt_truth (pe_callB call_isi (by rfl) n_isinstance (by decide +kernel) (pa_cons (pv 0) (pa_cons (pe_bltn (v := .ty "list") (by rfl) n_list (by decide +kernel) rfl) pa_nil))) (by intro _; rfl))) (pw_or (pt_cmpR op_gt (pe_callB call_len (by rfl) n_len (by decide +kernel) (pa_cons (pv 0) pa_nil)) pe_int (nomark _)) (pw_or1 (pt_not (pt_truth (pe_callB (cr_all rfl) (by rfl) n_all (by decide +kernel) (pa_cons (pe_lc (own := [("pair", 1)]) (g := (gName 1)) (tt := tYes) (te := (tCall (spD K (c_is_put K)) [] E0 (tCons (tVar 1) tNil))) (by rfl) sc_good_puts.nd (pi_any (pv 0)) (blkOk_by (own := [("pair", 1)]) (N := N_good_puts) (sc := defScope s_good_puts) (by decide +kernel)) (fun _ _ _ _ _ => by exact (pg_name (i := 1) sc_good_puts.nd rfl (by wtm_at "oi"))) (fun _ _ _ _ _ => by exact pts_nil) (fun _ _ _ _ _ => by exact (pe_call F_is_put.F (hr.mono (by decide)) (by rfl) F_is_put.m F_is_put.k F_is_put.B .nil passL (pa_cons (pv 1) pa_nil)))) pa_nil)) (by intro _; rfl))))))) (pss_one (ps_ret pe_bl)) pss_nil)
      (pss_one (ps_ret (pe_cmpR (op_eqD hr.units) (pe_lenSetS (by rfl) n_len (by rfl) n_set (pe_lc (own := [("name", 2), ("sort", 3)]) (g := (gTup K 2 (gCons (gName 2) (gCons (gName 3) gNil)))) (tt := tYes) (te := (tVar 2)) (by rfl) sc_good_puts.nd (pi_any (pv 0)) (blkOk_by (own := [("name", 2), ("sort", 3)]) (N := N_good_puts) (sc := defScope s_good_puts) (by decide +kernel)) (fun _ _ _ _ _ => by exact (pg_tup rfl (pgs_cons (pg_name (i := 2) sc_good_puts.nd rfl (by wtm_at "oi")) (pgs_cons (pg_name (i := 3) sc_good_puts.nd rfl (by wtm_at "oi")) pgs_nil)))) (fun _ _ _ _ _ => by exact pts_nil) (fun _ _ _ _ _ => by exact (pv 2)))) (pe_callB call_len (by rfl) n_len (by decide +kernel) (pa_cons (pv 0) pa_nil)) (nomark _)))))))
    (d_good_puts)
abbrev N_Feast_init : List Str := ["self", "name", "place", "days", "years", "puts"]
theorem sc_Feast_init : FnScope N_Feast_init ["self", "name", "place", "days", "years", "puts"] (defScope s_Feast_init) := by wtm_at "sn"
theorem ok_Feast_init {f : Addr} {fd : FuncData} {f_is_name f_is_number f_good_years f_good_puts : Addr} {fd_is_name fd_is_number fd_good_years fd_good_puts : FuncData} (F : FunD K "__init__" "Feast.__init__" (defArgs s_Feast_init) (defBody s_Feast_init) (defScope s_Feast_init) [.int (1), .non, .non] [] f fd) (F_is_name : FG P w K mg base 1 f_is_name fd_is_name ["thing"] (c_is_name K) "is_name") (F_is_number : FG P w K mg base 1 f_is_number fd_is_number ["thing", "least", "most"] (c_is_number K) "is_number") (F_good_years : FG P w K mg base 3 f_good_years fd_good_years ["years"] (c_good_years K) "good_years") (F_good_puts : FG P w K mg base 3 f_good_puts fd_good_puts ["puts"] (c_good_puts K) "good_puts") (x_BadFeast : ExC K mg "BadFeast") (n_list : mg "list" = none) (kf : KFe K) :
    FnOk P w K mg base (L2.CX P w) 4 f fd ["self", "name", "place", "days", "years", "puts"] (spD K (c_Feast_init K)) :=
  fn_DD (t := t_Feast_init K) F sc_Feast_init (by wtm_at "ln") (by decide)
    (fun cdv A outer s H E hr => by exact
      (pss_cons (ps_if (PW.pt (pw_or (pt_not (pt_truth (pe_call F_is_name.F (hr.mono (by decide)) (by rfl) F_is_name.m F_is_name.k F_is_name.B .nil (by wtm_at "pk") (pa_cons (pv 1) pa_nil)) (by intro _; rfl))) (pw_or (pt_not (pt_truth (pe_call F_is_number.F (hr.mono (by decide)) (by rfl) F_is_number.m F_is_number.k F_is_number.B .nil (by wtm_at "pk") (pa_cons (pv 2) (pa_cons (pe_un un_neg pe_int) (pa_cons pe_int pa_nil)))) (by intro _; rfl))) (pw_or1 (pt_not (pt_truth (pe_call F_is_number.F (hr.mono (by decide)) (by rfl) F_is_number.m F_is_number.k F_is_number.B .nil (by wtm_at "pk") (pa_cons (pv 3) (pa_cons pe_int (pa_cons pe_int pa_nil)))) (by intro _; rfl))))))) (pss_one (ps_raise rfl (takes_of rfl rfl rfl rfl) (pmk_own PySem.F.excBase_ValueError x_BadFeast.xc x_BadFeast.gc x_BadFeast.kc (raises_own x_BadFeast.bc x_BadFeast.tc) (by rfl)))) pss_nil)
      (pss_cons (ps_if (PW.pt (pw_or (pt_not (pt_truth (pe_call F_good_years.F (hr.mono (by decide)) (by rfl) F_good_years.m F_good_years.k F_good_years.B .nil (by wtm_at "pk") (pa_cons (pv 4) pa_nil)) (by intro _; rfl))) (pw_or1 (pt_not (pt_truth (pe_call F_good_puts.F (hr.mono (by decide)) (by rfl) F_good_puts.m F_good_puts.k F_good_puts.B .nil (by wtm_at "pk") (pa_cons (pv 5) pa_nil)) (by intro _; rfl)))))) (pss_one (ps_raise rfl (takes_of rfl rfl rfl rfl) (pmk_own PySem.F.excBase_ValueError x_BadFeast.xc x_BadFeast.gc x_BadFeast.kc (raises_own x_BadFeast.bc x_BadFeast.tc) (by rfl)))) pss_nil)
      (pss_cons (ps_fld (pv 0) (pv 1) rfl)
      (pss_cons (ps_fld (pv 0) (pv 2) rfl)
      (pss_cons (ps_fld (pv 0) (pv 3) rfl)
      (pss_cons (ps_fld (pv 0) (pe_ifExp (pt_cmp (pc_isN (pv 4)) rfl) pe_non (pe_callTy call_list_of (by rfl) n_list (by decide +kernel) (pa_cons (pv 4) pa_nil))) rfl)
      (pss_one (ps_fld (pv 0) (pe_ifExp (pt_cmp (pc_isN (pv 5)) rfl) (pe_lst pa_nil) (pe_callTy call_list_of (by rfl) n_list (by decide +kernel) (pa_cons (pv 5) pa_nil))) rfl)))))))))
    (d_Feast_init kf)
abbrev N_fo_made : List Str := ["_law_some", "_law_way", "_law_word", "_law_spot", "_law_lasts", "_law_kept_here", "_law_acts_here"]
theorem sc_fo_made : FnScope N_fo_made ["_law_some", "_law_way"] (defScope s_fo_made) := by wtm_at "sn"
theorem ok_fo_made {f : Addr} {fd : FuncData} {f_Feast_init : Addr} {fd_Feast_init : FuncData} {dd3_Feast_init : List Value} {dd2_Feast_init : List Value} {dd1_Feast_init : List Value} (F : GD K "_law_made" "_law_made" s_fo_made f fd) (F_Feast_init : FQ P w K mg base 4 f_Feast_init fd_Feast_init ["self", "name", "place", "days", "years", "puts"] (c_Feast_init K)) (M_Feast : Mk K (He.ga K "Feast") f_Feast_init) (g_Feast : mg "Feast" = some (.ref (He.ga K "Feast"))) (BD3_Feast_init : Binds K fd_Feast_init ["self", "name", "place", "days", "years", "puts"] dd3_Feast_init) (VD3_Feast_init : Vals [.int (1), .non, .non] dd3_Feast_init) (BD2_Feast_init : Binds K fd_Feast_init ["self", "name", "place", "days", "years", "puts"] dd2_Feast_init) (VD2_Feast_init : Vals [.non, .non] dd2_Feast_init) (BD1_Feast_init : Binds K fd_Feast_init ["self", "name", "place", "days", "years", "puts"] dd1_Feast_init) (VD1_Feast_init : Vals [.non] dd1_Feast_init) (KM_Feast_init_2_puts : KBm K fd_Feast_init ["self", "name", "place", "days", "years", "puts"] 3 ["puts"] [1,2,0] [.int (1), .non, .non]) (KM_Feast_init_0_place_name_years : KBm K fd_Feast_init ["self", "name", "place", "days", "years", "puts"] 1 ["place", "name", "years"] [1,0,3,2,5] [.int (1), .non, .non]) (KM_Feast_init_2_days_puts : KBm K fd_Feast_init ["self", "name", "place", "days", "years", "puts"] 3 ["days", "puts"] [0,3,1] [.int (1), .non, .non]) (KM_Feast_init_0_puts_days_name_years_place : KBm K fd_Feast_init ["self", "name", "place", "days", "years", "puts"] 1 ["puts", "days", "name", "years", "place"] [2,4,1,3,0] [.int (1), .non, .non]) :
    FnOk P w K mg base (L2.CX P w) 6 f fd ["_law_some", "_law_way"] (spD K (c_fo_made K)) :=
  fn_DD (t := t_fo_made K) F sc_fo_made (by wtm_at "ln") (by decide)
    (fun cdv A outer s H E hr => by exact
      (pss_cons (ps_asg (pv 0) (pg_unl rfl (pgs_cons (pg_name (i := 2) sc_fo_made.nd rfl (by wtm_at "oi")) (pgs_cons (pg_name (i := 3) sc_fo_made.nd rfl (by wtm_at "oi")) (pgs_cons (pg_name (i := 4) sc_fo_made.nd rfl (by wtm_at "oi")) (pgs_cons (pg_name (i := 5) sc_fo_made.nd rfl (by wtm_at "oi")) (pgs_cons (pg_name (i := 6) sc_fo_made.nd rfl (by wtm_at "oi")) pgs_nil)))))))
      (pss_cons (ps_if (pt_cmpR (op_eqD hr.units) (pv 1) pe_int (nomark _)) (pss_one (ps_ret (pe_tup (pa_cons (pe_make M_Feast F_Feast_init.F (hr.mono (by decide)) (by rfl) g_Feast BD3_Feast_init VD3_Feast_init (by wtm_at "pk") (pa_cons (pv 2) (pa_cons (pv 3) pa_nil))) (pa_cons (pe_lst (pa_cons (pv 2) (pa_cons (pv 3) (pa_cons pe_int (pa_cons pe_non (pa_cons (pe_lst pa_nil) pa_nil)))))) pa_nil))))) pss_nil)
      (pss_cons (ps_if (pt_cmpR (op_eqD hr.units) (pv 1) pe_int (nomark _)) (pss_one (ps_ret (pe_tup (pa_cons (pe_make M_Feast F_Feast_init.F (hr.mono (by decide)) (by rfl) g_Feast BD2_Feast_init VD2_Feast_init (by wtm_at "pk") (pa_cons (pv 2) (pa_cons (pv 3) (pa_cons (pv 4) pa_nil)))) (pa_cons (pe_lst (pa_cons (pv 2) (pa_cons (pv 3) (pa_cons (pv 4) (pa_cons pe_non (pa_cons (pe_lst pa_nil) pa_nil)))))) pa_nil))))) pss_nil)
      (pss_cons (ps_if (pt_cmpR (op_eqD hr.units) (pv 1) pe_int (nomark _)) (pss_one (ps_ret (pe_tup (pa_cons (pe_make M_Feast F_Feast_init.F (hr.mono (by decide)) (by rfl) g_Feast BD1_Feast_init VD1_Feast_init (by wtm_at "pk") (pa_cons (pv 2) (pa_cons (pv 3) (pa_cons (pv 4) (pa_cons (pv 5) pa_nil))))) (pa_cons (pe_lst (pa_cons (pv 2) (pa_cons (pv 3) (pa_cons (pv 4) (pa_cons (pv 5) (pa_cons (pe_lst pa_nil) pa_nil)))))) pa_nil))))) pss_nil)
      (pss_cons (ps_if (pt_cmpR (op_eqD hr.units) (pv 1) pe_int (nomark _)) (pss_one (ps_ret (pe_tup (pa_cons (pe_makeNP (n := 2) (ks := ["puts"]) (perm := [1, 2, 0]) (dvs := [.int (1), .non, .non]) M_Feast F_Feast_init.F (hr.mono (by decide)) (by rfl) g_Feast KM_Feast_init_2_puts (by wtm_at "pk") (pa_cons (pv 2) (pa_cons (pv 3) pa_nil)) (pk_cons (pv 6) pk_nil)) (pa_cons (pe_lst (pa_cons (pv 2) (pa_cons (pv 3) (pa_cons pe_int (pa_cons pe_non (pa_cons (pv 6) pa_nil)))))) pa_nil))))) pss_nil)
      (pss_cons (ps_if (pt_cmpR (op_eqD hr.units) (pv 1) pe_int (nomark _)) (pss_one (ps_ret (pe_tup (pa_cons (pe_makeNP0 (ks := ["place", "name", "years"]) (perm := [1, 0, 3, 2, 5]) (dvs := [.int (1), .non, .non]) M_Feast F_Feast_init.F (hr.mono (by decide)) (by rfl) g_Feast KM_Feast_init_0_place_name_years (by wtm_at "pk") (pk_cons (pv 3) (pk_cons (pv 2) (pk_cons (pv 5) pk_nil)))) (pa_cons (pe_lst (pa_cons (pv 2) (pa_cons (pv 3) (pa_cons pe_int (pa_cons (pv 5) (pa_cons (pe_lst pa_nil) pa_nil)))))) pa_nil))))) pss_nil)
      (pss_cons (ps_if (pt_cmpR (op_eqD hr.units) (pv 1) pe_int (nomark _)) (pss_one (ps_ret (pe_tup (pa_cons (pe_make M_Feast F_Feast_init.F (hr.mono (by decide)) (by rfl) g_Feast F_Feast_init.B .nil (by wtm_at "pk") (pa_cons (pv 2) (pa_cons (pv 3) (pa_cons (pv 4) (pa_cons pe_non (pa_cons pe_non pa_nil)))))) (pa_cons (pe_lst (pa_cons (pv 2) (pa_cons (pv 3) (pa_cons (pv 4) (pa_cons pe_non (pa_cons (pe_lst pa_nil) pa_nil)))))) pa_nil))))) pss_nil)
      (pss_cons (ps_if (pt_cmpR (op_eqD hr.units) (pv 1) pe_int (nomark _)) (pss_one (ps_ret (pe_tup (pa_cons (pe_makeNP (n := 2) (ks := ["days", "puts"]) (perm := [0, 3, 1]) (dvs := [.int (1), .non, .non]) M_Feast F_Feast_init.F (hr.mono (by decide)) (by rfl) g_Feast KM_Feast_init_2_days_puts (by wtm_at "pk") (pa_cons (pv 2) (pa_cons (pv 3) pa_nil)) (pk_cons (pv 4) (pk_cons (pv 6) pk_nil))) (pa_cons (pe_lst (pa_cons (pv 2) (pa_cons (pv 3) (pa_cons (pv 4) (pa_cons pe_non (pa_cons (pv 6) pa_nil)))))) pa_nil))))) pss_nil)
      (pss_cons (ps_if (pt_cmpR (op_eqD hr.units) (pv 1) pe_int (nomark _)) (pss_one (ps_ret (pe_tup (pa_cons (pe_makeNP0 (ks := ["puts", "days", "name", "years", "place"]) (perm := [2, 4, 1, 3, 0]) (dvs := [.int (1), .non, .non]) M_Feast F_Feast_init.F (hr.mono (by decide)) (by rfl) g_Feast KM_Feast_init_0_puts_days_name_years_place (by wtm_at "pk") (pk_cons (pv 6) (pk_cons (pv 4) (pk_cons (pv 2) (pk_cons (pv 5) (pk_cons (pv 3) pk_nil)))))) (pa_cons (pe_lst (pa_cons (pv 2) (pa_cons (pv 3) (pa_cons (pv 4) (pa_cons (pv 5) (pa_cons (pv 6) pa_nil)))))) pa_nil))))) pss_nil)
      (pss_one (ps_ret (pe_tup (pa_cons (pe_make M_Feast F_Feast_init.F (hr.mono (by decide)) (by rfl) g_Feast F_Feast_init.B .nil (by wtm_at "pk") (pa_cons (pv 2) (pa_cons (pv 3) (pa_cons (pv 4) (pa_cons (pv 5) (pa_cons (pv 6) pa_nil)))))) (pa_cons (pe_lst (pa_cons (pv 2) (pa_cons (pv 3) (pa_cons (pv 4) (pa_cons (pv 5) (pa_cons (pv 6) pa_nil)))))) pa_nil)))))))))))))))
    (d_fo_made)
abbrev N_Feast_told : List Str := ["self", "kept"]
theorem sc_Feast_told : FnScope N_Feast_told ["self"] (defScope s_Feast_told) := by wtm_at "sn"
theorem ok_Feast_told {f : Addr} {fd : FuncData} (F : GD K "told" "Feast.told" s_Feast_told f fd) (n_list : mg "list" = none) (kf : KFe K) :
    FnOk P w K mg base (L2.CX P w) 1 f fd ["self"] (spD K (c_Feast_told K)) :=
  fn_DD (t := t_Feast_told K) F sc_Feast_told (by wtm_at "ln") (by decide)
    (fun cdv A outer s H E hr => by exact
      (pss_cons (ps_set (i := 1) sc_Feast_told.nd rfl (by wtm_at "oi") (pe_ifExp (pt_cmp (pc_isN (pe_fld (pv 0) rfl)) rfl) pe_non (pe_callTy call_list_of (by rfl) n_list (by decide +kernel) (pa_cons (pe_fld (pv 0) rfl) pa_nil))))
      (pss_one (ps_ret (pe_tup (pa_cons (pe_fld (pv 0) rfl) (pa_cons (pe_fld (pv 0) rfl) (pa_cons (pe_fld (pv 0) rfl) (pa_cons (pv 1) (pa_cons (pe_callTy call_list_of (by rfl) n_list (by decide +kernel) (pa_cons (pe_fld (pv 0) rfl) pa_nil)) pa_nil))))))))))
    (d_Feast_told kf)
abbrev N_law_is : List Str := ["_law_found", "_law_due"]
theorem sc_law_is : FnScope N_law_is ["_law_found", "_law_due"] (defScope s_law_is) := by wtm_at "sn"
theorem ok_law_is {f : Addr} {fd : FuncData} (F : GD K "_law_is" "_law_is" s_law_is f fd) (n_int : mg "int" = none) (n_isinstance : mg "isinstance" = none) (n_bool : mg "bool" = none) :
    FnOk P w K mg base (L2.CX P w) 1 f fd ["_law_found", "_law_due"] (spD K (c_law_is K)) :=
  fn_DD (t := t_law_is K) F sc_law_is (by wtm_at "ln") (by decide)
    (fun cdv A outer s H E hr => by exact
      (pss_one (ps_ret (pe_and (pe_callB call_isi (by rfl) n_isinstance (by decide +kernel) (pa_cons (pv 0) (pa_cons (pe_bltn (v := .ty "int") (by rfl) n_int (by decide +kernel) rfl) pa_nil))) (pe_and (pe_not (pe_callB call_isi (by rfl) n_isinstance (by decide +kernel) (pa_cons (pv 0) (pa_cons (pe_bltn (v := .ty "bool") (by rfl) n_bool (by decide +kernel) rfl) pa_nil)))) (pe_one (pe_cmpR (op_eqD hr.units) (pv 0) (pv 1) (nomark _))))))))
    (d_law_is)
abbrev N_law_row_is : List Str := ["_law_found", "_law_due", "_law_k"]
theorem sc_law_row_is : FnScope N_law_row_is ["_law_found", "_law_due"] (defScope s_law_row_is) := by wtm_at "sn"
theorem ok_law_row_is {f : Addr} {fd : FuncData} {f_law_is : Addr} {fd_law_is : FuncData} (F : GD K "_law_row_is" "_law_row_is" s_law_row_is f fd) (F_law_is : FG P w K mg base 1 f_law_is fd_law_is ["_law_found", "_law_due"] (c_law_is K) "_law_is") (n_list : mg "list" = none) (n_isinstance : mg "isinstance" = none) (n_tuple : mg "tuple" = none) (n_len : mg "len" = none) (n_range : mg "range" = none) :
    FnOk P w K mg base (L2.CX P w) 2 f fd ["_law_found", "_law_due"] (spD K (c_law_row_is K)) :=
  fn_DD (t := t_law_row_is K) F sc_law_row_is (by wtm_at "ln") (by decide)
    (fun cdv A outer s H E hr => by exact
      (pss_cons (ps_if (PW.pt (pw_or (pt_cmpR (op_neD hr.units) (pe_callB call_isi (by rfl) n_isinstance (by decide +kernel) (pa_cons (pv 0) (pa_cons (pe_bltn (v := .ty "list") (by rfl) n_list (by decide +kernel) rfl) pa_nil))) (pe_callB call_isi (by rfl) n_isinstance (by decide +kernel) (pa_cons (pv 1) (pa_cons (pe_bltn (v := .ty "list") (by rfl) n_list (by decide +kernel) rfl) pa_nil))) (nomark _)) (pw_or1 (pt_cmpR (op_neD hr.units) (pe_callB call_isi (by rfl) n_isinstance (by decide +kernel) (pa_cons (pv 0) (pa_cons (pe_bltn (v := .ty "tuple") (by rfl) n_tuple (by decide +kernel) rfl) pa_nil))) (pe_callB call_isi (by rfl) n_isinstance (by decide +kernel) (pa_cons (pv 1) (pa_cons (pe_bltn (v := .ty "tuple") (by rfl) n_tuple (by decide +kernel) rfl) pa_nil))) (nomark _))))) (pss_one (ps_ret pe_bl)) pss_nil)
      (pss_cons (ps_if (pt_cmpR (op_neD hr.units) (pe_callB call_len (by rfl) n_len (by decide +kernel) (pa_cons (pv 0) pa_nil)) (pe_callB call_len (by rfl) n_len (by decide +kernel) (pa_cons (pv 1) pa_nil)) (nomark _)) (pss_one (ps_ret pe_bl)) pss_nil)
      (pss_one (ps_ret (pe_cmpR (op_eqD hr.units) (pe_lc (own := [("_law_k", 2)]) (g := (gName 2)) (tt := (tNot (tTruth K (tCall (spD K (c_law_is K)) [] E0 (tCons (tOp (rIx K) (tVar 0) (tVar 2)) (tCons (tOp (rIx K) (tVar 1) (tVar 2)) tNil)))))) (te := (tVar 2)) (by rfl) sc_law_row_is.nd (pi_range1 (by rfl) n_range (pa_cons (pe_callB call_len (by rfl) n_len (by decide +kernel) (pa_cons (pv 1) pa_nil)) pa_nil)) (blkOk_by (own := [("_law_k", 2)]) (N := N_law_row_is) (sc := defScope s_law_row_is) (by decide +kernel)) (fun _ _ _ _ _ => by exact (pg_name (i := 2) sc_law_row_is.nd rfl (by wtm_at "oi"))) (fun _ _ _ _ _ => by exact (pts_one (pt_not (pt_truth (pe_call F_law_is.F (hr.mono (by decide)) (by rfl) F_law_is.m F_law_is.k F_law_is.B .nil passL (pa_cons (pe_ix ix_seq (pv 0) (pv 2) (fun _ _ => rfl)) (pa_cons (pe_ix ix_seq (pv 1) (pv 2) (fun _ _ => rfl)) pa_nil))) (by intro _; rfl))))) (fun _ _ _ _ _ => by exact (pv 2))) (pe_lst pa_nil) (nomark _)))))))
    (d_law_row_is)
abbrev N_fo_told_is : List Str := ["_law_found", "_law_due"]
theorem sc_fo_told_is : FnScope N_fo_told_is ["_law_found", "_law_due"] (defScope s_fo_told_is) := by wtm_at "sn"
theorem ok_fo_told_is {f : Addr} {fd : FuncData} {f_law_is f_law_row_is : Addr} {fd_law_is fd_law_row_is : FuncData} (F : GD K "_law_told_is" "_law_told_is" s_fo_told_is f fd) (F_law_is : FG P w K mg base 1 f_law_is fd_law_is ["_law_found", "_law_due"] (c_law_is K) "_law_is") (F_law_row_is : FG P w K mg base 2 f_law_row_is fd_law_row_is ["_law_found", "_law_due"] (c_law_row_is K) "_law_row_is") (n_tuple : mg "tuple" = none) (n_isinstance : mg "isinstance" = none) (n_len : mg "len" = none) (n_list : mg "list" = none) :
    FnOk P w K mg base (L2.CX P w) 3 f fd ["_law_found", "_law_due"] (spD K (c_fo_told_is K)) :=
  fn_DD (t := t_fo_told_is K) F sc_fo_told_is (by wtm_at "ln") (by decide)
    (fun cdv A outer s H E hr => by exact
      (pss_cons (ps_if (PW.pt (pw_or (pt_not (pt_truth (pe_callB call_isi (by rfl) n_isinstance (by decide +kernel) (pa_cons (pv 0) (pa_cons (pe_bltn (v := .ty "tuple") (by rfl) n_tuple (by decide +kernel) rfl) pa_nil))) (by intro _; rfl))) (pw_or (pt_cmpR (op_neD hr.units) (pe_callB call_len (by rfl) n_len (by decide +kernel) (pa_cons (pv 0) pa_nil)) pe_int (nomark _)) (pw_or (pt_cmpR (op_neD hr.units) (pe_ix ix_seq (pv 0) pe_int (fun _ _ => rfl)) (pe_ix ix_seq (pv 1) pe_int (fun _ _ => rfl)) (nomark _)) (pw_or1 (pt_cmpR (op_neD hr.units) (pe_ix ix_seq (pv 0) pe_int (fun _ _ => rfl)) (pe_ix ix_seq (pv 1) pe_int (fun _ _ => rfl)) (nomark _))))))) (pss_one (ps_ret pe_bl)) pss_nil)
      (pss_cons (ps_if (PW.pt (pw_or (pt_not (pt_truth (pe_call F_law_is.F (hr.mono (by decide)) (by rfl) F_law_is.m F_law_is.k F_law_is.B .nil (by wtm_at "pk") (pa_cons (pe_ix ix_seq (pv 0) pe_int (fun _ _ => rfl)) (pa_cons (pe_ix ix_seq (pv 1) pe_int (fun _ _ => rfl)) pa_nil))) (by intro _; rfl))) (pw_or (pt_not (pt_truth (pe_call F_law_is.F (hr.mono (by decide)) (by rfl) F_law_is.m F_law_is.k F_law_is.B .nil (by wtm_at "pk") (pa_cons (pe_ix ix_seq (pv 0) pe_int (fun _ _ => rfl)) (pa_cons (pe_ix ix_seq (pv 1) pe_int (fun _ _ => rfl)) pa_nil))) (by intro _; rfl))) (pw_or1 (pt_not (pt_truth (pe_callB call_isi (by rfl) n_isinstance (by decide +kernel) (pa_cons (pe_ix ix_seq (pv 0) pe_int (fun _ _ => rfl)) (pa_cons (pe_bltn (v := .ty "list") (by rfl) n_list (by decide +kernel) rfl) pa_nil))) (by intro _; rfl))))))) (pss_one (ps_ret pe_bl)) pss_nil)
      (pss_cons (ps_if (pt_cmp (pc_isN (pe_ix ix_seq (pv 1) pe_int (fun _ _ => rfl))) rfl) (pss_one (ps_ret (pe_cmp (pc_isN (pe_ix ix_seq (pv 0) pe_int (fun _ _ => rfl))) rfl))) pss_nil)
      (pss_one (ps_ret (pe_and (pe_callB call_isi (by rfl) n_isinstance (by decide +kernel) (pa_cons (pe_ix ix_seq (pv 0) pe_int (fun _ _ => rfl)) (pa_cons (pe_bltn (v := .ty "list") (by rfl) n_list (by decide +kernel) rfl) pa_nil))) (pe_one (pe_call F_law_row_is.F (hr.mono (by decide)) (by rfl) F_law_row_is.m F_law_row_is.k F_law_row_is.B .nil (by wtm_at "pk") (pa_cons (pe_ix ix_seq (pv 0) pe_int (fun _ _ => rfl)) (pa_cons (pe_ix ix_seq (pv 1) pe_int (fun _ _ => rfl)) pa_nil)))))))))))
    (d_fo_told_is)
abbrev N_Feast_eq : List Str := ["self", "other"]
theorem sc_Feast_eq : FnScope N_Feast_eq ["self", "other"] (defScope s_Feast_eq) := by wtm_at "sn"
theorem ok_Feast_eq {f : Addr} {fd : FuncData} {f_Feast_told : Addr} {fd_Feast_told : FuncData} (F : GD K "__eq__" "Feast.__eq__" s_Feast_eq f fd) (F_Feast_told : FQ P w K mg base 1 f_Feast_told fd_Feast_told ["self"] (c_Feast_told K)) (g_Feast : mg "Feast" = some (.ref (He.ga K "Feast"))) (n_isinstance : mg "isinstance" = none) (cl_Feast : Cls K (He.ga K "Feast")) (mm_Feast_told : Meth K (He.ga K "Feast") "told" f_Feast_told) (kq_Feast : KEq K "Feast") :
    FnOk P w K mg base (L2.CX P w) 2 f fd ["self", "other"] (spD K (c_Feast_eq K)) :=
  fn_DD (t := t_Feast_eq K) F sc_Feast_eq (by wtm_at "ln") (by decide)
    (fun cdv A outer s H E hr => by exact
      (pss_one (ps_ret (pe_and (pe_callB call_isi (by rfl) n_isinstance (by decide +kernel) (pa_cons (pv 1) (pa_cons (pe_glob (v := .ref (He.ga K "Feast")) (by rfl) g_Feast rfl) pa_nil))) (pe_one (pe_cmpR (op_eqD hr.units) (pe_meth0 (pv 0) cl_Feast mm_Feast_told F_Feast_told.F (hr.mono (by decide)) F_Feast_told.B .nil (by wtm_at "pk")) (pe_meth0 (pv 1) cl_Feast mm_Feast_told F_Feast_told.F (hr.mono (by decide)) F_Feast_told.B .nil (by wtm_at "pk")) (nomark _)))))))
    (d_Feast_eq kq_Feast)
abbrev N_Calendar_eq : List Str := ["self", "other"]
theorem sc_Calendar_eq : FnScope N_Calendar_eq ["self", "other"] (defScope s_Calendar_eq) := by wtm_at "sn"
theorem ok_Calendar_eq {f : Addr} {fd : FuncData} (F : GD K "__eq__" "Calendar.__eq__" s_Calendar_eq f fd) (g_Calendar : mg "Calendar" = some (.ref (He.ga K "Calendar"))) (n_isinstance : mg "isinstance" = none) (kc : KCal K) (kq_Calendar : KEq K "Calendar") :
    FnOk P w K mg base (L2.CX P w) 1 f fd ["self", "other"] (spD K (c_Calendar_eq K)) :=
  fn_DD (t := t_Calendar_eq K) F sc_Calendar_eq (by wtm_at "ln") (by decide)
    (fun cdv A outer s H E hr => by exact
      (pss_one (ps_ret (pe_and (pe_callB call_isi (by rfl) n_isinstance (by decide +kernel) (pa_cons (pv 1) (pa_cons (pe_glob (v := .ref (He.ga K "Calendar")) (by rfl) g_Calendar rfl) pa_nil))) (pe_one (pe_cmpR (op_eqD hr.units) (pe_fld (pv 0) rfl) (pe_fld (pv 1) rfl) (nomark _)))))))
    (d_Calendar_eq kc kq_Calendar)
abbrev N_Calendar_init : List Str := ["self", "years", "days"]
theorem sc_Calendar_init : FnScope N_Calendar_init ["self", "years"] (defScope s_Calendar_init) := by wtm_at "sn"
theorem ok_Calendar_init {f : Addr} {fd : FuncData} {f_are_numbers : Addr} {fd_are_numbers : FuncData} (F : GD K "__init__" "Calendar.__init__" s_Calendar_init f fd) (F_are_numbers : FG P w K mg base 2 f_are_numbers fd_are_numbers ["thing", "long", "least", "most"] (c_are_numbers K) "are_numbers") (x_BadCalendar : ExC K mg "BadCalendar") (n_list : mg "list" = none) (kc : KCal K) :
    FnOk P w K mg base (L2.CX P w) 3 f fd ["self", "years"] (spD K (c_Calendar_init K)) :=
  fn_DD (t := t_Calendar_init K) F sc_Calendar_init (by wtm_at "ln") (by decide)
    (fun cdv A outer s H E hr => by exact
      (pss_cons (ps_if (pt_not (pt_truth (pe_call F_are_numbers.F (hr.mono (by decide)) (by rfl) F_are_numbers.m F_are_numbers.k F_are_numbers.B .nil (by wtm_at "pk") (pa_cons (pv 1) (pa_cons pe_int (pa_cons pe_int (pa_cons pe_int pa_nil))))) (by intro _; rfl))) (pss_one (ps_raise rfl (takes_of rfl rfl rfl rfl) (pmk_own PySem.F.excBase_ValueError x_BadCalendar.xc x_BadCalendar.gc x_BadCalendar.kc (raises_own x_BadCalendar.bc x_BadCalendar.tc) (by rfl)))) pss_nil)
      (pss_cons (ps_fld (pv 0) (pe_callTy call_list_of (by rfl) n_list (by decide +kernel) (pa_cons (pv 1) pa_nil)) rfl)
      (pss_cons (ps_fld (pv 0) (pe_lst pa_nil) rfl)
      (pss_cons (ps_fld (pv 0) pe_int rfl)
      (pss_one (ps_for (passes_of rfl) rfl (pi_any (pe_fld (pv 0) rfl)) (pg_name (i := 2) sc_Calendar_init.nd rfl (by wtm_at "oi")) (pss_cons (ps_expr (pe_bm PySem.F.plainAttrs_list PySem.F.slot_list_append PySem.F.type_list_append mt_append (pe_fld (pv 0) rfl) (pa_cons (pe_fld (pv 0) rfl) pa_nil)))
      (pss_one (ps_fldaug (pv 0) (pv 2) in_add))))))))))
    (d_Calendar_init kc)
abbrev N_fo_equal_right : List Str := ["_law_feast_here", "_law_due", "_law_hold", "_law_way", "_law_other", "_law_twin", "_law_same", "_law_unlike"]
theorem sc_fo_equal_right : FnScope N_fo_equal_right ["_law_feast_here", "_law_due", "_law_hold"] (defScope s_fo_equal_right) := by wtm_at "sn"
theorem ok_fo_equal_right {f : Addr} {fd : FuncData} {f_law_draw f_fo_feast f_Feast_init f_Feast_eq f_Calendar_eq f_Calendar_init f_Feast_told : Addr} {fd_law_draw fd_fo_feast fd_Feast_init fd_Feast_eq fd_Calendar_eq fd_Calendar_init fd_Feast_told : FuncData} (F : GD K "_law_equal_right" "_law_equal_right" s_fo_equal_right f fd) (F_law_draw : FG P w K mg base 1 f_law_draw fd_law_draw ["_law_hold", "_law_many"] (c_law_draw K) "_law_draw") (F_fo_feast : FG P w K mg base 4 f_fo_feast fd_fo_feast ["_law_hold"] (c_fo_feast K) "_law_feast") (F_Feast_init : FQ P w K mg base 4 f_Feast_init fd_Feast_init ["self", "name", "place", "days", "years", "puts"] (c_Feast_init K)) (M_Feast : Mk K (He.ga K "Feast") f_Feast_init) (F_Feast_eq : FQ P w K mg base 2 f_Feast_eq fd_Feast_eq ["self", "other"] (c_Feast_eq K)) (F_Calendar_eq : FQ P w K mg base 1 f_Calendar_eq fd_Calendar_eq ["self", "other"] (c_Calendar_eq K)) (F_Calendar_init : FQ P w K mg base 3 f_Calendar_init fd_Calendar_init ["self", "years"] (c_Calendar_init K)) (M_Calendar : Mk K (He.ga K "Calendar") f_Calendar_init) (F_Feast_told : FQ P w K mg base 1 f_Feast_told fd_Feast_told ["self"] (c_Feast_told K)) (n_list : mg "list" = none) (g_Feast : mg "Feast" = some (.ref (He.ga K "Feast"))) (mm_Feast_eq : Meth K (He.ga K "Feast") "__eq__" f_Feast_eq) (ne_Feast : NeO K (He.ga K "Feast")) (n_bool : mg "bool" = none) (n_isinstance : mg "isinstance" = none) (mm_Calendar_eq : Meth K (He.ga K "Calendar") "__eq__" f_Calendar_eq) (ne_Calendar : NeO K (He.ga K "Calendar")) (g_Calendar : mg "Calendar" = some (.ref (He.ga K "Calendar"))) (cl_Feast : Cls K (He.ga K "Feast")) (mm_Feast_told : Meth K (He.ga K "Feast") "told" f_Feast_told) (kq_Feast : KEq K "Feast") (kq_Calendar : KEq K "Calendar") (kn_Feast_Calendar : KNe K "Feast" "Calendar") (kn_Calendar_Feast : KNe K "Calendar" "Feast") :
    FnOk P w K mg base (L2.CX P w) 6 f fd ["_law_feast_here", "_law_due", "_law_hold"] (spD K (c_fo_equal_right K)) :=
  fn_DD (t := t_fo_equal_right K) F sc_fo_equal_right (by wtm_at "ln") (by decide)
    (fun cdv A outer s H E hr => by exact
      (pss_cons (ps_set (i := 3) sc_fo_equal_right.nd rfl (by wtm_at "oi") (pe_call F_law_draw.F (hr.mono (by decide)) (by rfl) F_law_draw.m F_law_draw.k F_law_draw.B .nil (by wtm_at "pk") (pa_cons (pv 2) (pa_cons pe_int pa_nil))))
      (pss_cons (ps_set (i := 4) sc_fo_equal_right.nd rfl (by wtm_at "oi") (pe_op op_addA (pe_slice sl_any (pv 1) po_none (po_some pe_int)) (pe_lst (pa_cons (pe_ifExp (pt_cmp (pc_isN (pe_ix ix_seq (pv 1) pe_int (fun _ _ => rfl))) rfl) pe_non (pe_callTy call_list_of (by rfl) n_list (by decide +kernel) (pa_cons (pe_ix ix_seq (pv 1) pe_int (fun _ _ => rfl)) pa_nil))) (pa_cons (pe_callTy call_list_of (by rfl) n_list (by decide +kernel) (pa_cons (pe_ix ix_seq (pv 1) pe_int (fun _ _ => rfl)) pa_nil)) pa_nil)))))
      (pss_cons (ps_if (pt_cmpR op_lt (pv 3) pe_int (nomark _)) (pss_one (ps_asg (pe_ix ix_seq (pe_call F_fo_feast.F (hr.mono (by decide)) (by rfl) F_fo_feast.m F_fo_feast.k F_fo_feast.B .nil (by wtm_at "pk") (pa_cons (pv 2) pa_nil)) (pv 3) (fun _ _ => rfl)) (pg_sub (pv 4) (pv 3) set_list))) pss_nil)
      (pss_cons (ps_if (pt_cmpR (op_eqD hr.units) (pv 3) pe_int (nomark _)) (pss_one (ps_expr (pe_bm0 PySem.F.plainAttrs_list PySem.F.slot_list_reverse PySem.F.type_list_reverse mt_reverse (pe_ix ix_seq (pv 4) pe_int (fun _ _ => rfl))))) pss_nil)
      (pss_cons (ps_set (i := 5) sc_fo_equal_right.nd rfl (by wtm_at "oi") (pe_make M_Feast F_Feast_init.F (hr.mono (by decide)) (by rfl) g_Feast F_Feast_init.B .nil (by wtm_at "pk") (pa_cons (pe_ix ix_seq (pv 4) pe_int (fun _ _ => rfl)) (pa_cons (pe_ix ix_seq (pv 4) pe_int (fun _ _ => rfl)) (pa_cons (pe_ix ix_seq (pv 4) pe_int (fun _ _ => rfl)) (pa_cons (pe_ix ix_seq (pv 4) pe_int (fun _ _ => rfl)) (pa_cons (pe_ix ix_seq (pv 4) pe_int (fun _ _ => rfl)) pa_nil)))))))
      (pss_cons (ps_par (i := 6) (j := 7) (by rfl) sc_fo_equal_right.nd rfl rfl (by decide) rfl rfl (pa_cons (pe_cmpR (op_eqO mm_Feast_eq F_Feast_eq.F (hr.mono (by decide)) F_Feast_eq.B (by wtm_at "pk")) (pv 0) (pv 5) (nomark _)) (pa_cons (pe_cmpR (op_neO mm_Feast_eq ne_Feast F_Feast_eq.F (hr.mono (by decide)) F_Feast_eq.B (by wtm_at "pk")) (pv 5) (pv 0) (nomark _)) pa_nil)) (by rfl))
      (pss_cons (ps_if (PW.pt (pw_or (pt_not (pt_truth (pe_callB call_isi (by rfl) n_isinstance (by decide +kernel) (pa_cons (pv 6) (pa_cons (pe_bltn (v := .ty "bool") (by rfl) n_bool (by decide +kernel) rfl) pa_nil))) (by intro _; rfl))) (pw_or (pt_cmpR (op_neD hr.units) (pv 6) (pe_cmpR (op_or (op_eqD hr.units) (op_eqO mm_Calendar_eq F_Calendar_eq.F (hr.mono (by decide)) F_Calendar_eq.B (by wtm_at "pk"))) (pv 4) (pv 1) (nomark _)) (nomark _)) (pw_or1 (pt_cmpR (op_neD hr.units) (pv 7) (pe_cmpR (op_or (op_neD hr.units) (op_neO mm_Calendar_eq ne_Calendar F_Calendar_eq.F (hr.mono (by decide)) F_Calendar_eq.B (by wtm_at "pk"))) (pv 4) (pv 1) (nomark _)) (nomark _)))))) (pss_one (ps_ret pe_bl)) pss_nil)
      (pss_cons (ps_set (i := 4) sc_fo_equal_right.nd rfl (by wtm_at "oi") (pe_make M_Calendar F_Calendar_init.F (hr.mono (by decide)) (by rfl) g_Calendar F_Calendar_init.B .nil (by wtm_at "pk") (pa_cons (pe_lst (pa_cons (pe_ix ix_seq (pv 1) pe_int (fun _ _ => rfl)) pa_nil)) pa_nil)))
      (pss_cons (ps_if (PW.pt (pw_or (pt_cmpR op_notBl (pe_cmpR (op_eqO mm_Feast_eq F_Feast_eq.F (hr.mono (by decide)) F_Feast_eq.B (by wtm_at "pk")) (pv 0) (pv 4) (nomark _)) pe_bl (nomark _)) (pw_or (pt_cmpR op_notBl (pe_cmpR (op_or (op_eqD hr.units) (op_eqO mm_Calendar_eq F_Calendar_eq.F (hr.mono (by decide)) F_Calendar_eq.B (by wtm_at "pk"))) (pv 4) (pv 0) (nomark _)) pe_bl (nomark _)) (pw_or1 (pt_cmpR op_notBl (pe_cmpR (op_or (op_neD hr.units) (op_neO mm_Calendar_eq ne_Calendar F_Calendar_eq.F (hr.mono (by decide)) F_Calendar_eq.B (by wtm_at "pk"))) (pv 4) (pv 0) (nomark _)) pe_bl (nomark _)))))) (pss_one (ps_ret pe_bl)) pss_nil)
      (pss_one (ps_ret (pe_and (pe_cmpR op_isBl (pe_cmpR (op_eqO mm_Feast_eq F_Feast_eq.F (hr.mono (by decide)) F_Feast_eq.B (by wtm_at "pk")) (pv 0) (pe_meth0 (pv 0) cl_Feast mm_Feast_told F_Feast_told.F (hr.mono (by decide)) F_Feast_told.B .nil (by wtm_at "pk")) (nomark _)) pe_bl (nomark _)) (pe_one (pe_cmpR op_isBl (pe_cmpR (op_eqO mm_Feast_eq F_Feast_eq.F (hr.mono (by decide)) F_Feast_eq.B (by wtm_at "pk")) (pv 0) pe_int (nomark _)) pe_bl (nomark _))))))))))))))))
    (d_fo_equal_right kq_Feast kq_Calendar kn_Feast_Calendar kn_Calendar_Feast)
abbrev N_fo_spoil : List Str := ["_law_some", "_law_hold", "_law_way"]
theorem sc_fo_spoil : FnScope N_fo_spoil ["_law_some", "_law_hold"] (defScope s_fo_spoil) := by wtm_at "sn"
theorem ok_fo_spoil {f : Addr} {fd : FuncData} {f_law_draw : Addr} {fd_law_draw : FuncData} (F : GD K "_law_spoil" "_law_spoil" s_fo_spoil f fd) (F_law_draw : FG P w K mg base 1 f_law_draw fd_law_draw ["_law_hold", "_law_many"] (c_law_draw K) "_law_draw") (n_len : mg "len" = none) :
    FnOk P w K mg base (L2.CX P w) 2 f fd ["_law_some", "_law_hold"] (spD K (c_fo_spoil K)) :=
  fn_DD (t := t_fo_spoil K) F sc_fo_spoil (by wtm_at "ln") (by decide)
    (fun cdv A outer s H E hr => by exact
      (pss_cons (ps_if (pt_cmp (pc_isN (pv 0)) rfl) (pss_one ps_retN) pss_nil)
      (pss_cons (ps_set (i := 2) sc_fo_spoil.nd rfl (by wtm_at "oi") (pe_call F_law_draw.F (hr.mono (by decide)) (by rfl) F_law_draw.m F_law_draw.k F_law_draw.B .nil (by wtm_at "pk") (pa_cons (pv 1) (pa_cons pe_int pa_nil))))
      (pss_one (ps_if (PW.pt (pw_or (pt_cmpR (op_eqD hr.units) (pv 2) pe_int (nomark _)) (pw_or1 (pt_cmpR (op_eqD hr.units) (pv 0) (pe_lst pa_nil) (nomark _))))) (pss_one (ps_expr (pe_bm PySem.F.plainAttrs_list PySem.F.slot_list_append PySem.F.type_list_append mt_append (pv 0) (pa_cons (pe_tup (pa_cons pe_str (pa_cons pe_str pa_nil))) pa_nil)))) (pss_one (ps_if (pt_cmpR (op_eqD hr.units) (pv 2) pe_int (nomark _)) (pss_one (ps_asg pe_int (pg_sub (pv 0) (pe_call F_law_draw.F (hr.mono (by decide)) (by rfl) F_law_draw.m F_law_draw.k F_law_draw.B .nil (by wtm_at "pk") (pa_cons (pv 1) (pa_cons (pe_callB call_len (by rfl) n_len (by decide +kernel) (pa_cons (pv 0) pa_nil)) pa_nil))) set_list))) (pss_one (ps_expr (pe_bm0 PySem.F.plainAttrs_list PySem.F.slot_list_clear PySem.F.type_list_clear mt_clear (pv 0)))))))))))
    (d_fo_spoil)
abbrev N_law : List Str := ["_law_script", "_law_hold", "_law_k", "_law_some", "_law_feast_here", "_law_due", "_law_turn", "_law_told"]
theorem sc_law : FnScope N_law ["_law_script"] (defScope s_law) := by wtm_at "sn"
theorem ok_law {f : Addr} {fd : FuncData} {f_fo_feast f_fo_made f_law_draw f_Feast_told f_fo_told_is f_fo_equal_right f_fo_spoil : Addr} {fd_fo_feast fd_fo_made fd_law_draw fd_Feast_told fd_fo_told_is fd_fo_equal_right fd_fo_spoil : FuncData} (F : GD K "law" "law" s_law f fd) (F_fo_feast : FG P w K mg base 4 f_fo_feast fd_fo_feast ["_law_hold"] (c_fo_feast K) "_law_feast") (F_fo_made : FG P w K mg base 6 f_fo_made fd_fo_made ["_law_some", "_law_way"] (c_fo_made K) "_law_made") (F_law_draw : FG P w K mg base 1 f_law_draw fd_law_draw ["_law_hold", "_law_many"] (c_law_draw K) "_law_draw") (F_Feast_told : FQ P w K mg base 1 f_Feast_told fd_Feast_told ["self"] (c_Feast_told K)) (F_fo_told_is : FG P w K mg base 3 f_fo_told_is fd_fo_told_is ["_law_found", "_law_due"] (c_fo_told_is K) "_law_told_is") (F_fo_equal_right : FG P w K mg base 6 f_fo_equal_right fd_fo_equal_right ["_law_feast_here", "_law_due", "_law_hold"] (c_fo_equal_right K) "_law_equal_right") (F_fo_spoil : FG P w K mg base 2 f_fo_spoil fd_fo_spoil ["_law_some", "_law_hold"] (c_fo_spoil K) "_law_spoil") (n_list : mg "list" = none) (n_len : mg "len" = none) (n_min : mg "min" = none) (n_max : mg "max" = none) (n_range : mg "range" = none) (cl_Feast : Cls K (He.ga K "Feast")) (mm_Feast_told : Meth K (He.ga K "Feast") "told" f_Feast_told) :
    FnOk P w K mg base (L2.CX P w) 7 f fd ["_law_script"] (spD K (c_law K)) :=
  fn_DD (t := t_law K) F sc_law (by wtm_at "ln") (by decide)
    (fun cdv A outer s H E hr => by exact
      (pss_cons (ps_set (i := 1) sc_law.nd rfl (by wtm_at "oi") (pe_lst (pa_cons pe_int (pa_cons (pe_ifExp (pt_cmpR (op_neD hr.units) (pv 0) (pe_lst pa_nil) (nomark _)) (pe_callTy call_list_of (by rfl) n_list (by decide +kernel) (pa_cons (pv 0) pa_nil)) (pe_lst (pa_cons pe_int pa_nil))) pa_nil))))
      (pss_cons (ps_for (passes_of rfl) rfl (pi_range1 (by rfl) n_range (pa_cons (pe_callB (call_maxA rfl) (by rfl) n_max (by decide +kernel) (pa_cons pe_int (pa_cons (pe_callB (call_minA rfl) (by rfl) n_min (by decide +kernel) (pa_cons pe_int (pa_cons (pe_callB call_len (by rfl) n_len (by decide +kernel) (pa_cons (pv 0) pa_nil)) pa_nil))) pa_nil))) pa_nil)) (pg_name (i := 2) sc_law.nd rfl (by wtm_at "oi")) (pss_cons (ps_set (i := 3) sc_law.nd rfl (by wtm_at "oi") (pe_call F_fo_feast.F (hr.mono (by decide)) (by rfl) F_fo_feast.m F_fo_feast.k F_fo_feast.B .nil (by wtm_at "pk") (pa_cons (pv 1) pa_nil)))
      (pss_cons (ps_asg (pe_call F_fo_made.F (hr.mono (by decide)) (by rfl) F_fo_made.m F_fo_made.k F_fo_made.B .nil (by wtm_at "pk") (pa_cons (pv 3) (pa_cons (pe_call F_law_draw.F (hr.mono (by decide)) (by rfl) F_law_draw.m F_law_draw.k F_law_draw.B .nil (by wtm_at "pk") (pa_cons (pv 1) (pa_cons pe_int pa_nil))) pa_nil))) (pg_tup rfl (pgs_cons (pg_name (i := 4) sc_law.nd rfl (by wtm_at "oi")) (pgs_cons (pg_name (i := 5) sc_law.nd rfl (by wtm_at "oi")) pgs_nil))))
      (pss_cons (ps_set (i := 5) sc_law.nd rfl (by wtm_at "oi") (pe_op op_addA (pe_slice sl_any (pv 5) po_none (po_some pe_int)) (pe_lst (pa_cons (pe_ifExp (pt_cmp (pc_isN (pe_ix ix_seq (pv 5) pe_int (fun _ _ => rfl))) rfl) pe_non (pe_callTy call_list_of (by rfl) n_list (by decide +kernel) (pa_cons (pe_ix ix_seq (pv 5) pe_int (fun _ _ => rfl)) pa_nil))) (pa_cons (pe_callTy call_list_of (by rfl) n_list (by decide +kernel) (pa_cons (pe_ix ix_seq (pv 5) pe_int (fun _ _ => rfl)) pa_nil)) pa_nil)))))
      (pss_cons (ps_for (passes_of rfl) rfl (pi_range1 (by rfl) n_range (pa_cons pe_int pa_nil)) (pg_name (i := 6) sc_law.nd rfl (by wtm_at "oi")) (pss_cons (ps_set (i := 7) sc_law.nd rfl (by wtm_at "oi") (pe_meth0 (pv 4) cl_Feast mm_Feast_told F_Feast_told.F (hr.mono (by decide)) F_Feast_told.B .nil (by wtm_at "pk")))
      (pss_cons (ps_if (PW.pt (pw_or (pt_not (pt_truth (pe_call F_fo_told_is.F (hr.mono (by decide)) (by rfl) F_fo_told_is.m F_fo_told_is.k F_fo_told_is.B .nil (by wtm_at "pk") (pa_cons (pv 7) (pa_cons (pv 5) pa_nil))) (by intro _; rfl))) (pw_or1 (pt_not (pt_truth (pe_call F_fo_equal_right.F (hr.mono (by decide)) (by rfl) F_fo_equal_right.m F_fo_equal_right.k F_fo_equal_right.B .nil (by wtm_at "pk") (pa_cons (pv 4) (pa_cons (pv 5) (pa_cons (pv 1) pa_nil)))) (by intro _; rfl)))))) (pss_one (ps_ret pe_bl)) pss_nil)
      (pss_cons (ps_expr (pe_call F_fo_spoil.F (hr.mono (by decide)) (by rfl) F_fo_spoil.m F_fo_spoil.k F_fo_spoil.B .nil (by wtm_at "pk") (pa_cons (pe_ix ix_seq (pv 3) pe_int (fun _ _ => rfl)) (pa_cons (pv 1) pa_nil))))
      (pss_cons (ps_expr (pe_call F_fo_spoil.F (hr.mono (by decide)) (by rfl) F_fo_spoil.m F_fo_spoil.k F_fo_spoil.B .nil (by wtm_at "pk") (pa_cons (pe_ix ix_seq (pv 7) pe_int (fun _ _ => rfl)) (pa_cons (pv 1) pa_nil))))
      (pss_cons (ps_expr (pe_call F_fo_spoil.F (hr.mono (by decide)) (by rfl) F_fo_spoil.m F_fo_spoil.k F_fo_spoil.B .nil (by wtm_at "pk") (pa_cons (pe_ix ix_seq (pv 3) pe_int (fun _ _ => rfl)) (pa_cons (pv 1) pa_nil))))
      (pss_one (ps_expr (pe_call F_fo_spoil.F (hr.mono (by decide)) (by rfl) F_fo_spoil.m F_fo_spoil.k F_fo_spoil.B .nil (by wtm_at "pk") (pa_cons (pe_ix ix_seq (pv 7) pe_int (fun _ _ => rfl)) (pa_cons (pv 1) pa_nil)))))))))))
      (pss_one (ps_if (pt_not (pt_truth (pe_call F_fo_told_is.F (hr.mono (by decide)) (by rfl) F_fo_told_is.m F_fo_told_is.k F_fo_told_is.B .nil (by wtm_at "pk") (pa_cons (pe_meth0 (pv 4) cl_Feast mm_Feast_told F_Feast_told.F (hr.mono (by decide)) F_Feast_told.B .nil (by wtm_at "pk")) (pa_cons (pv 5) pa_nil))) (by intro _; rfl))) (pss_one (ps_ret pe_bl)) pss_nil)))))))
      (pss_one (ps_ret pe_bl)))))
    (d_law)
end
/-! ### the end -/
set_option maxHeartbeats 0 in
theorem facts {P : Program} {w : World} {K : PySem.W.Frag} {h : Heap} {mg : Str → Option Value} {f : Addr} (X : K.In h) (G : h.Ns mainGlobals mg) (hfa : mg ("law" : Str) = some (.ref f)) (c : He.SaysD fas fns K) (cx : exAll exs K = true) :
    ∃ fd : FuncData, (∀ (s : Shared) (v : Value), BindsTo s fd ⟨[v], []⟩ [("_law_script", v)]) ∧ ∀ base : Heap, K.In base → base.Ns mainGlobals mg → FnOk P w K mg base (L2.CX P w) 7 f fd ["_law_script"] (spD K (c_law K)) := by
  have e := hfa.symm.trans (He.glo_ok X G (c.fact 51 (f := .glo "law") rfl))
  cases e
  have q0 := He.free_ok X G (c.fact 0 (f := .free "len") rfl)
  have q1 := He.glo_ok X G (c.fact 1 (f := .glo "_law_draw") rfl)
  have q2 := He.free_ok X G (c.fact 2 (f := .free "range") rfl)
  have q3 := He.glo_ok X G (c.fact 3 (f := .glo "_law_name") rfl)
  have q4 := He.free_ok X G (c.fact 4 (f := .free "list") rfl)
  have q5 := He.free_ok X G (c.fact 8 (f := .free "isinstance") rfl)
  have q6 := He.free_ok X G (c.fact 10 (f := .free "all") rfl)
  have q7 := He.free_ok X G (c.fact 11 (f := .free "int") rfl)
  have q8 := He.free_ok X G (c.fact 12 (f := .free "bool") rfl)
  have q9 := He.glo_ok X G (c.fact 13 (f := .glo "is_number") rfl)
  have q10 := He.glo_ok X G (c.fact 14 (f := .glo "are_numbers") rfl)
  have q11 := He.glo_ok X G (c.fact 15 (f := .glo "is_name") rfl)
  have q12 := He.free_ok X G (c.fact 16 (f := .free "tuple") rfl)
  have q13 := He.exc_ok (c.fact 21 (f := .exc "BadFeast") rfl)
  have q14 := He.cls_ok (c.fact 23 (f := .cls "Feast") rfl)
  have q15 := He.noat_ok (c.fact 24 (f := .noat "Feast" "name") rfl)
  have q16 := He.noat_ok (c.fact 25 (f := .noat "Feast" "place") rfl)
  have q17 := He.noat_ok (c.fact 26 (f := .noat "Feast" "lasts") rfl)
  have q18 := He.noat_ok (c.fact 27 (f := .noat "Feast" "kept") rfl)
  have q19 := He.noat_ok (c.fact 28 (f := .noat "Feast" "acts") rfl)
  have q20 := He.mkr_ok (c.fact 29 (f := .mkr "Feast") rfl)
  have q21 := He.glo_ok X G (c.fact 30 (f := .glo "Feast") rfl)
  have q22 := He.glo_ok X G (c.fact 31 (f := .glo "_law_is") rfl)
  have q23 := He.meth_ok (c.fact 33 (f := .meth "Feast" "told") rfl)
  have q24 := He.glo_ok X G (c.fact 34 (f := .glo "Calendar") rfl)
  have q25 := He.cls_ok (c.fact 35 (f := .cls "Calendar") rfl)
  have q26 := He.noat_ok (c.fact 36 (f := .noat "Calendar" "lengths") rfl)
  have q27 := He.noat_ok (c.fact 37 (f := .noat "Calendar" "begins") rfl)
  have q28 := He.noat_ok (c.fact 38 (f := .noat "Calendar" "whole") rfl)
  have q29 := He.exc_ok (c.fact 39 (f := .exc "BadCalendar") rfl)
  have q30 := He.glo_ok X G (c.fact 41 (f := .glo "_law_feast") rfl)
  obtain ⟨fd_law_draw, G0_law_draw⟩ := c.def_ 0 (d := dd_law_draw) rfl
  have G_law_draw : GD K "_law_draw" "_law_draw" s_law_draw (He.ga K "_law_draw") fd_law_draw := G0_law_draw
  have B_law_draw : Binds K fd_law_draw ["_law_hold", "_law_many"] [] := G_law_draw.bindsN fun _ _ _ _ _ _ us hl => match us, hl with | [_, _], _ => rfl
  obtain ⟨fd_law_name, G0_law_name⟩ := c.def_ 1 (d := dd_law_name) rfl
  have G_law_name : GD K "_law_name" "_law_name" s_law_name (He.ga K "_law_name") fd_law_name := G0_law_name
  have B_law_name : Binds K fd_law_name ["_law_hold"] [] := G_law_name.bindsN fun _ _ _ _ _ _ us hl => match us, hl with | [_], _ => rfl
  obtain ⟨fd_fo_acts, G0_fo_acts⟩ := c.def_ 2 (d := dd_fo_acts) rfl
  have G_fo_acts : GD K "_law_acts" "_law_acts" s_fo_acts (He.ga K "_law_acts") fd_fo_acts := G0_fo_acts
  have B_fo_acts : Binds K fd_fo_acts ["_law_hold"] [] := G_fo_acts.bindsN fun _ _ _ _ _ _ us hl => match us, hl with | [_], _ => rfl
  obtain ⟨fd_fo_kept, G0_fo_kept⟩ := c.def_ 3 (d := dd_fo_kept) rfl
  have G_fo_kept : GD K "_law_kept" "_law_kept" s_fo_kept (He.ga K "_law_kept") fd_fo_kept := G0_fo_kept
  have B_fo_kept : Binds K fd_fo_kept ["_law_hold"] [] := G_fo_kept.bindsN fun _ _ _ _ _ _ us hl => match us, hl with | [_], _ => rfl
  obtain ⟨fd_fo_feast, G0_fo_feast⟩ := c.def_ 4 (d := dd_fo_feast) rfl
  have G_fo_feast : GD K "_law_feast" "_law_feast" s_fo_feast (He.ga K "_law_feast") fd_fo_feast := G0_fo_feast
  have B_fo_feast : Binds K fd_fo_feast ["_law_hold"] [] := G_fo_feast.bindsN fun _ _ _ _ _ _ us hl => match us, hl with | [_], _ => rfl
  obtain ⟨fd_is_name, G0_is_name⟩ := c.def_ 5 (d := dd_is_name) rfl
  have G_is_name : GD K "is_name" "is_name" s_is_name (He.ga K "is_name") fd_is_name := G0_is_name
  have B_is_name : Binds K fd_is_name ["thing"] [] := G_is_name.bindsN fun _ _ _ _ _ _ us hl => match us, hl with | [_], _ => rfl
  obtain ⟨fd_is_number, G0_is_number⟩ := c.def_ 6 (d := dd_is_number) rfl
  have G_is_number : GD K "is_number" "is_number" s_is_number (He.ga K "is_number") fd_is_number := G0_is_number
  have B_is_number : Binds K fd_is_number ["thing", "least", "most"] [] := G_is_number.bindsN fun _ _ _ _ _ _ us hl => match us, hl with | [_, _, _], _ => rfl
  obtain ⟨fd_are_numbers, G0_are_numbers⟩ := c.def_ 7 (d := dd_are_numbers) rfl
  have G_are_numbers : GD K "are_numbers" "are_numbers" s_are_numbers (He.ga K "are_numbers") fd_are_numbers := G0_are_numbers
  have B_are_numbers : Binds K fd_are_numbers ["thing", "long", "least", "most"] [] := G_are_numbers.bindsN fun _ _ _ _ _ _ us hl => match us, hl with | [_, _, _, _], _ => rfl
  obtain ⟨fd_good_years, G0_good_years⟩ := c.def_ 8 (d := dd_good_years) rfl
  have G_good_years : GD K "good_years" "good_years" s_good_years (He.ga K "good_years") fd_good_years := G0_good_years
  have B_good_years : Binds K fd_good_years ["years"] [] := G_good_years.bindsN fun _ _ _ _ _ _ us hl => match us, hl with | [_], _ => rfl
  obtain ⟨fd_is_put, G0_is_put⟩ := c.def_ 9 (d := dd_is_put) rfl
  have G_is_put : GD K "is_put" "is_put" s_is_put (He.ga K "is_put") fd_is_put := G0_is_put
  have B_is_put : Binds K fd_is_put ["pair"] [] := G_is_put.bindsN fun _ _ _ _ _ _ us hl => match us, hl with | [_], _ => rfl
  obtain ⟨fd_good_puts, G0_good_puts⟩ := c.def_ 10 (d := dd_good_puts) rfl
  have G_good_puts : GD K "good_puts" "good_puts" s_good_puts (He.ga K "good_puts") fd_good_puts := G0_good_puts
  have B_good_puts : Binds K fd_good_puts ["puts"] [] := G_good_puts.bindsN fun _ _ _ _ _ _ us hl => match us, hl with | [_], _ => rfl
  obtain ⟨fd_Feast_init, G0_Feast_init⟩ := c.def_ 11 (d := dd_Feast_init) rfl
  have G_Feast_init : FunD K "__init__" "Feast.__init__" (defArgs s_Feast_init) (defBody s_Feast_init) (defScope s_Feast_init) [.int (1), .non, .non] [] (He.ma K (He.ga K "Feast") "__init__") fd_Feast_init := G0_Feast_init
  obtain ⟨ds_Feast_init, V_Feast_init, B0_Feast_init⟩ := FunD.binds1 (ps := ["self", "name", "place", "days", "years", "puts"]) G_Feast_init 6 3 (by simp) (by decide) fun _ _ _ _ _ _ _ us its hu hi => match us, its, hu, hi with | [_, _, _, _, _, _], [_, _, _], _, _ => ⟨_, rfl, rfl⟩
  have B_Feast_init : Binds K fd_Feast_init ["self", "name", "place", "days", "years", "puts"] [] := by
    cases V_Feast_init
    exact B0_Feast_init
  obtain ⟨dd1_Feast_init, VD1_Feast_init, BD1_Feast_init⟩ := FunD.binds1 (ps := ["self", "name", "place", "days", "years", "puts"]) G_Feast_init 5 2 (by simp) (by decide) fun _ _ _ _ _ _ _ us its hu hi => match us, its, hu, hi with | [_, _, _, _, _], [_, _, _], _, _ => ⟨_, rfl, rfl⟩
  obtain ⟨dd2_Feast_init, VD2_Feast_init, BD2_Feast_init⟩ := FunD.binds1 (ps := ["self", "name", "place", "days", "years", "puts"]) G_Feast_init 4 1 (by simp) (by decide) fun _ _ _ _ _ _ _ us its hu hi => match us, its, hu, hi with | [_, _, _, _], [_, _, _], _, _ => ⟨_, rfl, rfl⟩
  obtain ⟨dd3_Feast_init, VD3_Feast_init, BD3_Feast_init⟩ := FunD.binds1 (ps := ["self", "name", "place", "days", "years", "puts"]) G_Feast_init 3 0 (by simp) (by decide) fun _ _ _ _ _ _ _ us its hu hi => match us, its, hu, hi with | [_, _, _], [_, _, _], _, _ => ⟨_, rfl, rfl⟩
  obtain ⟨fd_fo_made, G0_fo_made⟩ := c.def_ 12 (d := dd_fo_made) rfl
  have G_fo_made : GD K "_law_made" "_law_made" s_fo_made (He.ga K "_law_made") fd_fo_made := G0_fo_made
  have B_fo_made : Binds K fd_fo_made ["_law_some", "_law_way"] [] := G_fo_made.bindsN fun _ _ _ _ _ _ us hl => match us, hl with | [_, _], _ => rfl
  obtain ⟨fd_Feast_told, G0_Feast_told⟩ := c.def_ 13 (d := dd_Feast_told) rfl
  have G_Feast_told : GD K "told" "Feast.told" s_Feast_told (He.ma K (He.ga K "Feast") "told") fd_Feast_told := G0_Feast_told
  have B_Feast_told : Binds K fd_Feast_told ["self"] [] := G_Feast_told.bindsN fun _ _ _ _ _ _ us hl => match us, hl with | [_], _ => rfl
  obtain ⟨fd_law_is, G0_law_is⟩ := c.def_ 14 (d := dd_law_is) rfl
  have G_law_is : GD K "_law_is" "_law_is" s_law_is (He.ga K "_law_is") fd_law_is := G0_law_is
  have B_law_is : Binds K fd_law_is ["_law_found", "_law_due"] [] := G_law_is.bindsN fun _ _ _ _ _ _ us hl => match us, hl with | [_, _], _ => rfl
  obtain ⟨fd_law_row_is, G0_law_row_is⟩ := c.def_ 15 (d := dd_law_row_is) rfl
  have G_law_row_is : GD K "_law_row_is" "_law_row_is" s_law_row_is (He.ga K "_law_row_is") fd_law_row_is := G0_law_row_is
  have B_law_row_is : Binds K fd_law_row_is ["_law_found", "_law_due"] [] := G_law_row_is.bindsN fun _ _ _ _ _ _ us hl => match us, hl with | [_, _], _ => rfl
  obtain ⟨fd_fo_told_is, G0_fo_told_is⟩ := c.def_ 16 (d := dd_fo_told_is) rfl
  have G_fo_told_is : GD K "_law_told_is" "_law_told_is" s_fo_told_is (He.ga K "_law_told_is") fd_fo_told_is := G0_fo_told_is
  have B_fo_told_is : Binds K fd_fo_told_is ["_law_found", "_law_due"] [] := G_fo_told_is.bindsN fun _ _ _ _ _ _ us hl => match us, hl with | [_, _], _ => rfl
  obtain ⟨fd_Feast_eq, G0_Feast_eq⟩ := c.def_ 17 (d := dd_Feast_eq) rfl
  have G_Feast_eq : GD K "__eq__" "Feast.__eq__" s_Feast_eq (He.ma K (He.ga K "Feast") "__eq__") fd_Feast_eq := G0_Feast_eq
  have B_Feast_eq : Binds K fd_Feast_eq ["self", "other"] [] := G_Feast_eq.bindsN fun _ _ _ _ _ _ us hl => match us, hl with | [_, _], _ => rfl
  obtain ⟨fd_Calendar_eq, G0_Calendar_eq⟩ := c.def_ 18 (d := dd_Calendar_eq) rfl
  have G_Calendar_eq : GD K "__eq__" "Calendar.__eq__" s_Calendar_eq (He.ma K (He.ga K "Calendar") "__eq__") fd_Calendar_eq := G0_Calendar_eq
  have B_Calendar_eq : Binds K fd_Calendar_eq ["self", "other"] [] := G_Calendar_eq.bindsN fun _ _ _ _ _ _ us hl => match us, hl with | [_, _], _ => rfl
  obtain ⟨fd_Calendar_init, G0_Calendar_init⟩ := c.def_ 19 (d := dd_Calendar_init) rfl
  have G_Calendar_init : GD K "__init__" "Calendar.__init__" s_Calendar_init (He.ma K (He.ga K "Calendar") "__init__") fd_Calendar_init := G0_Calendar_init
  have B_Calendar_init : Binds K fd_Calendar_init ["self", "years"] [] := G_Calendar_init.bindsN fun _ _ _ _ _ _ us hl => match us, hl with | [_, _], _ => rfl
  obtain ⟨fd_fo_equal_right, G0_fo_equal_right⟩ := c.def_ 20 (d := dd_fo_equal_right) rfl
  have G_fo_equal_right : GD K "_law_equal_right" "_law_equal_right" s_fo_equal_right (He.ga K "_law_equal_right") fd_fo_equal_right := G0_fo_equal_right
  have B_fo_equal_right : Binds K fd_fo_equal_right ["_law_feast_here", "_law_due", "_law_hold"] [] := G_fo_equal_right.bindsN fun _ _ _ _ _ _ us hl => match us, hl with | [_, _, _], _ => rfl
  obtain ⟨fd_fo_spoil, G0_fo_spoil⟩ := c.def_ 21 (d := dd_fo_spoil) rfl
  have G_fo_spoil : GD K "_law_spoil" "_law_spoil" s_fo_spoil (He.ga K "_law_spoil") fd_fo_spoil := G0_fo_spoil
  have B_fo_spoil : Binds K fd_fo_spoil ["_law_some", "_law_hold"] [] := G_fo_spoil.bindsN fun _ _ _ _ _ _ us hl => match us, hl with | [_, _], _ => rfl
  obtain ⟨fd_law, G0_law⟩ := c.def_ 22 (d := dd_law) rfl
  have G_law : GD K "law" "law" s_law (He.ga K "law") fd_law := G0_law
  have b := FunD.bindsA (ps := ["_law_script"]) G_law fun _ _ _ _ _ _ us hl => match us, hl with | [_], _ => rfl
  refine ⟨fd_law, fun s v => b s [v] rfl, fun base _ _ => ?_⟩
  have F_law_draw : FnOk P w K mg base (L2.CX P w) 1 _ fd_law_draw ["_law_hold", "_law_many"] (spD K (c_law_draw K)) := ok_law_draw G_law_draw q0
  have F_law_name : FnOk P w K mg base (L2.CX P w) 2 _ fd_law_name ["_law_hold"] (spD K (c_law_name K)) := ok_law_name G_law_name ⟨⟨F_law_draw, B_law_draw⟩, q1, G_law_draw.kp⟩ q2
  have F_fo_acts : FnOk P w K mg base (L2.CX P w) 3 _ fd_fo_acts ["_law_hold"] (spD K (c_fo_acts K)) := ok_fo_acts G_fo_acts ⟨⟨F_law_draw, B_law_draw⟩, q1, G_law_draw.kp⟩ ⟨⟨F_law_name, B_law_name⟩, q3, G_law_name.kp⟩ q2
  have F_fo_kept : FnOk P w K mg base (L2.CX P w) 2 _ fd_fo_kept ["_law_hold"] (spD K (c_fo_kept K)) := ok_fo_kept G_fo_kept ⟨⟨F_law_draw, B_law_draw⟩, q1, G_law_draw.kp⟩ q4 q2
  have F_fo_feast : FnOk P w K mg base (L2.CX P w) 4 _ fd_fo_feast ["_law_hold"] (spD K (c_fo_feast K)) := ok_fo_feast G_fo_feast ⟨⟨F_law_draw, B_law_draw⟩, q1, G_law_draw.kp⟩ ⟨⟨F_fo_acts, B_fo_acts⟩, (He.glo_ok X G (c.fact 5 (f := .glo "_law_acts") rfl)), G_fo_acts.kp⟩ ⟨⟨F_fo_kept, B_fo_kept⟩, (He.glo_ok X G (c.fact 6 (f := .glo "_law_kept") rfl)), G_fo_kept.kp⟩ ⟨⟨F_law_name, B_law_name⟩, q3, G_law_name.kp⟩
  have F_is_name : FnOk P w K mg base (L2.CX P w) 1 _ fd_is_name ["thing"] (spD K (c_is_name K)) := ok_is_name G_is_name (He.free_ok X G (c.fact 7 (f := .free "str") rfl)) q5 q0 (He.str_ok X G (c.fact 9 (f := .str "LETTERS" "abcdefghijklmnopqrstuvwxyz") rfl)) q6
  have F_is_number : FnOk P w K mg base (L2.CX P w) 1 _ fd_is_number ["thing", "least", "most"] (spD K (c_is_number K)) := ok_is_number G_is_number q7 q5 q8
  have F_are_numbers : FnOk P w K mg base (L2.CX P w) 2 _ fd_are_numbers ["thing", "long", "least", "most"] (spD K (c_are_numbers K)) := ok_are_numbers G_are_numbers ⟨⟨F_is_number, B_is_number⟩, q9, G_is_number.kp⟩ q4 q5 q0 q6
  have F_good_years : FnOk P w K mg base (L2.CX P w) 3 _ fd_good_years ["years"] (spD K (c_good_years K)) := ok_good_years G_good_years ⟨⟨F_are_numbers, B_are_numbers⟩, q10, G_are_numbers.kp⟩ q0 q2 q6
  have F_is_put : FnOk P w K mg base (L2.CX P w) 2 _ fd_is_put ["pair"] (spD K (c_is_put K)) := ok_is_put G_is_put ⟨⟨F_is_name, B_is_name⟩, q11, G_is_name.kp⟩ q12 q5 q0
  have F_good_puts : FnOk P w K mg base (L2.CX P w) 3 _ fd_good_puts ["puts"] (spD K (c_good_puts K)) := ok_good_puts G_good_puts ⟨⟨F_is_put, B_is_put⟩, (He.glo_ok X G (c.fact 17 (f := .glo "is_put") rfl)), G_is_put.kp⟩ q4 q5 q0 q6 (He.free_ok X G (c.fact 18 (f := .free "set") rfl))
  have F_Feast_init : FnOk P w K mg base (L2.CX P w) 4 _ fd_Feast_init ["self", "name", "place", "days", "years", "puts"] (spD K (c_Feast_init K)) := ok_Feast_init G_Feast_init ⟨⟨F_is_name, B_is_name⟩, q11, G_is_name.kp⟩ ⟨⟨F_is_number, B_is_number⟩, q9, G_is_number.kp⟩ ⟨⟨F_good_years, B_good_years⟩, (He.glo_ok X G (c.fact 19 (f := .glo "good_years") rfl)), G_good_years.kp⟩ ⟨⟨F_good_puts, B_good_puts⟩, (He.glo_ok X G (c.fact 20 (f := .glo "good_puts") rfl)), G_good_puts.kp⟩ ⟨q13.1, He.glo_ok X G (c.fact 22 (f := .glo "BadFeast") rfl), q13.2.1, q13.2.2.1, q13.2.2.2⟩ q4 (⟨q14, q15, q16, q17, q18, q19⟩)
  have F_fo_made : FnOk P w K mg base (L2.CX P w) 6 _ fd_fo_made ["_law_some", "_law_way"] (spD K (c_fo_made K)) := ok_fo_made G_fo_made ⟨F_Feast_init, B_Feast_init⟩ q20 q21 BD3_Feast_init VD3_Feast_init BD2_Feast_init VD2_Feast_init BD1_Feast_init VD1_Feast_init (kbm_def G_Feast_init (by simp) 3 ["puts"] [1,2,0] fun _ _ _ _ _ _ _ us its ws hu hi hw => match us, its, ws, hu, hi, hw with | [_, _, _], [_, _, _], [_], _, _, _ => ⟨_, rfl, rfl⟩) (kbm_def G_Feast_init (by simp) 1 ["place", "name", "years"] [1,0,3,2,5] fun _ _ _ _ _ _ _ us its ws hu hi hw => match us, its, ws, hu, hi, hw with | [_], [_, _, _], [_, _, _], _, _, _ => ⟨_, rfl, rfl⟩) (kbm_def G_Feast_init (by simp) 3 ["days", "puts"] [0,3,1] fun _ _ _ _ _ _ _ us its ws hu hi hw => match us, its, ws, hu, hi, hw with | [_, _, _], [_, _, _], [_, _], _, _, _ => ⟨_, rfl, rfl⟩) (kbm_def G_Feast_init (by simp) 1 ["puts", "days", "name", "years", "place"] [2,4,1,3,0] fun _ _ _ _ _ _ _ us its ws hu hi hw => match us, its, ws, hu, hi, hw with | [_], [_, _, _], [_, _, _, _, _], _, _, _ => ⟨_, rfl, rfl⟩)
  have F_Feast_told : FnOk P w K mg base (L2.CX P w) 1 _ fd_Feast_told ["self"] (spD K (c_Feast_told K)) := ok_Feast_told G_Feast_told q4 (⟨q14, q15, q16, q17, q18, q19⟩)
  have F_law_is : FnOk P w K mg base (L2.CX P w) 1 _ fd_law_is ["_law_found", "_law_due"] (spD K (c_law_is K)) := ok_law_is G_law_is q7 q5 q8
  have F_law_row_is : FnOk P w K mg base (L2.CX P w) 2 _ fd_law_row_is ["_law_found", "_law_due"] (spD K (c_law_row_is K)) := ok_law_row_is G_law_row_is ⟨⟨F_law_is, B_law_is⟩, q22, G_law_is.kp⟩ q4 q5 q12 q0 q2
  have F_fo_told_is : FnOk P w K mg base (L2.CX P w) 3 _ fd_fo_told_is ["_law_found", "_law_due"] (spD K (c_fo_told_is K)) := ok_fo_told_is G_fo_told_is ⟨⟨F_law_is, B_law_is⟩, q22, G_law_is.kp⟩ ⟨⟨F_law_row_is, B_law_row_is⟩, (He.glo_ok X G (c.fact 32 (f := .glo "_law_row_is") rfl)), G_law_row_is.kp⟩ q12 q5 q0 q4
  have F_Feast_eq : FnOk P w K mg base (L2.CX P w) 2 _ fd_Feast_eq ["self", "other"] (spD K (c_Feast_eq K)) := ok_Feast_eq G_Feast_eq ⟨F_Feast_told, B_Feast_told⟩ q21 q5 q14 q23 (keqB_ok q14 (exAll_at cx 0 (e := keqB "Feast") rfl))
  have F_Calendar_eq : FnOk P w K mg base (L2.CX P w) 1 _ fd_Calendar_eq ["self", "other"] (spD K (c_Calendar_eq K)) := ok_Calendar_eq G_Calendar_eq q24 q5 (⟨q25, q26, q27, q28⟩) (keqB_ok q25 (exAll_at cx 1 (e := keqB "Calendar") rfl))
  have F_Calendar_init : FnOk P w K mg base (L2.CX P w) 3 _ fd_Calendar_init ["self", "years"] (spD K (c_Calendar_init K)) := ok_Calendar_init G_Calendar_init ⟨⟨F_are_numbers, B_are_numbers⟩, q10, G_are_numbers.kp⟩ ⟨q29.1, He.glo_ok X G (c.fact 40 (f := .glo "BadCalendar") rfl), q29.2.1, q29.2.2.1, q29.2.2.2⟩ q4 (⟨q25, q26, q27, q28⟩)
  have F_fo_equal_right : FnOk P w K mg base (L2.CX P w) 6 _ fd_fo_equal_right ["_law_feast_here", "_law_due", "_law_hold"] (spD K (c_fo_equal_right K)) := ok_fo_equal_right G_fo_equal_right ⟨⟨F_law_draw, B_law_draw⟩, q1, G_law_draw.kp⟩ ⟨⟨F_fo_feast, B_fo_feast⟩, q30, G_fo_feast.kp⟩ ⟨F_Feast_init, B_Feast_init⟩ q20 ⟨F_Feast_eq, B_Feast_eq⟩ ⟨F_Calendar_eq, B_Calendar_eq⟩ ⟨F_Calendar_init, B_Calendar_init⟩ (He.mkr_ok (c.fact 42 (f := .mkr "Calendar") rfl)) ⟨F_Feast_told, B_Feast_told⟩ q4 q21 (He.meth_ok (c.fact 43 (f := .meth "Feast" "__eq__") rfl)) (neB_ok (exAll_at cx 2 (e := neB "Feast") rfl)) q8 q5 (He.meth_ok (c.fact 44 (f := .meth "Calendar" "__eq__") rfl)) (neB_ok (exAll_at cx 3 (e := neB "Calendar") rfl)) q24 q14 q23 (keqB_ok q14 (exAll_at cx 0 (e := keqB "Feast") rfl)) (keqB_ok q25 (exAll_at cx 1 (e := keqB "Calendar") rfl)) (kneB_ok q25 (exAll_at cx 4 (e := kneB "Feast" "Calendar") rfl)) (kneB_ok q14 (exAll_at cx 5 (e := kneB "Calendar" "Feast") rfl))
  have F_fo_spoil : FnOk P w K mg base (L2.CX P w) 2 _ fd_fo_spoil ["_law_some", "_law_hold"] (spD K (c_fo_spoil K)) := ok_fo_spoil G_fo_spoil ⟨⟨F_law_draw, B_law_draw⟩, q1, G_law_draw.kp⟩ q0
  exact ok_law (base := base) G_law ⟨⟨F_fo_feast, B_fo_feast⟩, q30, G_fo_feast.kp⟩ ⟨⟨F_fo_made, B_fo_made⟩, (He.glo_ok X G (c.fact 45 (f := .glo "_law_made") rfl)), G_fo_made.kp⟩ ⟨⟨F_law_draw, B_law_draw⟩, q1, G_law_draw.kp⟩ ⟨F_Feast_told, B_Feast_told⟩ ⟨⟨F_fo_told_is, B_fo_told_is⟩, (He.glo_ok X G (c.fact 46 (f := .glo "_law_told_is") rfl)), G_fo_told_is.kp⟩ ⟨⟨F_fo_equal_right, B_fo_equal_right⟩, (He.glo_ok X G (c.fact 47 (f := .glo "_law_equal_right") rfl)), G_fo_equal_right.kp⟩ ⟨⟨F_fo_spoil, B_fo_spoil⟩, (He.glo_ok X G (c.fact 48 (f := .glo "_law_spoil") rfl)), G_fo_spoil.kp⟩ q4 q0 (He.free_ok X G (c.fact 49 (f := .free "min") rfl)) (He.free_ok X G (c.fact 50 (f := .free "max") rfl)) q2 q14 q23
end Dl
open PySem PySem.W PySem.Calls PyProof.Rows
set_option maxRecDepth 100000
set_option maxHeartbeats 0
theorem PySem.Challenge.cw_readround_k17_feasts_told_holds : PySem.Challenge.rw_readround_k17_feasts_told.Holds := by
  refine Dl.lawOf ?hc
  case hc =>
    refine Dl.walk_ofW (l := PySem.Challenge.rw_readround_k17_feasts_told) (n := 63) (k := 7) (x := "_law_script") rfl (by decide) Dl.law_dflt ⟨rfl, by decide, by decide⟩ ?F
    intro w mg fa h Y G hmg0
    obtain ⟨K, KX, c, cx⟩ := Y
    have hmg : mg ("law" : PySem.Str) = some (.ref fa) := by
      rw [← Dl.law_name]
      exact hmg0
    obtain ⟨fd, hb, hF⟩ := Dl.facts (P := (PySem.Challenge.rw_readround_k17_feasts_told).prog) (w := w) KX G hmg c cx
    exact ⟨K, fd, _, KX, hb, fun H a ns hl hO hS => Dl.law_sp hS ⟨ns, rfl, hl, fun _ => rfl⟩, hF⟩
