import PyProof.Rows.All
import Wide.All
import OpenK.AllK
import Wide.FinOn
import HandS.ForMost
import HandS.ForExc
import HandS.Lambda
import HandS.IsInst
import HandS.Wide
import HandS.Defaults
import HandS.Zip
import HandS.Strs
import HandS.Style
import HandS.HeadHook2
import HandS.Ends
import HandS.HeadEnd
import HandS.Head2
import PyProof.Rows.SetListFold
import HandS.Conv
import HandS.Text
import HandS.NoneIn
import HandS.Codes
import PyProof.LongRange
import HandS.SortKw
import KE.DataMinMax
import PyProof.ListRange
import HandS.SetFor
import HandS.ExcIs
import HandS.ExcInit
import HandS.ExcField
import HandS.CallSlots
import HandS.Iter
import HandS.HeadHook4
import HandS.HeadWalk
import HandS.Deep
import HandS.DictComp
import HandS.SortInts
import HandS.More
import PyProof.InstEq
import HandS.DictTup
import HandS.TupLen
import KE.KeyNested
import KE.SortData
import HandS.TryMany
import KE.KDictSum
import HandS.RevRange
import HandS.RaiseMore
import KE.KIntText
import PyProof.InstSpecial
import PySem.Challenge.RW_readround_k18_feasts_refused
set_option Elab.async false
set_option linter.all false
set_option maxRecDepth 100000
/-! Dl: a layer of data over the hand layer's readings: what is frozen is told as data (D), what may still change stands in a list (Mu) -/
namespace Dl
open PySem L2
/-- data -/
inductive D where
  | non | bl (b : Bool) | int (i : Int) | str (x : Str) | ty (n : String)
  | tup (xs : List D) | lst (xs : List D)
  /-- a list, a tuple that is read alone (the script, a written one) -/
  | rdl (xs : List D) | rdt (xs : List D)
  | obj (C : Addr) (fs : List (Str × D))
  | dct (kvs : List (Key × D))
  /-- the k-th thing that may change -/
  | own (k : Nat)
  /-- an object of the written part -/
  | loc (a : Addr)
  /-- a caught exception: its class, its fields -/
  | exc (C : Addr) (fs : List (Str × D))
deriving Inhabited
/-- a caught exception in the heap: its class, its own dict -/
def ExV (cls : Value) (d : Option Addr) (a : Addr) : HO := .ext fun h => ∃ (oe : Obj) (vs : Array Value), h.get? a = some oe ∧ Zc cls d oe ∧ oe.data = .fields vs
/-- the own dict of an exception -/
def ExD (G : Hp) (d : Option Addr) (fs : List (Str × V)) : Prop := (d = none ∧ fs = []) ∨ ∃ dx, d = some dx ∧ G dx = some (.xd fs)
theorem ExD.mono {G G' : Hp} (s : Same G G') {d : Option Addr} {fs : List (Str × V)} (h : ExD G d fs) : ExD G' d fs := h.imp id fun ⟨dx, e, g⟩ => ⟨dx, e, s _ _ g⟩
/-- what a thing that may change is now -/
inductive MO where
  | dead
  | lst (xs : List D)
  | ins (C : Addr) (fs : List (Str × D))
  | dK (kvs : List (Key × D))
  | dT (kvs : List (List Key × D))
  /-- the table at p of code objects of the name q -/
  | tab (p : Addr) (q : Str)
deriving Inhabited
abbrev Mu := List MO
abbrev En := List (Option D)
section
variable (K : PySem.W.Frag) (G : Hp) (al : List Addr)
mutual
inductive Rp : V → D → Prop
  | non : Rp .non .non
  | bl (b : Bool) : Rp (.bl b) (.bl b)
  | int (i : Int) : Rp (.int i) (.int i)
  | str (x : Str) : Rp (.str x) (.str x)
  | ty (n : String) : Rp (.ty n) (.ty n)
  | tup {a : Addr} {vs : List V} {ds : List D} : G a = some (.tup vs) → Rps vs ds → Rp (.ref a) (.tup ds)
  | lst {a : Addr} {vs : List V} {ds : List D} : G a = some (.lst vs) → Rps vs ds → Rp (.ref a) (.lst ds)
  | rdl {a : Addr} {vs : List V} {ds : List D} : SqL K G a vs → Rps vs ds → Rp (.ref a) (.rdl ds)
  | rdt {a : Addr} {vs : List V} {ds : List D} : SqT K G a vs → Rps vs ds → Rp (.ref a) (.rdt ds)
  | obj {a C dx : Addr} {fs : List (Str × V)} {gs : List (Str × D)} : G a = some (.ins C dx fs) → Rpf fs gs → Rp (.ref a) (.obj C gs)
  | dct {a : Addr} {kvs : List (Key × V)} {gs : List (Key × D)} : Rd G a (.dK kvs) → Rpk kvs gs → Rp (.ref a) (.dct gs)
  | own {a : Addr} {k : Nat} : al[k]? = some a → Rp (.ref a) (.own k)
  | loc (a : Addr) : Rp (.ref a) (.loc a)
  | exc {a C : Addr} {dd : Option Addr} {fs : List (Str × V)} {gs : List (Str × D)} : G a = some (ExV (.ref C) dd a) → ExD G dd fs → Rpf fs gs → Rp (.ref a) (.exc C gs)
inductive Rps : List V → List D → Prop
  | nil : Rps [] []
  | cons {v : V} {vs : List V} {d : D} {ds : List D} : Rp v d → Rps vs ds → Rps (v :: vs) (d :: ds)
inductive Rpf : List (Str × V) → List (Str × D) → Prop
  | nil : Rpf [] []
  | cons {f : Str} {v : V} {vs : List (Str × V)} {d : D} {ds : List (Str × D)} : Rp v d → Rpf vs ds → Rpf ((f, v) :: vs) ((f, d) :: ds)
inductive Rpk : List (Key × V) → List (Key × D) → Prop
  | nil : Rpk [] []
  | cons {f : Key} {v : V} {vs : List (Key × V)} {d : D} {ds : List (Key × D)} : Rp v d → Rpk vs ds → Rpk ((f, v) :: vs) ((f, d) :: ds)
end
end
theorem rd_mono {H H' : Hp} {a : Addr} {u : HO} (s : Same H H') (h : Rd H a u) : Rd H' a u := by
  rcases h with h | ⟨o, h⟩
  · exact .inl (s _ _ h)
  · exact .inr ⟨o, s _ _ h⟩
theorem sql_mono {K : PySem.W.Frag} {H H' : Hp} {a : Addr} {xs : List V} (e : Same H H') (h : SqL K H a xs) : SqL K H' a xs := e.seq h
theorem sqt_mono {K : PySem.W.Frag} {H H' : Hp} {a : Addr} {xs : List V} (e : Same H H') (h : SqT K H a xs) : SqT K H' a xs := by
  rcases h with (h | ⟨o, h⟩) | h
  · exact .inl (.inl (e _ _ h))
  · exact .inl (.inr ⟨o, e _ _ h⟩)
  · exact .inr h
/-- al' goes on from al -/
def Pre (al al' : List Addr) : Prop := ∃ be, al' = al ++ be
theorem Pre.refl (al : List Addr) : Pre al al := ⟨[], by simp⟩
theorem Pre.trans {a b c : List Addr} (h : Pre a b) (h' : Pre b c) : Pre a c := by
  obtain ⟨x, rfl⟩ := h
  obtain ⟨y, rfl⟩ := h'
  exact ⟨x ++ y, by simp⟩
theorem Pre.get {al al' : List Addr} (h : Pre al al') {k : Nat} {a : Addr} (e : al[k]? = some a) : al'[k]? = some a := by
  obtain ⟨x, rfl⟩ := h
  rw [List.getElem?_append_left (List.getElem?_eq_some_iff.mp e).1]
  exact e
theorem Pre.mem {al al' : List Addr} (h : Pre al al') {a : Addr} (e : a ∈ al) : a ∈ al' := by
  obtain ⟨x, rfl⟩ := h
  exact List.mem_append_left _ e
section
variable {K : PySem.W.Frag} {G G' : Hp} {al al' : List Addr}
mutual
theorem Rp.mono (s : Same G G') (p : Pre al al') : ∀ {v : V} {d : D}, Rp K G al v d → Rp K G' al' v d
  | _, _, .non => .non
  | _, _, .bl b => .bl b
  | _, _, .int i => .int i
  | _, _, .str x => .str x
  | _, _, .ty x => .ty x
  | _, _, .tup h r => .tup (s _ _ h) (Rps.mono s p r)
  | _, _, .lst h r => .lst (s _ _ h) (Rps.mono s p r)
  | _, _, .rdl h r => .rdl (sql_mono s h) (Rps.mono s p r)
  | _, _, .rdt h r => .rdt (sqt_mono s h) (Rps.mono s p r)
  | _, _, .obj h r => .obj (s _ _ h) (Rpf.mono s p r)
  | _, _, .dct h r => .dct (rd_mono s h) (Rpk.mono s p r)
  | _, _, .own h => .own (p.get h)
  | _, _, .loc a => .loc a
  | _, _, .exc h hd r => .exc (s _ _ h) (hd.mono s) (Rpf.mono s p r)
theorem Rps.mono (s : Same G G') (p : Pre al al') : ∀ {v : List V} {d : List D}, Rps K G al v d → Rps K G' al' v d
  | _, _, .nil => .nil
  | _, _, .cons h r => .cons (Rp.mono s p h) (Rps.mono s p r)
theorem Rpf.mono (s : Same G G') (p : Pre al al') : ∀ {v : List (Str × V)} {d : List (Str × D)}, Rpf K G al v d → Rpf K G' al' v d
  | _, _, .nil => .nil
  | _, _, .cons h r => .cons (Rp.mono s p h) (Rpf.mono s p r)
theorem Rpk.mono (s : Same G G') (p : Pre al al') : ∀ {v : List (Key × V)} {d : List (Key × D)}, Rpk K G al v d → Rpk K G' al' v d
  | _, _, .nil => .nil
  | _, _, .cons h r => .cons (Rp.mono s p h) (Rpk.mono s p r)
end
theorem Rps.length {vs : List V} {ds : List D} (h : Rps K G al vs ds) : vs.length = ds.length := by
  induction ds generalizing vs with
  | nil => cases h; rfl
  | cons d ds ih => cases h with | cons _ r => simp [ih r]
theorem Rps.get {vs : List V} {ds : List D} (h : Rps K G al vs ds) : ∀ {i : Nat} {d : D}, ds[i]? = some d → ∃ v, vs[i]? = some v ∧ Rp K G al v d := by
  induction ds generalizing vs with
  | nil => intro i d e; simp at e
  | cons x xs ih =>
    intro i d e
    cases h with
    | cons r t =>
      cases i with
      | zero => simp at e; subst e; exact ⟨_, rfl, r⟩
      | succ i => simp at e; simpa using ih t e
theorem Rps.getV {vs : List V} {ds : List D} (h : Rps K G al vs ds) {i : Nat} {v : V} (e : vs[i]? = some v) : ∃ d, ds[i]? = some d ∧ Rp K G al v d := by
  have hi : i < ds.length := by rw [← h.length]; exact (List.getElem?_eq_some_iff.mp e).1
  obtain ⟨w, e2, r⟩ := h.get (List.getElem?_eq_getElem hi)
  rw [e] at e2; cases e2
  exact ⟨_, List.getElem?_eq_getElem hi, r⟩
theorem Rps.append {vs ws : List V} {ds es : List D} (h : Rps K G al vs ds) (h' : Rps K G al ws es) : Rps K G al (vs ++ ws) (ds ++ es) := by
  induction ds generalizing vs with
  | nil => cases h; exact h'
  | cons d ds ih => cases h with | cons r t => exact .cons r (ih t)
theorem Rps.take {vs : List V} {ds : List D} (h : Rps K G al vs ds) (n : Nat) : Rps K G al (vs.take n) (ds.take n) := by
  induction n generalizing vs ds with
  | zero => simp; exact .nil
  | succ n ih => cases h with
    | nil => simp; exact .nil
    | cons r t => simpa using .cons r (ih t)
theorem Rps.drop {vs : List V} {ds : List D} (h : Rps K G al vs ds) (n : Nat) : Rps K G al (vs.drop n) (ds.drop n) := by
  induction n generalizing vs ds with
  | zero => simpa using h
  | succ n ih => cases h with
    | nil => simp; exact .nil
    | cons r t => simpa using ih t
theorem Rps.reverse {vs : List V} {ds : List D} (h : Rps K G al vs ds) : Rps K G al vs.reverse ds.reverse := by
  induction ds generalizing vs with
  | nil => cases h; exact .nil
  | cons d ds ih => cases h with | cons r t => simpa using (ih t).append (.cons r .nil)
theorem Rps.set {vs : List V} {ds : List D} (h : Rps K G al vs ds) (i : Nat) {v : V} {d : D} (r : Rp K G al v d) : Rps K G al (vs.set i v) (ds.set i d) := by
  induction ds generalizing vs i with
  | nil => cases h; simp; exact .nil
  | cons x xs ih => cases h with
    | cons r' t => cases i with
      | zero => exact .cons r t
      | succ i => exact .cons r' (ih t i)
theorem Rps.ints : ∀ {vs : List V} {ns : List Int}, Rps K G al vs (ns.map D.int) → vs = ns.map V.int
  | _, [], h => by cases h; rfl
  | _, n :: ns, h => by
    cases h with
    | cons r t => cases r; rw [Rps.ints (ns := ns) t]; rfl
theorem Rps.of_ints : ∀ (ns : List Int), Rps K G al (ns.map V.int) (ns.map D.int)
  | [] => .nil
  | n :: ns => .cons (.int n) (Rps.of_ints ns)
theorem Rps.bools : ∀ {vs : List V} {ns : List Bool}, Rps K G al vs (ns.map D.bl) → vs = ns.map V.bl
  | _, [], h => by cases h; rfl
  | _, n :: ns, h => by
    cases h with
    | cons r t => cases r; rw [Rps.bools (ns := ns) t]; rfl
theorem Rps.strs : ∀ {vs : List V} {ns : List Str}, Rps K G al vs (ns.map D.str) → vs = ns.map V.str
  | _, [], h => by cases h; rfl
  | _, n :: ns, h => by
    cases h with
    | cons r t => cases r; rw [Rps.strs (ns := ns) t]; rfl
theorem Rpf.look {fs : List (Str × V)} {gs : List (Str × D)} (h : Rpf K G al fs gs) {f : Str} {d : D} (e : gs.lookup f = some d) : ∃ v, fs.lookup f = some v ∧ Rp K G al v d := by
  induction gs generalizing fs with
  | nil => simp at e
  | cons x xs ih =>
    cases h with
    | cons r t =>
      rw [List.lookup_cons] at e ⊢
      split at e
      · cases e; exact ⟨_, rfl, r⟩
      · exact ih t e
theorem Rpf.none {fs : List (Str × V)} {gs : List (Str × D)} (h : Rpf K G al fs gs) {f : Str} (e : gs.lookup f = Option.none) : fs.lookup f = Option.none := by
  induction gs generalizing fs with
  | nil => cases h; rfl
  | cons x xs ih =>
    cases h with
    | cons r t =>
      rw [List.lookup_cons] at e ⊢
      split at e
      · cases e
      · exact ih t e
theorem Rpf.length {fs : List (Str × V)} {gs : List (Str × D)} (h : Rpf K G al fs gs) : fs.length = gs.length := by
  induction gs generalizing fs with
  | nil => cases h; rfl
  | cons d ds ih => cases h with | cons _ r => simp [ih r]
end
/-- a field put -/
def putD (f : Str) (v : D) : List (Str × D) → List (Str × D)
  | [] => [(f, v)]
  | (g, x) :: r => if g = f then (g, v) :: r else (g, x) :: putD f v r
theorem Rpf.put {K : PySem.W.Frag} {G : Hp} {al : List Addr} {fs : List (Str × V)} {gs : List (Str × D)} (h : Rpf K G al fs gs) (f : Str) {v : V} {d : D} (r : Rp K G al v d) : Rpf K G al (putF f v fs) (putD f d gs) := by
  induction gs generalizing fs with
  | nil => cases h; exact .cons r .nil
  | cons x xs ih =>
    cases h with
    | cons r' t =>
      unfold putF putD
      split
      · exact .cons r t
      · exact .cons r' (ih t)
/-! ### the slots -/
def RpS (K : PySem.W.Frag) (G : Hp) (al : List Addr) (σ : St) (ρ : En) : Prop := σ.length = ρ.length ∧ ∀ (i : Nat) (d : D), ρ[i]? = some (some d) → ∃ v, σ[i]? = some (some v) ∧ Rp K G al v d
section
variable {K : PySem.W.Frag} {G G' : Hp} {al al' : List Addr} {σ : St} {ρ : En}
theorem RpS.mono (s : Same G G') (p : Pre al al') (h : RpS K G al σ ρ) : RpS K G' al' σ ρ := ⟨h.1, fun i d e => by
  obtain ⟨v, e1, r⟩ := h.2 i d e
  exact ⟨v, e1, r.mono s p⟩⟩
theorem RpS.set (h : RpS K G al σ ρ) (i : Nat) {v : V} {d : D} (r : Rp K G al v d) : RpS K G al (σ.set i (some v)) (ρ.set i (some d)) := by
  refine ⟨by simp [h.1], fun j e hj => ?_⟩
  rw [List.getElem?_set] at hj ⊢
  by_cases hij : i = j
  · subst hij
    rw [if_pos rfl] at hj ⊢
    by_cases hl : i < ρ.length
    · rw [if_pos hl] at hj
      have hl2 : i < σ.length := by rw [h.1]; exact hl
      rw [if_pos hl2]
      cases hj
      exact ⟨v, rfl, r⟩
    · rw [if_neg hl] at hj; cases hj
  · rw [if_neg hij] at hj ⊢
    exact h.2 j e hj
/-- a slot's value forgotten -/
theorem RpS.forget (h : RpS K G al σ ρ) (i : Nat) (x : Option V) : RpS K G al (σ.set i x) (ρ.set i none) := by
  refine ⟨by simp [h.1], fun j e hj => ?_⟩
  rw [List.getElem?_set] at hj ⊢
  by_cases hij : i = j
  · subst hij
    rw [if_pos rfl] at hj
    by_cases hl : i < ρ.length
    · rw [if_pos hl] at hj; cases hj
    · rw [if_neg hl] at hj; cases hj
  · rw [if_neg hij] at hj ⊢
    exact h.2 j e hj
end
/-! ### what may change -/
def OkO (K : PySem.W.Frag) (G H : Hp) (al : List Addr) (a : Addr) : MO → Prop
  | .dead => True
  | .lst ds => G a = none ∧ ∃ vs, H a = some (.lst vs) ∧ Rps K G al vs ds
  | .ins C gs => G a = none ∧ ∃ dx fs, H a = some (.ins C dx fs) ∧ Rpf K G al fs gs
  | .dK gs => G a = none ∧ ∃ kvs, H a = some (.dK kvs) ∧ Rpk K G al kvs gs
  | .dT gs => G a = none ∧ ∃ kvs : List (List Key × V), H a = some (.dT kvs) ∧ kvs.map (·.1) = gs.map (·.1) ∧ Rps K G al (kvs.map (·.2)) (gs.map (·.2))
  | .tab p q => G a = none ∧ a = p ∧ ∃ ps : Array Value, H a = some (.tbl ps) ∧ TriplesOk ps.toList ∧ ∀ (pos : Pos) (cv : Value), codeAmong pos ps.toList = some cv → ∃ c, cv = .ref c ∧ G c = some (LamX.CodeO c q)
structure As (K : PySem.W.Frag) (G H : Hp) (al : List Addr) (μ : Mu) : Prop where
  sub : Same G H
  nd : al.Nodup
  len : al.length = μ.length
  here : ∀ a ∈ al, H a ≠ none
  ok : ∀ (k : Nat) (a : Addr) (o : MO), al[k]? = some a → μ[k]? = some o → OkO K G H al a o
/-- a later state -/
structure Nx (G H : Hp) (al : List Addr) (G' H' : Hp) (al' : List Addr) : Prop where
  g : Same G G'
  p : Pre al al'
  keep : ∀ a o, H a = some o → a ∉ al → H' a = some o
  out : ∀ a, H a ≠ none → (∀ vs, H a ≠ some (.tup vs)) → a ∉ al → G a = none → G' a = none
  new : ∀ a ∈ al', a ∈ al ∨ H a = none
section
variable {K : PySem.W.Frag} {G G1 G2 H H1 H2 : Hp} {al al1 al2 : List Addr} {μ : Mu}
theorem Nx.refl : Nx G H al G H al := ⟨Same.refl _, Pre.refl _, fun _ _ h _ => h, fun _ _ _ _ h => h, fun _ h => .inl h⟩
theorem Nx.trans (a : Nx G H al G1 H1 al1) (b : Nx G1 H1 al1 G2 H2 al2) : Nx G H al G2 H2 al2 := by
  have nin : ∀ x o, H x = some o → x ∉ al → x ∉ al1 := fun x o h n m => by
    rcases a.new x m with z | z
    · exact n z
    · rw [h] at z; cases z
  refine ⟨a.g.trans b.g, a.p.trans b.p, fun x o h n => b.keep x o (a.keep x o h n) (nin x o h n), fun x h t n g => ?_, fun x m => ?_⟩
  · cases q : H x with
    | none => exact absurd q h
    | some o =>
      have h1 := a.keep x o q n
      exact b.out x (by rw [h1]; simp) (fun vs e => t vs (by rw [q, ← h1, e])) (nin x o q n) (a.out x h t n g)
  · rcases b.new x m with z | z
    · exact a.new x z
    · by_cases hx : x ∈ al
      · exact .inl hx
      · refine .inr ?_
        cases q : H x with
        | none => rfl
        | some o => rw [a.keep x o q hx] at z; cases z
theorem Rp.nx (n : Nx G H al G1 H1 al1) {v : V} {d : D} (h : Rp K G al v d) : Rp K G1 al1 v d := h.mono n.g n.p
theorem Rps.nx (n : Nx G H al G1 H1 al1) {v : List V} {d : List D} (h : Rps K G al v d) : Rps K G1 al1 v d := h.mono n.g n.p
theorem RpS.nx (n : Nx G H al G1 H1 al1) {σ : St} {ρ : En} (h : RpS K G al σ ρ) : RpS K G1 al1 σ ρ := h.mono n.g n.p
theorem OkO.mono {a : Addr} {o : MO} (s : Same G G1) (p : Pre al al1) (hg : o ≠ .dead → G a = none → G1 a = none) (hh : H1 a = H a) (h : OkO K G H al a o) : OkO K G1 H1 al1 a o := by
  cases o with
  | dead => trivial
  | lst ds => obtain ⟨g, vs, e, r⟩ := h; exact ⟨hg (by simp) g, vs, hh.trans e, r.mono s p⟩
  | ins C gs => obtain ⟨g, dx, vs, e, r⟩ := h; exact ⟨hg (by simp) g, dx, vs, hh.trans e, r.mono s p⟩
  | dK gs => obtain ⟨g, vs, e, r⟩ := h; exact ⟨hg (by simp) g, vs, hh.trans e, r.mono s p⟩
  | dT gs => obtain ⟨g, vs, e, k, r⟩ := h; exact ⟨hg (by simp) g, vs, hh.trans e, k, r.mono s p⟩
  | tab p q => obtain ⟨g, ep, ps, e, k, r⟩ := h; exact ⟨hg (by simp) g, ep, ps, hh.trans e, k, fun pos cv hc => let ⟨c, e1, e2⟩ := r pos cv hc; ⟨c, e1, s _ _ e2⟩⟩
/-- a new frozen thing -/
theorem As.frz {p : Addr} {o : HO} (A : As K G H al μ) (hp : H p = none) : As K (upd G p o) (upd H p o) al μ ∧ Nx G H al (upd G p o) (upd H p o) al := by
  have gp : G p = none := A.sub.free hp
  have s1 : Same G (upd G p o) := fun b u e => by rw [upd_ne (ne_of_none e gp)]; exact e
  have npal : p ∉ al := fun m => A.here p m hp
  refine ⟨⟨fun b u e => ?_, A.nd, A.len, fun a m => ?_, fun k a ob e1 e2 => ?_⟩, ⟨s1, Pre.refl _, fun a u h _ => ?_, fun a h _ n g => ?_, fun a m => .inl m⟩⟩
  · by_cases hb : b = p
    · subst hb; rw [upd_same] at e ⊢; exact e
    · rw [upd_ne hb] at e ⊢; exact A.sub _ _ e
  · have : a ≠ p := fun z => npal (z ▸ m)
    rw [upd_ne this]; exact A.here a m
  · have : a ≠ p := fun z => npal (z ▸ List.mem_of_getElem? e1)
    exact OkO.mono s1 (Pre.refl _) (fun _ g => by rw [upd_ne this]; exact g) (by rw [upd_ne this]) (A.ok k a ob e1 e2)
  · rw [upd_ne (ne_of_none h hp)]; exact h
  · have z : a ≠ p := fun z => h (by rw [z]; exact hp)
    rw [upd_ne z]; exact g
/-- a new thing that may change -/
theorem As.own {p : Addr} {o : HO} {m : MO} (A : As K G H al μ) (hp : H p = none) (ok : OkO K G (upd H p o) (al ++ [p]) p m) : As K G (upd H p o) (al ++ [p]) (μ ++ [m]) ∧ Nx G H al G (upd H p o) (al ++ [p]) := by
  have npal : p ∉ al := fun m => A.here p m hp
  have gp : G p = none := A.sub.free hp
  refine ⟨⟨fun b u e => ?_, ?_, by simp [A.len], fun a m => ?_, fun k a ob e1 e2 => ?_⟩, ⟨Same.refl _, ⟨[p], rfl⟩, fun a u h _ => ?_, fun a h _ n g => g, fun a m => ?_⟩⟩
  · rw [upd_ne (ne_of_none e gp)]; exact A.sub _ _ e
  · rw [List.nodup_append]
    exact ⟨A.nd, by simp, fun a ha b hb => by simp at hb; subst hb; exact fun z => npal (z ▸ ha)⟩
  · rcases List.mem_append.mp m with m | m
    · have : a ≠ p := fun z => npal (z ▸ m)
      rw [upd_ne this]; exact A.here a m
    · simp at m; subst m; rw [upd_same]; simp
  · by_cases hk : k < al.length
    · rw [List.getElem?_append_left hk] at e1
      rw [List.getElem?_append_left (by rw [← A.len]; exact hk)] at e2
      have : a ≠ p := fun z => npal (z ▸ List.mem_of_getElem? e1)
      exact OkO.mono (Same.refl _) ⟨[p], rfl⟩ (fun _ g => g) (by rw [upd_ne this]) (A.ok k a ob e1 e2)
    · have hk1 := (List.getElem?_eq_some_iff.mp e1).1
      have hk' : k = al.length := by simp at hk1; omega
      subst hk'
      simp at e1
      rw [A.len] at e2
      simp at e2
      subst e1 e2
      exact ok
  · rw [upd_ne (ne_of_none h hp)]; exact h
  · rcases List.mem_append.mp m with m | m
    · exact .inl m
    · simp at m; subst m; exact .inr hp
/-- a thing that may change is changed -/
theorem As.put {k : Nat} {a : Addr} {o : HO} {m m' : MO} (A : As K G H al μ) (hk : al[k]? = some a) (hm : μ[k]? = some m) (hd : m ≠ .dead) (ok : OkO K G (upd H a o) al a m') : As K G (upd H a o) al (μ.set k m') ∧ Nx G H al G (upd H a o) al := by
  have ga : G a = none := by
    have := A.ok k a m hk hm
    cases m with
    | dead => exact absurd rfl hd
    | lst _ => exact this.1
    | ins _ _ => exact this.1
    | dK _ => exact this.1
    | dT _ => exact this.1
    | tab _ _ => exact this.1
  have ma : a ∈ al := List.mem_of_getElem? hk
  refine ⟨⟨fun b u e => ?_, A.nd, by simp [A.len], fun b m => ?_, fun j b ob e1 e2 => ?_⟩, ⟨Same.refl _, Pre.refl _, fun b u h n => ?_, fun _ _ _ _ g => g, fun _ m => .inl m⟩⟩
  · rw [upd_ne (ne_of_none e ga)]; exact A.sub _ _ e
  · by_cases hb : b = a
    · subst hb; rw [upd_same]; simp
    · rw [upd_ne hb]; exact A.here b m
  · rw [List.getElem?_set] at e2
    by_cases hj : k = j
    · subst hj
      rw [if_pos rfl] at e2
      split at e2
      · cases e2; rw [hk] at e1; cases e1; exact ok
      · cases e2
    · rw [if_neg hj] at e2
      have hne : b ≠ a := fun z => by
        subst z
        exact hj (nd_ix A.nd hk e1)
      exact OkO.mono (Same.refl _) (Pre.refl _) (fun _ g => g) (by rw [upd_ne hne]) (A.ok j b ob e1 e2)
  · have z : b ≠ a := fun z => n (by rw [z]; exact ma)
    rw [upd_ne z]; exact h
/-- .. it is frozen -/
theorem As.freeze {k : Nat} {a : Addr} {o : HO} (A : As K G H al μ) (hk : al[k]? = some a) (ha : H a = some o) (ga : G a = none) : As K (upd G a o) H al (μ.set k .dead) ∧ Nx G H al (upd G a o) H al := by
  have ma : a ∈ al := List.mem_of_getElem? hk
  have s1 : Same G (upd G a o) := fun b u e => by rw [upd_ne (ne_of_none e ga)]; exact e
  refine ⟨⟨fun b u e => ?_, A.nd, by simp [A.len], A.here, fun j b ob e1 e2 => ?_⟩, ⟨s1, Pre.refl _, fun b u h n => h, fun b h _ n g => ?_, fun _ m => .inl m⟩⟩
  · by_cases hb : b = a
    · subst hb; rw [upd_same] at e; rw [← e]; exact ha
    · rw [upd_ne hb] at e; exact A.sub _ _ e
  · rw [List.getElem?_set] at e2
    by_cases hj : k = j
    · subst hj
      rw [if_pos rfl] at e2
      split at e2
      · cases e2; trivial
      · cases e2
    · rw [if_neg hj] at e2
      have hne : b ≠ a := fun z => by
        subst z
        exact hj (nd_ix A.nd hk e1)
      exact OkO.mono s1 (Pre.refl _) (fun _ g => by rw [upd_ne hne]; exact g) rfl (A.ok j b ob e1 e2)
  · have z : b ≠ a := fun z => n (by rw [z]; exact ma)
    rw [upd_ne z]; exact g
theorem As.get {k : Nat} {m : MO} (A : As K G H al μ) (hm : μ[k]? = some m) : ∃ a, al[k]? = some a ∧ OkO K G H al a m := by
  have hk : k < al.length := by rw [A.len]; exact (List.getElem?_eq_some_iff.mp hm).1
  exact ⟨al[k], List.getElem?_eq_getElem hk, A.ok k _ m (List.getElem?_eq_getElem hk) hm⟩
end
end Dl
set_option Elab.async false
set_option linter.all false
set_option maxRecDepth 100000
namespace Dl
open PySem L2
/-! ### judgements over data -/
structure Bs where
  G : Hp
  H : Hp
  al : List Addr
abbrev Bs.le (B : Bs) (G H : Hp) (al : List Addr) : Prop := Nx B.G B.H B.al G H al
section
variable (K : PySem.W.Frag)
def KV (G H : Hp) (al : List Addr) (P : D → Mu → Prop) (Q : VK) : Prop := ∀ v d μ' G' H' al', Nx G H al G' H' al' → As K G' H' al' μ' → Rp K G' al' v d → P d μ' → Q v H'
def KT (G H : Hp) (al : List Addr) (P : Bool → Mu → Prop) (Q : Bool → Hp → Prop) : Prop := ∀ b μ' G' H' al', Nx G H al G' H' al' → As K G' H' al' μ' → P b μ' → Q b H'
def KA (G H : Hp) (al : List Addr) (P : List D → Mu → Prop) (Q : List V → Hp → Prop) : Prop := ∀ vs ds μ' G' H' al', Nx G H al G' H' al' → As K G' H' al' μ' → Rps K G' al' vs ds → P ds μ' → Q vs H'
def KS (G H : Hp) (al : List Addr) (P : En → Mu → Prop) (Q : St → Hp → Prop) : Prop := ∀ σ' ρ' μ' G' H' al', Nx G H al G' H' al' → RpS K G' al' σ' ρ' → As K G' H' al' μ' → P ρ' μ' → Q σ' H'
def DE (B : Bs) (te : TE) (ρ : En) (μ : Mu) (P : D → Mu → Prop) : Prop := ∀ σ G H al, B.le G H al → RpS K G al σ ρ → As K G H al μ → ∀ Q, KV K G H al P Q → te σ H Q
def DT (B : Bs) (tt : TT) (ρ : En) (μ : Mu) (P : Bool → Mu → Prop) : Prop := ∀ σ G H al, B.le G H al → RpS K G al σ ρ → As K G H al μ → ∀ Q, KT K G H al P Q → tt σ H Q
def DA (B : Bs) (ta : TA) (ρ : En) (μ : Mu) (P : List D → Mu → Prop) : Prop := ∀ σ G H al, B.le G H al → RpS K G al σ ρ → As K G H al μ → ∀ Q, KA K G H al P Q → ta σ H Q
/-- a part of a slice -/
def DO (B : Bs) (to : TO) (ρ : En) (μ : Mu) (P : Option Int → Mu → Prop) : Prop := ∀ σ G H al, B.le G H al → RpS K G al σ ρ → As K G H al μ → ∀ Q : Option Int → Hp → Prop, (∀ o μ' G' H' al', Nx G H al G' H' al' → As K G' H' al' μ' → P o μ' → Q o H') → to σ H Q
def DG (B : Bs) (g : TG) (d : D) (ρ : En) (μ : Mu) (P : En → Mu → Prop) : Prop := ∀ σ G H al v, B.le G H al → RpS K G al σ ρ → As K G H al μ → Rp K G al v d → ∀ Q, KS K G H al P Q → g v σ H Q
def DGs (B : Bs) (g : TGs) (ds : List D) (ρ : En) (μ : Mu) (P : En → Mu → Prop) : Prop := ∀ σ G H al vs, B.le G H al → RpS K G al σ ρ → As K G H al μ → Rps K G al vs ds → ∀ Q, KS K G H al P Q → g vs σ H Q
/-- operations on values -/
def RO (r : R2) (x y : D) (μ : Mu) (P : D → Mu → Prop) : Prop := ∀ G H al v w, As K G H al μ → Rp K G al v x → Rp K G al w y → ∀ Q, KV K G H al P Q → r v w H Q
def RU (r : V → Hp → VK → Prop) (x : D) (μ : Mu) (P : D → Mu → Prop) : Prop := ∀ G H al v, As K G H al μ → Rp K G al v x → ∀ Q, KV K G H al P Q → r v H Q
def RC (r : List V → Hp → VK → Prop) (xs : List D) (μ : Mu) (P : D → Mu → Prop) : Prop := ∀ G H al vs, As K G H al μ → Rps K G al vs xs → ∀ Q, KV K G H al P Q → r vs H Q
def RM (r : V → List V → Hp → VK → Prop) (x : D) (xs : List D) (μ : Mu) (P : D → Mu → Prop) : Prop := ∀ G H al v vs, As K G H al μ → Rp K G al v x → Rps K G al vs xs → ∀ Q, KV K G H al P Q → r v vs H Q
def RS (r : V → Option Int → Option Int → Hp → VK → Prop) (x : D) (lo hi : Option Int) (μ : Mu) (P : D → Mu → Prop) : Prop := ∀ G H al v, As K G H al μ → Rp K G al v x → ∀ Q, KV K G H al P Q → r v lo hi H Q
def RSet (r : V → V → V → Hp → (Hp → Prop) → Prop) (o i d : D) (μ : Mu) (P : Mu → Prop) : Prop := ∀ G H al v w u, As K G H al μ → Rp K G al v o → Rp K G al w i → Rp K G al u d → ∀ Q : Hp → Prop, (∀ μ' G' H' al', Nx G H al G' H' al' → As K G' H' al' μ' → P μ' → Q H') → r v w u H Q
end
structure DEnds where
  nx : En → Mu → Prop
  rt : D → Mu → Prop
  bk : En → Mu → Prop := fun _ _ => False
  ct : En → Mu → Prop := fun _ _ => False
structure Ag (K : PySem.W.Frag) (G H : Hp) (al : List Addr) (P : DEnds) (De : Ends) : Prop where
  nx : KS K G H al P.nx De.nx
  rt : KV K G H al P.rt De.rt
  bk : KS K G H al P.bk De.bk
  ct : KS K G H al P.ct De.ct
def DS (K : PySem.W.Frag) (B : Bs) (t : TS) (ρ : En) (μ : Mu) (P : DEnds) : Prop := ∀ σ G H al, B.le G H al → RpS K G al σ ρ → As K G H al μ → ∀ De, Ag K G H al P De → t De σ H
section
variable {K : PySem.W.Frag} {B : Bs} {G H G1 H1 : Hp} {al al1 : List Addr}
theorem KV.nx {P : D → Mu → Prop} {Q : VK} (n : Nx G H al G1 H1 al1) (h : KV K G H al P Q) : KV K G1 H1 al1 P Q := fun v d μ' G' H' al' n' A r p => h v d μ' G' H' al' (n.trans n') A r p
theorem KT.nx {P : Bool → Mu → Prop} {Q : Bool → Hp → Prop} (n : Nx G H al G1 H1 al1) (h : KT K G H al P Q) : KT K G1 H1 al1 P Q := fun v μ' G' H' al' n' A p => h v μ' G' H' al' (n.trans n') A p
theorem KA.nx {P : List D → Mu → Prop} {Q : List V → Hp → Prop} (n : Nx G H al G1 H1 al1) (h : KA K G H al P Q) : KA K G1 H1 al1 P Q := fun v d μ' G' H' al' n' A r p => h v d μ' G' H' al' (n.trans n') A r p
theorem KS.nx {P : En → Mu → Prop} {Q : St → Hp → Prop} (n : Nx G H al G1 H1 al1) (h : KS K G H al P Q) : KS K G1 H1 al1 P Q := fun v d μ' G' H' al' n' A r p => h v d μ' G' H' al' (n.trans n') A r p
theorem Ag.nx' {P : DEnds} {De : Ends} (n : Nx G H al G1 H1 al1) (h : Ag K G H al P De) : Ag K G1 H1 al1 P De := ⟨h.nx.nx n, h.rt.nx n, h.bk.nx n, h.ct.nx n⟩
theorem KV.now {P : D → Mu → Prop} {Q : VK} {v : V} {d : D} {μ : Mu} (h : KV K G H al P Q) (A : As K G H al μ) (r : Rp K G al v d) (p : P d μ) : Q v H := h v d μ G H al .refl A r p
variable {ρ : En} {μ : Mu} {P : D → Mu → Prop} {ta tb te tc : TE}
/-! ### expressions -/
theorem DE.imp {P' : D → Mu → Prop} (h : DE K B te ρ μ P') (i : ∀ d μ', P' d μ' → P d μ') : DE K B te ρ μ P := fun σ G H al hB hσ hA Q hQ => h σ G H al hB hσ hA Q fun v d μ' G' H' al' n A r p => hQ v d μ' G' H' al' n A r (i d μ' p)
theorem de_var {i : Nat} {d : D} (e : ρ[i]? = some (some d)) (h : P d μ) : DE K B (tVar i) ρ μ P := fun σ G H al hB hσ hA Q hQ => by
  obtain ⟨v, e1, r⟩ := hσ.2 i d e
  exact ⟨v, e1, hQ.now hA r h⟩
theorem de_int {i : Int} (h : P (.int i) μ) : DE K B (tC (.int i)) ρ μ P := fun σ G H al hB hσ hA Q hQ => hQ.now hA (.int i) h
theorem de_bl {i : Bool} (h : P (.bl i) μ) : DE K B (tC (.bl i)) ρ μ P := fun σ G H al hB hσ hA Q hQ => hQ.now hA (.bl i) h
theorem de_non (h : P .non μ) : DE K B (tC .non) ρ μ P := fun σ G H al hB hσ hA Q hQ => hQ.now hA .non h
theorem de_str {x : Str} (h : P (.str x) μ) : DE K B (tC (.str x)) ρ μ P := fun σ G H al hB hσ hA Q hQ => hQ.now hA (.str x) h
theorem de_ty {x : String} (h : P (.ty x) μ) : DE K B (tC (.ty x)) ρ μ P := fun σ G H al hB hσ hA Q hQ => hQ.now hA (.ty x) h
theorem de_loc {x : Addr} (h : P (.loc x) μ) : DE K B (tC (.ref x)) ρ μ P := fun σ G H al hB hσ hA Q hQ => hQ.now hA (.loc x) h
theorem de_op {r : R2} (h : DE K B ta ρ μ fun x μ1 => DE K B tb ρ μ1 fun y μ2 => RO K r x y μ2 P) : DE K B (tOp r ta tb) ρ μ P := fun σ G H al hB hσ hA Q hQ =>
  h σ G H al hB hσ hA _ fun v d μ1 G1 H1 al1 n1 A1 r1 p1 => p1 σ G1 H1 al1 (hB.trans n1) (hσ.nx n1) A1 _ fun w e μ2 G2 H2 al2 n2 A2 r2 p2 => p2 G2 H2 al2 v w A2 (r1.nx n2) r2 Q (hQ.nx (n1.trans n2))
theorem de_un {r : V → Hp → VK → Prop} (h : DE K B ta ρ μ fun x μ1 => RU K r x μ1 P) : DE K B (tUn r ta) ρ μ P := fun σ G H al hB hσ hA Q hQ =>
  h σ G H al hB hσ hA _ fun v d μ1 G1 H1 al1 n1 A1 r1 p1 => p1 G1 H1 al1 v A1 r1 Q (hQ.nx n1)
theorem de_chain {r r' : R2} (h : DE K B ta ρ μ fun x μ1 => DE K B tb ρ μ1 fun y μ2 => RO K r x y μ2 fun z μ3 => ∃ b, z = .bl b ∧ (b = true → DE K B tc ρ μ3 fun w μ4 => RO K r' y w μ4 P) ∧ (b = false → P (.bl false) μ3)) :
    DE K B (tChain r r' ta tb tc) ρ μ P := fun σ G H al hB hσ hA Q hQ =>
  h σ G H al hB hσ hA _ fun v d μ1 G1 H1 al1 n1 A1 r1 p1 => p1 σ G1 H1 al1 (hB.trans n1) (hσ.nx n1) A1 _ fun w e μ2 G2 H2 al2 n2 A2 r2 p2 =>
    p2 G2 H2 al2 v w A2 (r1.nx n2) r2 _ fun z dz μ3 G3 H3 al3 n3 A3 r3 p3 => by
      obtain ⟨b, rfl, pt, pf⟩ := p3
      cases r3
      refine ⟨b, rfl, ?_⟩
      cases b with
      | true =>
        rw [if_pos rfl]
        exact pt rfl σ G3 H3 al3 ((hB.trans n1).trans (n2.trans n3)) (((hσ.nx n1).nx n2).nx n3) A3 _ fun u du μ4 G4 H4 al4 n4 A4 r4 p4 => p4 G4 H4 al4 w u A4 ((r2.nx n3).nx n4) r4 Q (hQ.nx (((n1.trans n2).trans n3).trans n4))
      | false =>
        rw [if_neg (by simp)]
        exact hQ (.bl false) _ μ3 G3 H3 al3 ((n1.trans n2).trans n3) A3 (.bl _) (pf rfl)
theorem de_andV (h : DE K B ta ρ μ fun x μ1 => ∃ b, x = .bl b ∧ (b = true → DE K B tb ρ μ1 P) ∧ (b = false → P (.bl false) μ1)) : DE K B (tAndV ta tb) ρ μ P := fun σ G H al hB hσ hA Q hQ =>
  h σ G H al hB hσ hA _ fun v d μ1 G1 H1 al1 n1 A1 r1 p1 => by
    obtain ⟨b, rfl, pt, pf⟩ := p1
    cases r1
    refine ⟨b, rfl, ?_⟩
    cases b with
    | true => rw [if_pos rfl]; exact pt rfl σ G1 H1 al1 (hB.trans n1) (hσ.nx n1) A1 Q (hQ.nx n1)
    | false => rw [if_neg (by simp)]; exact hQ (.bl false) _ μ1 G1 H1 al1 n1 A1 (.bl _) (pf rfl)
theorem de_orV (h : DE K B ta ρ μ fun x μ1 => ∃ b, x = .bl b ∧ (b = false → DE K B tb ρ μ1 P) ∧ (b = true → P (.bl true) μ1)) : DE K B (tOrV ta tb) ρ μ P := fun σ G H al hB hσ hA Q hQ =>
  h σ G H al hB hσ hA _ fun v d μ1 G1 H1 al1 n1 A1 r1 p1 => by
    obtain ⟨b, rfl, pt, pf⟩ := p1
    cases r1
    refine ⟨b, rfl, ?_⟩
    cases b with
    | false => rw [if_neg (by simp)]; exact pt rfl σ G1 H1 al1 (hB.trans n1) (hσ.nx n1) A1 Q (hQ.nx n1)
    | true => rw [if_pos rfl]; exact hQ (.bl true) _ μ1 G1 H1 al1 n1 A1 (.bl _) (pf rfl)
theorem de_notV (h : DE K B ta ρ μ fun x μ1 => ∃ b, x = .bl b ∧ P (.bl (!b)) μ1) : DE K B (tNotV ta) ρ μ P := fun σ G H al hB hσ hA Q hQ =>
  h σ G H al hB hσ hA _ fun v d μ1 G1 H1 al1 n1 A1 r1 p1 => by
    obtain ⟨b, rfl, pt⟩ := p1
    cases r1
    exact ⟨b, rfl, hQ _ _ μ1 G1 H1 al1 n1 A1 (.bl _) pt⟩
theorem de_if {t : TT} (h : DT K B t ρ μ fun b μ1 => (b = true → DE K B ta ρ μ1 P) ∧ (b = false → DE K B tb ρ μ1 P)) : DE K B (tIf t ta tb) ρ μ P := fun σ G H al hB hσ hA Q hQ =>
  h σ G H al hB hσ hA _ fun b μ1 G1 H1 al1 n1 A1 p1 => by
    cases b with
    | true => rw [if_pos rfl]; exact p1.1 rfl σ G1 H1 al1 (hB.trans n1) (hσ.nx n1) A1 Q (hQ.nx n1)
    | false => rw [if_neg (by simp)]; exact p1.2 rfl σ G1 H1 al1 (hB.trans n1) (hσ.nx n1) A1 Q (hQ.nx n1)
theorem de_isN (h : DE K B ta ρ μ fun x μ1 => ∃ b, (b = true ↔ x = .non) ∧ P (.bl b) μ1) : DE K B (tIsN ta) ρ μ P := fun σ G H al hB hσ hA Q hQ =>
  h σ G H al hB hσ hA _ fun v d μ1 G1 H1 al1 n1 A1 r1 p1 => by
    obtain ⟨b, hb, p⟩ := p1
    have e : decide (v = .non) = b := by
      cases d with
      | non => cases r1; simp at hb; simp [hb]
      | _ => cases r1 <;> simp at hb <;> simp [hb]
    rw [e]
    exact hQ _ _ μ1 G1 H1 al1 n1 A1 (.bl _) p
theorem de_notN (h : DE K B ta ρ μ fun x μ1 => ∃ b, (b = true ↔ x = .non) ∧ P (.bl (!b)) μ1) : DE K B (tNotN ta) ρ μ P := fun σ G H al hB hσ hA Q hQ =>
  h σ G H al hB hσ hA _ fun v d μ1 G1 H1 al1 n1 A1 r1 p1 => by
    obtain ⟨b, hb, p⟩ := p1
    have e : decide (v = .non) = b := by
      cases d with
      | non => cases r1; simp at hb; simp [hb]
      | _ => cases r1 <;> simp at hb <;> simp [hb]
    rw [e]
    exact hQ _ _ μ1 G1 H1 al1 n1 A1 (.bl _) p
/-! tests -/
variable {PT' : Bool → Mu → Prop} {t u : TT}
theorem dt_test (h : DE K B te ρ μ fun x μ1 => ∃ b, x = .bl b ∧ PT' b μ1) : DT K B (tTest te) ρ μ PT' := fun σ G H al hB hσ hA Q hQ =>
  h σ G H al hB hσ hA _ fun v d μ1 G1 H1 al1 n1 A1 r1 p1 => by
    obtain ⟨b, rfl, p⟩ := p1
    cases r1
    exact ⟨b, rfl, hQ b μ1 G1 H1 al1 n1 A1 p⟩
theorem dt_B (h : DE K B te ρ μ fun x μ1 => ∃ b, x = .bl b ∧ PT' b μ1) : DT K B (tB te) ρ μ PT' := dt_test h
theorem dt_and (h : DT K B t ρ μ fun b μ1 => (b = true → DT K B u ρ μ1 PT') ∧ (b = false → PT' false μ1)) : DT K B (tAnd t u) ρ μ PT' := fun σ G H al hB hσ hA Q hQ =>
  h σ G H al hB hσ hA _ fun b μ1 G1 H1 al1 n1 A1 p1 => by
    cases b with
    | true => rw [if_pos rfl]; exact p1.1 rfl σ G1 H1 al1 (hB.trans n1) (hσ.nx n1) A1 Q (hQ.nx n1)
    | false => rw [if_neg (by simp)]; exact hQ false μ1 G1 H1 al1 n1 A1 (p1.2 rfl)
theorem dt_or (h : DT K B t ρ μ fun b μ1 => (b = false → DT K B u ρ μ1 PT') ∧ (b = true → PT' true μ1)) : DT K B (tOr t u) ρ μ PT' := fun σ G H al hB hσ hA Q hQ =>
  h σ G H al hB hσ hA _ fun b μ1 G1 H1 al1 n1 A1 p1 => by
    cases b with
    | false => rw [if_neg (by simp)]; exact p1.1 rfl σ G1 H1 al1 (hB.trans n1) (hσ.nx n1) A1 Q (hQ.nx n1)
    | true => rw [if_pos rfl]; exact hQ true μ1 G1 H1 al1 n1 A1 (p1.2 rfl)
theorem dt_not (h : DT K B t ρ μ fun b μ1 => PT' (!b) μ1) : DT K B (tNot t) ρ μ PT' := fun σ G H al hB hσ hA Q hQ =>
  h σ G H al hB hσ hA _ fun b μ1 G1 H1 al1 n1 A1 p1 => hQ (!b) μ1 G1 H1 al1 n1 A1 p1
/-! arguments -/
variable {PA' : List D → Mu → Prop} {tr : TA}
theorem da_nil (h : PA' [] μ) : DA K B tNil ρ μ PA' := fun σ G H al hB hσ hA Q hQ => hQ [] [] μ G H al .refl hA .nil h
theorem da_cons (h : DE K B ta ρ μ fun x μ1 => DA K B tr ρ μ1 fun xs μ2 => PA' (x :: xs) μ2) : DA K B (tCons ta tr) ρ μ PA' := fun σ G H al hB hσ hA Q hQ =>
  h σ G H al hB hσ hA _ fun v d μ1 G1 H1 al1 n1 A1 r1 p1 => p1 σ G1 H1 al1 (hB.trans n1) (hσ.nx n1) A1 _ fun vs ds μ2 G2 H2 al2 n2 A2 r2 p2 => hQ (v :: vs) (d :: ds) μ2 G2 H2 al2 (n1.trans n2) A2 (.cons (r1.nx n2) r2) p2
theorem de_tup {ts : TA} (h : DA K B ts ρ μ fun xs μ1 => xs.length ≤ 100000 ∧ P (.tup xs) μ1) : DE K B (tTup ts) ρ μ P := fun σ G H al hB hσ hA Q hQ =>
  h σ G H al hB hσ hA _ fun vs ds μ1 G1 H1 al1 n1 A1 r1 p1 => by
    refine ⟨by rw [r1.length]; exact Nat.le_trans p1.1 (by decide), fun p hp => ?_⟩
    obtain ⟨A2, n2⟩ := A1.frz (o := .tup vs) hp
    exact hQ _ _ μ1 _ _ al1 (n1.trans n2) A2 (.tup upd_same (r1.nx n2)) p1.2
/-- a list, frozen at once -/
theorem de_lst {ts : TA} (h : DA K B ts ρ μ fun xs μ1 => xs.length ≤ 100000 ∧ P (.lst xs) μ1) : DE K B (tLst ts) ρ μ P := fun σ G H al hB hσ hA Q hQ =>
  h σ G H al hB hσ hA _ fun vs ds μ1 G1 H1 al1 n1 A1 r1 p1 => by
    refine ⟨by rw [r1.length]; exact Nat.le_trans p1.1 (by decide), fun p hp => ?_⟩
    obtain ⟨A2, n2⟩ := A1.frz (o := .lst vs) hp
    exact hQ _ _ μ1 _ _ al1 (n1.trans n2) A2 (.lst upd_same (r1.nx n2)) p1.2
/-- a list that will change -/
theorem de_lstO {ts : TA} (h : DA K B ts ρ μ fun xs μ1 => xs.length ≤ 100000 ∧ P (.own μ1.length) (μ1 ++ [.lst xs])) : DE K B (tLst ts) ρ μ P := fun σ G H al hB hσ hA Q hQ =>
  h σ G H al hB hσ hA _ fun vs ds μ1 G1 H1 al1 n1 A1 r1 p1 => by
    refine ⟨by rw [r1.length]; exact Nat.le_trans p1.1 (by decide), fun p hp => ?_⟩
    obtain ⟨A2, n2⟩ := A1.own (o := .lst vs) (m := .lst ds) hp ⟨A1.sub.free hp, vs, upd_same, r1.mono (Same.refl _) ⟨[p], rfl⟩⟩
    exact hQ _ _ _ _ _ _ (n1.trans n2) A2 (.own (by rw [← A1.len]; simp)) p1.2
/-- .. is frozen as it is handed on -/
theorem de_frz {te : TE} (h : DE K B te ρ μ fun x μ1 => ∃ k ds, x = .own k ∧ μ1[k]? = some (.lst ds) ∧ P (.lst ds) (μ1.set k .dead)) : DE K B te ρ μ P := fun σ G H al hB hσ hA Q hQ =>
  h σ G H al hB hσ hA _ fun v d μ1 G1 H1 al1 n1 A1 r1 p1 => by
    obtain ⟨k, ds, rfl, hk, p⟩ := p1
    obtain ⟨a, ha, ok⟩ := A1.get hk
    cases r1 with
    | own e =>
      rw [ha] at e
      cases e
      obtain ⟨ga, vs, hv, rv⟩ := ok
      obtain ⟨A2, n2⟩ := A1.freeze ha hv ga
      exact hQ _ _ _ _ _ _ (n1.trans n2) A2 (.lst upd_same (rv.nx n2)) p
theorem de_cb {r : List V → Hp → VK → Prop} {ts : TA} (h : DA K B ts ρ μ fun xs μ1 => RC K r xs μ1 P) : DE K B (tCB r ts) ρ μ P := fun σ G H al hB hσ hA Q hQ =>
  h σ G H al hB hσ hA _ fun vs ds μ1 G1 H1 al1 n1 A1 r1 p1 => p1 G1 H1 al1 vs A1 r1 Q (hQ.nx n1)
theorem do_no {PO : Option Int → Mu → Prop} (h : PO none μ) : DO K B tNoPart ρ μ PO := fun σ G H al hB hσ hA Q hQ => hQ none μ G H al .refl hA h
theorem do_part {PO : Option Int → Mu → Prop} (h : DE K B te ρ μ fun x μ1 => ∃ i, x = .int i ∧ PO (some i) μ1) : DO K B (tPart te) ρ μ PO := fun σ G H al hB hσ hA Q hQ =>
  h σ G H al hB hσ hA _ fun v d μ1 G1 H1 al1 n1 A1 r1 p1 => by
    obtain ⟨i, rfl, p⟩ := p1
    cases r1
    exact ⟨i, rfl, hQ _ μ1 G1 H1 al1 n1 A1 p⟩
theorem de_sl {r : V → Option Int → Option Int → Hp → VK → Prop} {tl th : TO} (h : DE K B te ρ μ fun x μ1 => DO K B tl ρ μ1 fun lo μ2 => DO K B th ρ μ2 fun hi μ3 => RS K r x lo hi μ3 P) : DE K B (tSl r te tl th) ρ μ P := fun σ G H al hB hσ hA Q hQ =>
  h σ G H al hB hσ hA _ fun v d μ1 G1 H1 al1 n1 A1 r1 p1 => p1 σ G1 H1 al1 (hB.trans n1) (hσ.nx n1) A1 _ fun lo μ2 G2 H2 al2 n2 A2 p2 =>
    p2 σ G2 H2 al2 ((hB.trans n1).trans n2) ((hσ.nx n1).nx n2) A2 _ fun hi μ3 G3 H3 al3 n3 A3 p3 => p3 G3 H3 al3 v A3 ((r1.nx n2).nx n3) Q (hQ.nx ((n1.trans n2).trans n3))
/-! fields, methods of built-in types -/
theorem de_fld {f : Str} (h : DE K B te ρ μ fun x μ1 => ∃ C gs d, (x = .obj C gs ∨ ∃ k, x = .own k ∧ μ1[k]? = some (.ins C gs)) ∧ Cls K C ∧ NoAttr K C f ∧ gs.lookup f = some d ∧ P d μ1) : DE K B (tFld K te f) ρ μ P := fun σ G H al hB hσ hA Q hQ =>
  h σ G H al hB hσ hA _ fun v d μ1 G1 H1 al1 n1 A1 r1 p1 => by
    obtain ⟨C, gs, z, hx, cl, na, lk, p⟩ := p1
    rcases hx with rfl | ⟨k, rfl, hk⟩
    · cases r1 with
      | obj e rf =>
        obtain ⟨w, lw, rw'⟩ := rf.look lk
        exact ⟨_, C, _, _, w, rfl, A1.sub _ _ e, cl, na, lw, hQ _ _ μ1 _ _ _ n1 A1 rw' p⟩
    · obtain ⟨a, ha, ok⟩ := A1.get hk
      cases r1 with
      | own e =>
        rw [ha] at e
        cases e
        obtain ⟨ga, dx, fs, hv, rf⟩ := ok
        obtain ⟨w, lw, rw'⟩ := rf.look lk
        exact ⟨_, C, _, _, w, rfl, hv, cl, na, lw, hQ _ _ μ1 _ _ _ n1 A1 rw' p⟩
theorem de_bm {T : String} {r : V → List V → Hp → VK → Prop} {ts : TA} (h : DE K B te ρ μ fun x μ1 => (∀ G H al v, As K G H al μ1 → Rp K G al v x → tyV K T v H) ∧ DA K B ts ρ μ1 fun xs μ2 => RM K r x xs μ2 P) : DE K B (tBM K T r te ts) ρ μ P := fun σ G H al hB hσ hA Q hQ =>
  h σ G H al hB hσ hA _ fun v d μ1 G1 H1 al1 n1 A1 r1 p1 => ⟨p1.1 G1 H1 al1 v A1 r1, p1.2 σ G1 H1 al1 (hB.trans n1) (hσ.nx n1) A1 _ fun vs ds μ2 G2 H2 al2 n2 A2 r2 p2 => p2 G2 H2 al2 v vs A2 (r1.nx n2) r2 Q (hQ.nx (n1.trans n2))⟩
theorem de_bm0 {T : String} {r : V → List V → Hp → VK → Prop} (h : DE K B te ρ μ fun x μ1 => (∀ G H al v, As K G H al μ1 → Rp K G al v x → tyV K T v H) ∧ RM K r x [] μ1 P) : DE K B (tBM0 K T r te) ρ μ P := fun σ G H al hB hσ hA Q hQ =>
  h σ G H al hB hσ hA _ fun v d μ1 G1 H1 al1 n1 A1 r1 p1 => ⟨p1.1 G1 H1 al1 v A1 r1, p1.2 G1 H1 al1 v [] A1 r1 .nil Q (hQ.nx n1)⟩
end
theorem set_id {α : Type} : ∀ {l : List α} {i : Nat} {x : α}, l[i]? = some x → l.set i x = l
  | [], _, _, h => by simp at h
  | a :: r, 0, x, h => by simp at h; subst h; rfl
  | a :: r, i + 1, x, h => by simp at h; simp [set_id h]
/-! ### targets, statements -/
section
variable {K : PySem.W.Frag} {B : Bs} {ρ : En} {μ : Mu} {P : DEnds} {te ta tb : TE} {t u : TS} {PG' : En → Mu → Prop}
theorem dg_name {i : Nat} {d : D} (h : PG' (ρ.set i (some d)) μ) : DG K B (gName i) d ρ μ PG' := fun σ G H al v hB hσ hA r Q hQ => hQ _ _ μ G H al .refl (hσ.set i r) hA h
theorem dgs_nil (h : PG' ρ μ) : DGs K B gNil [] ρ μ PG' := fun σ G H al vs hB hσ hA r Q hQ => by
  cases r
  exact ⟨rfl, hQ _ _ μ G H al .refl hσ hA h⟩
theorem dgs_cons {g : TG} {gs : TGs} {d : D} {ds : List D} (h : DG K B g d ρ μ fun ρ1 μ1 => DGs K B gs ds ρ1 μ1 PG') : DGs K B (gCons g gs) (d :: ds) ρ μ PG' := fun σ G H al vs hB hσ hA r Q hQ => by
  cases r with
  | cons r1 rs => exact ⟨_, _, rfl, h σ G H al _ hB hσ hA r1 _ fun σ1 ρ1 μ1 G1 H1 al1 n1 hσ1 A1 p1 => p1 σ1 G1 H1 al1 _ (hB.trans n1) hσ1 A1 (rs.nx n1) Q (hQ.nx n1)⟩
theorem dg_tup {n : Nat} {gs : TGs} {ds : List D} (hn : ds.length = n) (h : DGs K B gs ds ρ μ PG') : DG K B (gTup K n gs) (.tup ds) ρ μ PG' := fun σ G H al v hB hσ hA r Q hQ => by
  cases r with
  | tup e rs => exact ⟨_, _, rfl, .inl (.inl (hA.sub _ _ e)), rs.length.trans hn, h σ G H al _ hB hσ hA rs Q hQ⟩
theorem dg_sub {to ti : TE} {r : TSet} {d : D} (h : DE K B to ρ μ fun o μ1 => DE K B ti ρ μ1 fun i μ2 => RSet K r o i d μ2 fun μ3 => PG' ρ μ3) : DG K B (gSub to ti r) d ρ μ PG' := fun σ G H al v hB hσ hA rv Q hQ =>
  h σ G H al hB hσ hA _ fun vo o μ1 G1 H1 al1 n1 A1 r1 p1 => p1 σ G1 H1 al1 (hB.trans n1) (hσ.nx n1) A1 _ fun vi i μ2 G2 H2 al2 n2 A2 r2 p2 =>
    p2 G2 H2 al2 vo vi v A2 (r1.nx n2) r2 ((rv.nx n1).nx n2) _ fun μ3 G3 H3 al3 n3 A3 p3 => hQ _ _ μ3 G3 H3 al3 ((n1.trans n2).trans n3) (((hσ.nx n1).nx n2).nx n3) A3 p3
theorem ds_next (h : P.nx ρ μ) : DS K B tNext ρ μ P := fun σ G H al hB hσ hA De hD => hD.nx _ _ μ G H al .refl hσ hA h
theorem ds_seq (h : DS K B t ρ μ { P with nx := fun ρ1 μ1 => DS K B u ρ1 μ1 P }) : DS K B (tSeq t u) ρ μ P := fun σ G H al hB hσ hA De hD =>
  h σ G H al hB hσ hA _ ⟨fun σ1 ρ1 μ1 G1 H1 al1 n1 hσ1 A1 p1 => p1 σ1 G1 H1 al1 (hB.trans n1) hσ1 A1 De (hD.nx' n1), hD.rt, hD.bk, hD.ct⟩
/-- a statement behind which the ways meet again -/
theorem ds_cut {M : En → Mu → Prop} (h : DS K B t ρ μ { P with nx := M }) (k : ∀ ρ1 μ1, M ρ1 μ1 → DS K B u ρ1 μ1 P) : DS K B (tSeq t u) ρ μ P := fun σ G H al hB hσ hA De hD =>
  h σ G H al hB hσ hA _ ⟨fun σ1 ρ1 μ1 G1 H1 al1 n1 hσ1 A1 p1 => k ρ1 μ1 p1 σ1 G1 H1 al1 (hB.trans n1) hσ1 A1 De (hD.nx' n1), hD.rt, hD.bk, hD.ct⟩
theorem ds_asg {g : TG} (h : DE K B te ρ μ fun d μ1 => DG K B g d ρ μ1 P.nx) : DS K B (tAsg te g) ρ μ P := fun σ G H al hB hσ hA De hD =>
  h σ G H al hB hσ hA _ fun v d μ1 G1 H1 al1 n1 A1 r1 p1 => p1 σ G1 H1 al1 v (hB.trans n1) (hσ.nx n1) A1 r1 _ (hD.nx.nx n1)
theorem ds_set {i : Nat} (h : DE K B te ρ μ fun d μ1 => P.nx (ρ.set i (some d)) μ1) : DS K B (tAsg te (gName i)) ρ μ P := ds_asg (h.imp fun d μ1 p => dg_name p)
theorem ds_drop (h : DE K B te ρ μ fun d μ1 => P.nx ρ μ1) : DS K B (tDrop te) ρ μ P := fun σ G H al hB hσ hA De hD =>
  h σ G H al hB hσ hA _ fun v d μ1 G1 H1 al1 n1 A1 r1 p1 => hD.nx _ _ μ1 G1 H1 al1 n1 (hσ.nx n1) A1 p1
theorem ds_ret (h : DE K B te ρ μ P.rt) : DS K B (tRet te) ρ μ P := fun σ G H al hB hσ hA De hD => h σ G H al hB hσ hA _ hD.rt
theorem ds_retN (h : P.rt .non μ) : DS K B tRetN ρ μ P := fun σ G H al hB hσ hA De hD => hD.rt _ _ μ G H al .refl hA .non h
theorem ds_if {c : TT} (h : DT K B c ρ μ fun b μ1 => (b = true → DS K B t ρ μ1 P) ∧ (b = false → DS K B u ρ μ1 P)) : DS K B (tIfS c t u) ρ μ P := fun σ G H al hB hσ hA De hD =>
  h σ G H al hB hσ hA _ fun b μ1 G1 H1 al1 n1 A1 p1 => by
    cases b with
    | true => rw [if_pos rfl]; exact p1.1 rfl σ G1 H1 al1 (hB.trans n1) (hσ.nx n1) A1 De (hD.nx' n1)
    | false => rw [if_neg (by simp)]; exact p1.2 rfl σ G1 H1 al1 (hB.trans n1) (hσ.nx n1) A1 De (hD.nx' n1)
theorem ds_par {i j : Nat} {ts : TA} (h : DA K B ts ρ μ fun ds μ1 => ∃ x y, ds = [x, y] ∧ P.nx ((ρ.set i (some x)).set j (some y)) μ1) : DS K B (tPar i j ts) ρ μ P := fun σ G H al hB hσ hA De hD =>
  h σ G H al hB hσ hA _ fun vs ds μ1 G1 H1 al1 n1 A1 r1 p1 => by
    obtain ⟨x, y, rfl, p⟩ := p1
    cases r1 with
    | cons rx r2 => cases r2 with
      | cons ry r3 =>
        cases r3
        exact ⟨_, _, rfl, hD.nx _ _ μ1 G1 H1 al1 n1 (((hσ.nx n1).set i rx).set j ry) A1 p⟩
theorem ds_aug {i : Nat} {r : TIp} {x : D} (e : ρ[i]? = some (some x)) (h : DE K B te ρ μ fun y μ1 => RO K r x y μ1 fun z μ2 => P.nx (ρ.set i (some z)) μ2) : DS K B (tAug i te r) ρ μ P := fun σ G H al hB hσ hA De hD => by
  obtain ⟨v, e1, r1⟩ := hσ.2 i x e
  refine ⟨v, e1, h σ G H al hB hσ hA _ fun w y μ1 G1 H1 al1 n1 A1 r2 p1 => p1 G1 H1 al1 v w A1 (r1.nx n1) r2 _ fun z dz μ2 G2 H2 al2 n2 A2 r3 p2 => ?_⟩
  exact hD.nx _ _ μ2 G2 H2 al2 (n1.trans n2) (((hσ.nx n1).nx n2).set i r3) A2 p2
theorem ds_fld {f : Str} (h : DE K B tb ρ μ fun y μ1 => DE K B ta ρ μ1 fun x μ2 => ∃ k C gs, x = .own k ∧ μ2[k]? = some (.ins C gs) ∧ Cls K C ∧ NoAttr K C f ∧ gs.length < 1000 ∧ P.nx ρ (μ2.set k (.ins C (putD f y gs)))) : DS K B (sFld K ta tb f) ρ μ P := fun σ G H al hB hσ hA De hD =>
  h σ G H al hB hσ hA _ fun vy y μ1 G1 H1 al1 n1 A1 r1 p1 => p1 σ G1 H1 al1 (hB.trans n1) (hσ.nx n1) A1 _ fun vx x μ2 G2 H2 al2 n2 A2 r2 p2 => by
    obtain ⟨k, C, gs, rfl, hk, cl, na, hl, p⟩ := p2
    obtain ⟨a, ha, ok⟩ := A2.get hk
    cases r2 with
    | own e =>
      rw [ha] at e
      cases e
      obtain ⟨ga, dx, fs, hv, rf⟩ := ok
      obtain ⟨A3, n3⟩ := A2.put (o := .ins C dx (putF f vy fs)) (m' := .ins C (putD f y gs)) ha hk (by simp) ⟨ga, dx, _, upd_same, rf.put f (r1.nx n2)⟩
      exact ⟨_, C, dx, fs, rfl, hv, cl, na, by rw [rf.length]; exact hl, hD.nx _ _ _ _ _ _ ((n1.trans n2).trans n3) (((hσ.nx n1).nx n2).nx n3) A3 p⟩
theorem ds_fldAug {f : Str} {r : V → V → Hp → VK → Prop} (h : DE K B ta ρ μ fun x μ1 => ∃ k C gs d, x = .own k ∧ μ1[k]? = some (.ins C gs) ∧ Cls K C ∧ NoAttr K C f ∧ gs.lookup f = some d ∧
      DE K B tb ρ μ1 fun y μ2 => RO K r d y μ2 fun z μ3 => ∃ gs', μ3[k]? = some (.ins C gs') ∧ gs'.length < 1000 ∧ P.nx ρ (μ3.set k (.ins C (putD f z gs')))) : DS K B (sFldAug K ta tb r f) ρ μ P := fun σ G H al hB hσ hA De hD =>
  h σ G H al hB hσ hA _ fun vx x μ1 G1 H1 al1 n1 A1 r1 p1 => by
    obtain ⟨k, C, gs, d, rfl, hk, cl, na, lk, p⟩ := p1
    obtain ⟨a, ha, ok⟩ := A1.get hk
    cases r1 with
    | own e =>
      rw [ha] at e
      cases e
      obtain ⟨ga, dx, fs, hv, rf⟩ := ok
      obtain ⟨w, lw, rw'⟩ := rf.look lk
      refine ⟨_, C, dx, fs, w, rfl, hv, cl, na, lw, p σ G1 H1 al1 (hB.trans n1) (hσ.nx n1) A1 _ fun vy y μ2 G2 H2 al2 n2 A2 r2 p2 => p2 G2 H2 al2 w vy A2 (rw'.nx n2) r2 _ fun vz z μ3 G3 H3 al3 n3 A3 r3 p3 => ?_⟩
      obtain ⟨gs', hk3, hl, p⟩ := p3
      obtain ⟨a3, ha3, ok3⟩ := A3.get hk3
      have ea : a3 = _ := Option.some.inj (ha3.symm.trans (n3.p.get (n2.p.get ha)))
      subst ea
      obtain ⟨ga3, dx3, fs3, hv3, rf3⟩ := ok3
      obtain ⟨A4, n4⟩ := A3.put (o := .ins C dx3 (putF f vz fs3)) (m' := .ins C (putD f z gs')) ha3 hk3 (by simp) ⟨ga3, dx3, _, upd_same, rf3.put f r3⟩
      exact ⟨dx3, fs3, hv3, by rw [rf3.length]; exact hl, hD.nx _ _ _ _ _ _ (((n1.trans n2).trans n3).trans n4) ((((hσ.nx n1).nx n2).nx n3).nx n4) A4 p⟩
/-- a list that a slot holds is frozen -/
theorem ds_freeze {i k : Nat} {ds : List D} (hi : ρ[i]? = some (some (.own k))) (hk : μ[k]? = some (.lst ds)) (h : DS K B t (ρ.set i (some (.lst ds))) (μ.set k .dead) P) : DS K B t ρ μ P := fun σ G H al hB hσ hA De hD => by
  obtain ⟨v, e1, r1⟩ := hσ.2 i _ hi
  obtain ⟨a, ha, ok⟩ := hA.get hk
  cases r1 with
  | own e =>
    rw [ha] at e
    cases e
    obtain ⟨ga, vs, hv, rv⟩ := ok
    obtain ⟨A2, n2⟩ := hA.freeze ha hv ga
    refine h σ _ _ _ (hB.trans n2) ?_ A2 De (hD.nx' n2)
    rw [← set_id e1]
    exact (hσ.nx n2).set i (.lst upd_same (rv.nx n2))
end
end Dl
set_option Elab.async false
set_option linter.all false
set_option maxRecDepth 100000
namespace Dl
open PySem L2
/-! ### lists that are read -/
inductive Ls (μ : Mu) : D → List D → Prop
  | lst (ds : List D) : Ls μ (.lst ds) ds
  | rdl (ds : List D) : Ls μ (.rdl ds) ds
  | own {k : Nat} {ds : List D} (h : μ[k]? = some (.lst ds)) : Ls μ (.own k) ds
/-- .. and stand in the heap itself -/
inductive Lt (μ : Mu) : D → List D → Prop
  | lst (ds : List D) : Lt μ (.lst ds) ds
  | own {k : Nat} {ds : List D} (h : μ[k]? = some (.lst ds)) : Lt μ (.own k) ds
inductive Ts : D → List D → Prop
  | tup (ds : List D) : Ts (.tup ds) ds
  | rdt (ds : List D) : Ts (.rdt ds) ds
section
variable {K : PySem.W.Frag} {G H : Hp} {al : List Addr} {μ : Mu} {v : V} {d : D} {ds : List D}
theorem Lt.get (h : Lt μ d ds) (A : As K G H al μ) (r : Rp K G al v d) : ∃ a vs, v = .ref a ∧ H a = some (.lst vs) ∧ Rps K G al vs ds := by
  cases h with
  | lst => cases r with | lst e rs => exact ⟨_, _, rfl, A.sub _ _ e, rs⟩
  | own hk =>
    obtain ⟨a, ha, ga, vs, hv, rs⟩ := A.get hk
    cases r with
    | own e => rw [ha] at e; cases e; exact ⟨_, vs, rfl, hv, rs⟩
theorem Ls.get (h : Ls μ d ds) (A : As K G H al μ) (r : Rp K G al v d) : ∃ a vs, v = .ref a ∧ SqL K H a vs ∧ Rps K G al vs ds := by
  cases h with
  | lst => cases r with | lst e rs => exact ⟨_, _, rfl, .inl (.inl (A.sub _ _ e)), rs⟩
  | rdl => cases r with | rdl e rs => exact ⟨_, _, rfl, sql_mono A.sub e, rs⟩
  | own hk =>
    obtain ⟨a, ha, ga, vs, hv, rs⟩ := A.get hk
    cases r with
    | own e => rw [ha] at e; cases e; exact ⟨_, vs, rfl, .inl (.inl hv), rs⟩
theorem Ts.get (h : Ts d ds) (A : As K G H al μ) (r : Rp K G al v d) : ∃ a vs, v = .ref a ∧ SqT K H a vs ∧ Rps K G al vs ds := by
  cases h with
  | tup => cases r with | tup e rs => exact ⟨_, _, rfl, .inl (.inl (A.sub _ _ e)), rs⟩
  | rdt => cases r with | rdt e rs => exact ⟨_, _, rfl, sqt_mono A.sub e, rs⟩
end
theorem rps_cons {K : PySem.W.Frag} {G : Hp} {al : List Addr} {vs : List V} {d : D} {ds : List D} (h : Rps K G al vs (d :: ds)) : ∃ v ws, vs = v :: ws ∧ Rp K G al v d ∧ Rps K G al ws ds := by
  cases h with | cons r t => exact ⟨_, _, rfl, r, t⟩
theorem rps1 {K : PySem.W.Frag} {G : Hp} {al : List Addr} {vs : List V} {d : D} (h : Rps K G al vs [d]) : ∃ v, vs = [v] ∧ Rp K G al v d := by
  obtain ⟨v, ws, rfl, r, t⟩ := rps_cons h
  cases t; exact ⟨v, rfl, r⟩
theorem rps2 {K : PySem.W.Frag} {G : Hp} {al : List Addr} {vs : List V} {d e : D} (h : Rps K G al vs [d, e]) : ∃ v w, vs = [v, w] ∧ Rp K G al v d ∧ Rp K G al w e := by
  obtain ⟨v, ws, rfl, r, t⟩ := rps_cons h
  obtain ⟨w, rfl, q⟩ := rps1 t
  exact ⟨v, w, rfl, r, q⟩
/-- an item by an index of any sign -/
theorem atI_rps {K : PySem.W.Frag} {G : Hp} {al : List Addr} {vs : List V} {ds : List D} {i : Int} {d : D} (h : Rps K G al vs ds) (e : atI ds i = some d) : ∃ v, atI vs i = some v ∧ Rp K G al v d := by
  unfold atI at e ⊢
  rw [h.length]
  cases q : ixN ds.length i with
  | none => rw [q] at e; cases e
  | some j =>
    rw [q] at e
    exact h.get e
def cutD (xs : List D) (lo hi : Option Int) : List D := (xs.drop (HT.sIx xs.length 0 lo)).take (HT.sIx xs.length xs.length hi - HT.sIx xs.length 0 lo)
theorem cut_rps {K : PySem.W.Frag} {G : Hp} {al : List Addr} {vs : List V} {ds : List D} (h : Rps K G al vs ds) (lo hi : Option Int) : Rps K G al (cutV vs lo hi) (cutD ds lo hi) := by
  unfold cutV cutD
  rw [h.length]
  exact (h.drop _).take _
section
variable {K : PySem.W.Frag} {μ : Mu} {P : D → Mu → Prop} {i j : Int} {x y d : D} {ds es : List D}
/-! ### numbers -/
theorem ro_i {f : Int → Int → Int} (h : P (.int (f i j)) μ) : RO K (rI0 fun i j => .int (f i j)) (.int i) (.int j) μ P := fun G H al v w A r1 r2 Q hQ => by
  cases r1; cases r2
  exact ⟨i, j, rfl, rfl, hQ.now A (.int _) h⟩
theorem ro_b {f : Int → Int → Bool} (h : P (.bl (f i j)) μ) : RO K (rI0 fun i j => .bl (f i j)) (.int i) (.int j) μ P := fun G H al v w A r1 r2 Q hQ => by
  cases r1; cases r2
  exact ⟨i, j, rfl, rfl, hQ.now A (.bl _) h⟩
theorem ro_ic {C : Int → Int → Prop} {f : Int → Int → Int} (hc : C i j) (h : P (.int (f i j)) μ) : RO K (rI C fun i j => .int (f i j)) (.int i) (.int j) μ P := fun G H al v w A r1 r2 Q hQ => by
  cases r1; cases r2
  exact ⟨i, j, rfl, rfl, hc, hQ.now A (.int _) h⟩
theorem ro_ip {f : Int → Int → Int} (h : P (.int (f i j)) μ) : RO K (ipI f) (.int i) (.int j) μ P := fun G H al v w A r1 r2 Q hQ => by
  cases r1; cases r2
  exact ⟨i, j, rfl, rfl, hQ.now A (.int _) h⟩
theorem ro_add (h : P (.int (i + j)) μ) : RO K rAdd (.int i) (.int j) μ P := fun G H al v w A r1 r2 Q hQ => by
  cases r1; cases r2
  exact ⟨i, j, rfl, rfl, hQ.now A (.int _) h⟩
theorem ru_i {f : Int → Int} (h : P (.int (f i)) μ) : RU K (rU fun i => .int (f i)) (.int i) μ P := fun G H al v A r1 Q hQ => by
  cases r1
  exact ⟨i, rfl, hQ.now A (.int _) h⟩
theorem rc_max2 (h : P (.int (max i j)) μ) : RC K (fun xs H Q => ∃ i j, xs = [.int i, .int j] ∧ Q (.int (if j > i then j else i)) H) [.int i, .int j] μ P := fun G H al vs A r Q hQ => by
  obtain ⟨v, w, rfl, r1, r2⟩ := rps2 r
  cases r1; cases r2
  refine ⟨i, j, rfl, ?_⟩
  have e : (if j > i then j else i) = max i j := by rw [Int.max_def]; split <;> split <;> omega
  rw [e]
  exact hQ.now A (.int _) h
theorem rc_min2 (h : P (.int (min i j)) μ) : RC K (fun xs H Q => ∃ i j, xs = [.int i, .int j] ∧ Q (.int (if j < i then j else i)) H) [.int i, .int j] μ P := fun G H al vs A r Q hQ => by
  obtain ⟨v, w, rfl, r1, r2⟩ := rps2 r
  cases r1; cases r2
  refine ⟨i, j, rfl, ?_⟩
  have e : (if j < i then j else i) = min i j := by rw [Int.min_def]; split <;> split <;> omega
  rw [e]
  exact hQ.now A (.int _) h
/-! ### lengths, items, slices, joins -/
theorem rc_len (hl : Ls μ x ds) (h : P (.int (ds.length : Int)) μ) : RC K (fun xs H Q => ∃ x n, xs = [x] ∧ LenV K x H n ∧ Q (.int (n : Nat)) H) [x] μ P := fun G H al vs A r Q hQ => by
  obtain ⟨v, rfl, r1⟩ := rps1 r
  obtain ⟨a, ws, rfl, s, rs⟩ := hl.get A r1
  exact ⟨.ref a, ds.length, rfl, .inl ⟨ws, s, rs.length.symm⟩, hQ.now A (.int _) h⟩
theorem rc_lenT (hl : Ts x ds) (h : P (.int (ds.length : Int)) μ) : RC K (fun xs H Q => ∃ x n, xs = [x] ∧ LenV K x H n ∧ Q (.int (n : Nat)) H) [x] μ P := fun G H al vs A r Q hQ => by
  obtain ⟨v, rfl, r1⟩ := rps1 r
  obtain ⟨a, ws, rfl, s, rs⟩ := hl.get A r1
  exact ⟨.ref a, ds.length, rfl, .inr ⟨ws, s, rs.length.symm⟩, hQ.now A (.int _) h⟩
theorem rc_lenS {s : Str} (hs : s.length ≤ 100000) (h : P (.int (s.length : Int)) μ) : RC K (fun xs H Q => ∃ x n, xs = [x] ∧ LenV K x H n ∧ Q (.int (n : Nat)) H) [.str s] μ P := fun G H al vs A r Q hQ => by
  obtain ⟨v, rfl, r1⟩ := rps1 r
  cases r1
  exact ⟨.str s, s.length, rfl, ⟨Nat.le_trans hs (by decide), rfl⟩, hQ.now A (.int _) h⟩
theorem ro_ixL (hl : Ls μ x ds) (e : atI ds i = some d) (h : P d μ) : RO K (rIx K) x (.int i) μ P := fun G H al v w A r1 r2 Q hQ => by
  cases r2
  obtain ⟨a, ws, rfl, s, rs⟩ := hl.get A r1
  obtain ⟨z, ez, rz⟩ := atI_rps rs e
  exact .inl ⟨a, ws, i, z, rfl, rfl, s, ez, hQ.now A rz h⟩
theorem ro_ixT (hl : Ts x ds) (e : atI ds i = some d) (h : P d μ) : RO K (rIx K) x (.int i) μ P := fun G H al v w A r1 r2 Q hQ => by
  cases r2
  obtain ⟨a, ws, rfl, s, rs⟩ := hl.get A r1
  obtain ⟨z, ez, rz⟩ := atI_rps rs e
  exact .inr (.inl ⟨a, ws, i, z, rfl, rfl, s, ez, hQ.now A rz h⟩)
theorem ro_ixS {s : Str} {c : Nat} (hs : s.length ≤ 100000) (e : atI s.cps.toList i = some c) (h : P (.str ⟨#[c]⟩) μ) : RO K (rIx K) (.str s) (.int i) μ P := fun G H al v w A r1 r2 Q hQ => by
  cases r1; cases r2
  exact .inr (.inr ⟨s, i, c, rfl, rfl, Nat.le_trans hs (by decide), e, hQ.now A (.str _) h⟩)
theorem rs_lst {lo hi : Option Int} (hl : Ls μ x ds) (h : P (.lst (cutD ds lo hi)) μ) : RS K (rSlL K) x lo hi μ P := fun G H al v A r Q hQ => by
  obtain ⟨a, ws, rfl, s, rs⟩ := hl.get A r
  refine ⟨a, ws, rfl, s, fun p hp => ?_⟩
  obtain ⟨A2, n2⟩ := A.frz (o := .lst (cutV ws lo hi)) hp
  exact hQ _ _ μ _ _ _ n2 A2 (.lst upd_same ((cut_rps rs lo hi).nx n2)) h
theorem ro_cat (h1 : Lt μ x ds) (h2 : Lt μ y es) (hs : ds.length + es.length ≤ 100000) (h : P (.lst (ds ++ es)) μ) : RO K rCat x y μ P := fun G H al v w A r1 r2 Q hQ => by
  obtain ⟨a, ws, rfl, s1, rs1⟩ := h1.get A r1
  obtain ⟨b, us, rfl, s2, rs2⟩ := h2.get A r2
  refine ⟨a, b, ws, us, rfl, rfl, s1, s2, by rw [rs1.length, rs2.length]; exact Nat.le_trans hs (by decide), fun p hp => ?_⟩
  obtain ⟨A2, n2⟩ := A.frz (o := .lst (ws ++ us)) hp
  exact hQ _ _ μ _ _ _ n2 A2 (.lst upd_same ((rs1.append rs2).nx n2)) h
/-! ### lists that change -/
theorem ty_list (hl : Ls μ x ds) : ∀ G H al v, As K G H al μ → Rp K G al v x → tyV K "list" v H := fun G H al v A r => by
  obtain ⟨a, ws, rfl, s, rs⟩ := hl.get A r
  exact .inl ⟨rfl, ws, s⟩
theorem rm_app {k : Nat} (hk : μ[k]? = some (.lst ds)) (hs : ds.length < 100000) (h : P .non (μ.set k (.lst (ds ++ [d])))) : RM K rAppend (.own k) [d] μ P := fun G H al v vs A r rs Q hQ => by
  obtain ⟨a, ha, ga, ws, hv, rw'⟩ := A.get hk
  obtain ⟨u, rfl, ru⟩ := rps1 rs
  cases r with
  | own e =>
    rw [ha] at e; cases e
    refine ⟨a, ws, u, rfl, rfl, hv, by rw [rw'.length]; exact Nat.lt_of_lt_of_le hs (by decide), ?_⟩
    obtain ⟨A2, n2⟩ := A.put (o := .lst (ws ++ [u])) (m' := .lst (ds ++ [d])) ha hk (by simp) ⟨ga, _, upd_same, rw'.append (.cons ru .nil)⟩
    exact hQ _ _ _ _ _ _ n2 A2 .non h
theorem rset_lst {k j : Nat} {PM : Mu → Prop} (hk : μ[k]? = some (.lst ds)) (hj : ixN ds.length i = some j) (h : PM (μ.set k (.lst (ds.set j d)))) : RSet K rSetL (.own k) (.int i) d μ PM := fun G H al v w u A r1 r2 r3 Q hQ => by
  obtain ⟨a, ha, ga, ws, hv, rw'⟩ := A.get hk
  cases r2
  cases r1 with
  | own e =>
    rw [ha] at e; cases e
    obtain ⟨A2, n2⟩ := A.put (o := .lst (ws.set j u)) (m' := .lst (ds.set j d)) ha hk (by simp) ⟨ga, _, upd_same, rw'.set j r3⟩
    exact ⟨a, ws, i, j, rfl, rfl, hv, by rw [rw'.length]; exact hj, hQ _ _ _ _ n2 A2 h⟩
/-! ### sums, all, any -/
theorem rc_sum {ns : List Int} (hl : Ls μ x (ns.map D.int)) (h : P (.int ns.sum) μ) : RC K (rSum K) [x] μ P := fun G H al vs A r Q hQ => by
  obtain ⟨v, rfl, r1⟩ := rps1 r
  obtain ⟨a, ws, rfl, s, rs⟩ := hl.get A r1
  have e := rs.ints
  subst e
  exact ⟨a, ns, rfl, s, hQ.now A (.int _) h⟩
theorem rc_all {bs : List Bool} (hl : Ls μ x (bs.map D.bl)) (h : P (.bl (bs.all id)) μ) : RC K (rAll K) [x] μ P := fun G H al vs A r Q hQ => by
  obtain ⟨v, rfl, r1⟩ := rps1 r
  obtain ⟨a, ws, rfl, s, rs⟩ := hl.get A r1
  have e := rs.bools
  subst e
  exact ⟨a, bs, rfl, s, hQ.now A (.bl _) h⟩
end
/-! ### isinstance -/
/-- a built-in type's name -/
def tyD (μ : Mu) : D → Option String
  | .non => some "NoneType"
  | .bl _ => some "bool"
  | .int _ => some "int"
  | .str _ => some "str"
  | .tup _ => some "tuple"
  | .lst _ => some "list"
  | .rdl _ => some "list"
  | .rdt _ => some "tuple"
  | .dct _ => some "dict"
  | .own k => match μ[k]? with
    | some (.lst _) => some "list"
    | some (.dK _) => some "dict"
    | some (.dT _) => some "dict"
    | _ => none
  | _ => none
/-- what isinstance asks of an own class -/
structure ObT (K : PySem.W.Frag) (C : Addr) : Prop where
  cl : Cls K C
  ha : PySem.W.findIn K (.ref C) "__class__" = some (some (.builtin "object.__class__"))
  hn : PySem.W.specialIn K (.builtin "object.__class__") "__get__" = some (some (.builtin "getset_descriptor.__get__"))
  htk : PySem.W.takesIn K (.builtin "object.__class__") = some true
  hm : PySem.W.mroIn K C (.type "object") = some true
/-- the type of a datum as the deciders take it -/
inductive TyDV (K : PySem.W.Frag) (μ : Mu) : D → Value → Prop
  | ty {d : D} {n : String} (h : tyD μ d = some n) : TyDV K μ d (.type n)
  | obj {C : Addr} {gs : List (Str × D)} (o : ObT K C) : TyDV K μ (.obj C gs) (.ref C)
  | own {C : Addr} {gs : List (Str × D)} {k : Nat} (h : μ[k]? = some (.ins C gs)) (o : ObT K C) : TyDV K μ (.own k) (.ref C)
inductive ClD : D → Value → Prop
  | ty (n : String) : ClD (.ty n) (.type n)
  | loc (C : Addr) : ClD (.loc C) (.ref C)
theorem TyDV.tyx {K : PySem.W.Frag} {G H : Hp} {al : List Addr} {μ : Mu} {v : V} {d : D} {t : Value} (h : TyDV K μ d t) (A : As K G H al μ) (r : Rp K G al v d) : TyX K H v t := by
  cases h with
  | obj o =>
    cases r with
    | obj e rf => exact .base (.ins (A.sub _ _ e) o.cl o.ha o.hn o.htk o.hm)
  | own hk o =>
    obtain ⟨a, ha, ga, dx, fs, hv, rf⟩ := A.get hk
    cases r with
    | own e => rw [ha] at e; cases e; exact .base (.ins hv o.cl o.ha o.hn o.htk o.hm)
  | ty ht =>
    cases r with
    | non => cases ht; exact .base .non
    | bl b => cases ht; exact .base (.bl b)
    | int i => cases ht; exact .base (.int i)
    | str x => cases ht; exact .base (.str x)
    | ty n => cases ht
    | tup e rs => cases ht; exact .base (.tup (A.sub _ _ e))
    | lst e rs => cases ht; exact .base (.lst (A.sub _ _ e))
    | rdl e rs =>
      cases ht
      rcases e with (e | ⟨o, e⟩) | ⟨o, its, n, hk, hc, hd, hs, hz, _⟩
      · exact .base (.lst (A.sub _ _ e))
      · exact .base (.frz (A.sub _ _ e))
      · exact .kList hk hc
    | rdt e rs =>
      cases ht
      rcases e with (e | ⟨o, e⟩) | ⟨o, its, n, hk, hc, hs, hz, _⟩
      · exact .base (.tup (A.sub _ _ e))
      · exact .fTuple (A.sub _ _ e)
      · exact .kTuple hk hc
    | obj e rf => cases ht
    | dct e rf =>
      cases ht
      rcases e with e | ⟨o, e⟩
      · exact .base (.dK (A.sub _ _ e))
      · exact .fDict (A.sub _ _ e)
    | own e =>
      rename_i a k
      simp only [tyD] at ht
      cases hk : μ[k]? with
      | none => rw [hk] at ht; cases ht
      | some m =>
        rw [hk] at ht
        obtain ⟨a', ha, ok⟩ := A.get hk
        rw [ha] at e; cases e
        cases m with
        | lst ds => cases ht; obtain ⟨ga, vs, hv, _⟩ := ok; exact .base (.lst hv)
        | dK ds => cases ht; obtain ⟨ga, vs, hv, _⟩ := ok; exact .base (.dK hv)
        | dT ds => cases ht; obtain ⟨ga, vs, hv, _⟩ := ok; exact .base (.dT hv)
        | dead => cases ht
        | ins _ _ => cases ht
        | tab _ _ => cases ht
    | loc a => cases ht
    | exc _ _ _ => cases ht
section
variable {K : PySem.W.Frag} {μ : Mu} {P : D → Mu → Prop} {x c : D}
theorem rc_isi {t u : Value} {b : Bool} (ht : TyDV K μ x t) (hc : ClD c u) (hk : PySem.W.kitOne K t u = some b) (h : P (.bl b) μ) : RC K (rIsi K) [x, c] μ P := fun G H al vs A r Q hQ => by
  obtain ⟨v, w, rfl, r1, r2⟩ := rps2 r
  have tx := ht.tyx A r1
  cases hc with
  | ty n => cases r2; exact ⟨v, _, t, _, b, rfl, .ty n, tx, hk, hQ.now A (.bl b) h⟩
  | loc C => cases r2; exact ⟨v, _, t, _, b, rfl, .own C, tx, hk, hQ.now A (.bl b) h⟩
theorem rc_isiB {n m : String} {b : Bool} (ht : tyD μ x = some n) (hk : kitB n m = some b) (h : P (.bl b) μ) : RC K (rIsi K) [x, .ty m] μ P := rc_isi (.ty ht) (.ty m) (kit_ty hk) h
end
/-! ### == of data -/
mutual
def D.py : D → PyData
  | .non => .none
  | .bl b => .bool b
  | .int i => .int i
  | .str x => .str x
  | .ty _ => .none
  | .tup xs => .tuple (pyL xs)
  | .lst xs => .list (pyL xs)
  | .rdl xs => .list (pyL xs)
  | .rdt xs => .tuple (pyL xs)
  | .obj _ _ => .none
  | .dct _ => .none
  | .own _ => .none
  | .loc _ => .none
  | .exc _ _ => .none
def pyL : List D → List PyData
  | [] => []
  | x :: xs => D.py x :: pyL xs
end
mutual
/-- data that == goes through: how deep -/
def D.shp : D → Nat → Bool
  | .non, _ => true
  | .bl _, _ => true
  | .int _, _ => true
  | .str x, _ => PyData.strOk x
  | .tup xs, n => decide (0 < n) && shpL xs (n - 1)
  | .lst xs, n => decide (0 < n) && shpL xs (n - 1)
  | .rdl xs, n => decide (0 < n) && shpL xs (n - 1)
  | .rdt xs, n => decide (0 < n) && shpL xs (n - 1)
  | .ty _, _ => false
  | .obj _ _, _ => false
  | .dct _, _ => false
  | .own _, _ => false
  | .loc _, _ => false
  | .exc _ _, _ => false
def shpL : List D → Nat → Bool
  | [], _ => true
  | x :: xs, n => D.shp x n && shpL xs n
end
section
variable {K : PySem.W.Frag} {G H : Hp} {al : List Addr}
mutual
theorem dp_of (s : Same G H) : ∀ {d : D} {n : Nat} {v : V}, d.shp n = true → Rp K G al v d → Dp K H v d.py
  | .non, _, _, _, .non => by unfold D.py; exact .non
  | .bl _, _, _, _, .bl b => by unfold D.py; exact .bl b
  | .int _, _, _, _, .int i => by unfold D.py; exact .int i
  | .str _, _, _, _, .str x => by unfold D.py; exact .str x
  | .tup xs, n, _, h, .tup e r => by
    unfold D.py; unfold D.shp at h; simp at h
    exact .tup (.inl (.inl (s _ _ e))) (dpAll_of s h.2 r)
  | .lst xs, n, _, h, .lst e r => by
    unfold D.py; unfold D.shp at h; simp at h
    exact .lst (.inl (.inl (s _ _ e))) (dpAll_of s h.2 r)
  | .rdl xs, n, _, h, .rdl e r => by
    unfold D.py; unfold D.shp at h; simp at h
    exact .lst (sql_mono s e) (dpAll_of s h.2 r)
  | .rdt xs, n, _, h, .rdt e r => by
    unfold D.py; unfold D.shp at h; simp at h
    exact .tup (sqt_mono s e) (dpAll_of s h.2 r)
  | .ty _, _, _, h, _ => by unfold D.shp at h; cases h
  | .obj _ _, _, _, h, _ => by unfold D.shp at h; cases h
  | .dct _, _, _, h, _ => by unfold D.shp at h; cases h
  | .own _, _, _, h, _ => by unfold D.shp at h; cases h
  | .loc _, _, _, h, _ => by unfold D.shp at h; cases h
  | .exc _ _, _, _, h, _ => by unfold D.shp at h; cases h
theorem dpAll_of (s : Same G H) : ∀ {ds : List D} {n : Nat} {vs : List V}, shpL ds n = true → Rps K G al vs ds → DpAll K H vs (pyL ds)
  | [], _, _, _, .nil => by unfold pyL; exact .nil
  | d :: ds, n, _, h, .cons r t => by
    unfold pyL; unfold shpL at h; simp at h
    exact .cons (dp_of s h.1 r) (dpAll_of s h.2 t)
end
end
mutual
theorem can_of : ∀ {d : D} {n : Nat}, d.shp n = true → d.py.canLay0 = true ∧ d.py.depth ≤ n
  | .non, n, _ => by simp [D.py, PyData.canLay0, PyData.depth]
  | .bl _, n, _ => by simp [D.py, PyData.canLay0, PyData.depth]
  | .int _, n, _ => by simp [D.py, PyData.canLay0, PyData.depth]
  | .str x, n, h => by
    unfold D.shp at h
    simp [D.py, PyData.canLay0, PyData.depth, h]
  | .tup xs, n, h => by
    unfold D.shp at h; simp at h
    have q := canL_of h.2
    simp [D.py, PyData.canLay0, PyData.depth, q.1]
    omega
  | .lst xs, n, h => by
    unfold D.shp at h; simp at h
    have q := canL_of h.2
    simp [D.py, PyData.canLay0, PyData.depth, q.1]
    omega
  | .rdl xs, n, h => by
    unfold D.shp at h; simp at h
    have q := canL_of h.2
    simp [D.py, PyData.canLay0, PyData.depth, q.1]
    omega
  | .rdt xs, n, h => by
    unfold D.shp at h; simp at h
    have q := canL_of h.2
    simp [D.py, PyData.canLay0, PyData.depth, q.1]
    omega
  | .ty _, _, h => by unfold D.shp at h; cases h
  | .obj _ _, _, h => by unfold D.shp at h; cases h
  | .dct _, _, h => by unfold D.shp at h; cases h
  | .own _, _, h => by unfold D.shp at h; cases h
  | .loc _, _, h => by unfold D.shp at h; cases h
  | .exc _ _, _, h => by unfold D.shp at h; cases h
theorem canL_of : ∀ {ds : List D} {n : Nat}, shpL ds n = true → PyData.canLayAll0 (pyL ds) = true ∧ PyData.depthAll (pyL ds) ≤ n
  | [], n, _ => by simp [pyL, PyData.canLayAll0, PyData.depthAll]
  | d :: ds, n, h => by
    unfold shpL at h; simp at h
    have q1 := can_of h.1
    have q2 := canL_of h.2
    simp [pyL, PyData.canLayAll0, PyData.depthAll, q1.1, q2.1]
    have := q1.2; have := q2.2; omega
end
theorem shaped_of {d : D} {n : Nat} (hn : n ≤ 64) (h : d.shp n = true) : SeqAt.shaped d.py = true := by
  have q := can_of h
  unfold SeqAt.shaped
  simp [q.1]
  omega
theorem beq_dec {α : Type} [BEq α] [LawfulBEq α] [DecidableEq α] (a b : α) : (a == b) = decide (a = b) := by
  rw [Bool.eq_iff_iff, beq_iff_eq, decide_eq_true_eq]
/-- what == says of two data -/
def eqvD (x y : D) : Bool := PyData.eqv x.py y.py
def eqvL (xs ys : List D) : Bool := PyData.eqvAll (pyL xs) (pyL ys)
@[simp] theorem eqvD_int (i j : Int) : eqvD (.int i) (.int j) = decide (i = j) := by
  simp only [eqvD, D.py, PyData.eqv]
  exact beq_dec i j
@[simp] theorem eqvD_bl (i j : Bool) : eqvD (.bl i) (.bl j) = decide (i = j) := by
  simp only [eqvD, D.py, PyData.eqv]
  exact beq_dec i j
@[simp] theorem eqvD_str (i j : Str) : eqvD (.str i) (.str j) = decide (i = j) := by
  simp only [eqvD, D.py, PyData.eqv]
  exact beq_dec i j
@[simp] theorem eqvD_tup (xs ys : List D) : eqvD (.tup xs) (.tup ys) = eqvL xs ys := by simp only [eqvD, eqvL, D.py, PyData.eqv]
@[simp] theorem eqvD_lst (xs ys : List D) : eqvD (.lst xs) (.lst ys) = eqvL xs ys := by simp only [eqvD, eqvL, D.py, PyData.eqv]
@[simp] theorem eqvD_rdl (xs ys : List D) : eqvD (.rdl xs) (.lst ys) = eqvL xs ys := by simp only [eqvD, eqvL, D.py, PyData.eqv]
@[simp] theorem eqvL_nil : eqvL [] [] = true := by simp only [eqvL, pyL, PyData.eqvAll]
@[simp] theorem eqvL_cons (x y : D) (xs ys : List D) : eqvL (x :: xs) (y :: ys) = (eqvD x y && eqvL xs ys) := by simp only [eqvL, eqvD, pyL, PyData.eqvAll]
@[simp] theorem eqvL_nc (y : D) (ys : List D) : eqvL [] (y :: ys) = false := by simp only [eqvL, pyL, PyData.eqvAll]
@[simp] theorem eqvL_cn (y : D) (ys : List D) : eqvL (y :: ys) [] = false := by simp only [eqvL, pyL, PyData.eqvAll]
@[simp] theorem eqvD_nn : eqvD .non .non = true := by simp only [eqvD, D.py, PyData.eqv]
theorem eqvD_refl {d : D} {n : Nat} (h : d.shp n = true) : eqvD d d = true := SeqAt.eqv_refl _ (can_of h).1
theorem shpL_map {α : Type} {f : α → D} {n : Nat} {xs : List α} (h : ∀ x ∈ xs, (f x).shp n = true) : shpL (xs.map f) n = true := by
  induction xs with
  | nil => simp [shpL]
  | cons x xs ih =>
    simp [shpL, h x (by simp)]
    exact ih fun y hy => h y (by simp [hy])
/-- one that may still change is looked at as it is now -/
inductive Fz (μ : Mu) : D → D → Prop
  | id (d : D) : Fz μ d d
  | own {k : Nat} {ds : List D} (h : μ[k]? = some (.lst ds)) : Fz μ (.own k) (.lst ds)
theorem Fz.dp {K : PySem.W.Frag} {G H : Hp} {al : List Addr} {μ : Mu} {v : V} {x d : D} {n : Nat} (h : Fz μ x d) (A : As K G H al μ) (hs : d.shp n = true) (r : Rp K G al v x) : Dp K H v d.py := by
  cases h with
  | id => exact dp_of A.sub hs r
  | own hk =>
    obtain ⟨a, ha, ga, ws, hv, rw'⟩ := A.get hk
    cases r with
    | own e =>
      rw [ha] at e; cases e
      unfold D.py; unfold D.shp at hs; simp at hs
      exact .lst (.inl (.inl hv)) (dpAll_of A.sub hs.2 rw')
section
variable {K : PySem.W.Frag} {μ : Mu} {P : D → Mu → Prop} {x y d e : D}
theorem ro_eqD {n m : Nat} (hx : Fz μ x d) (hy : Fz μ y e) (h1 : d.shp n = true) (h2 : e.shp m = true) (h : P (.bl (eqvD d e)) μ) (hn : n ≤ 64 := by decide) (hm : m ≤ 64 := by decide) : RO K (rEqD K) x y μ P := fun G H al v w A r1 r2 Q hQ =>
  ⟨d.py, e.py, hx.dp A h1 r1, hy.dp A h2 r2, shaped_of hn h1, shaped_of hm h2, hQ.now A (.bl _) h⟩
theorem ro_neD {n m : Nat} (hx : Fz μ x d) (hy : Fz μ y e) (h1 : d.shp n = true) (h2 : e.shp m = true) (h : P (.bl (!eqvD d e)) μ) (hn : n ≤ 64 := by decide) (hm : m ≤ 64 := by decide) : RO K (rNeD K) x y μ P := fun G H al v w A r1 r2 Q hQ =>
  ⟨d.py, e.py, hx.dp A h1 r1, hy.dp A h2 r2, shaped_of hn h1, shaped_of hm h2, hQ.now A (.bl _) h⟩
theorem ro_eqI {i j : Int} (h : P (.bl (decide (i = j))) μ) : RO K (rEqD K) (.int i) (.int j) μ P := ro_eqD (n := 0) (m := 0) (.id _) (.id _) rfl rfl (by rw [eqvD_int]; exact h)
theorem ro_neI {i j : Int} (h : P (.bl (!decide (i = j))) μ) : RO K (rNeD K) (.int i) (.int j) μ P := ro_neD (n := 0) (m := 0) (.id _) (.id _) rfl rfl (by rw [eqvD_int]; exact h)
theorem ro_eqB {i j : Bool} (h : P (.bl (decide (i = j))) μ) : RO K (rEqD K) (.bl i) (.bl j) μ P := ro_eqD (n := 0) (m := 0) (.id _) (.id _) rfl rfl (by rw [eqvD_bl]; exact h)
theorem ro_neB {i j : Bool} (h : P (.bl (!decide (i = j))) μ) : RO K (rNeD K) (.bl i) (.bl j) μ P := ro_neD (n := 0) (m := 0) (.id _) (.id _) rfl rfl (by rw [eqvD_bl]; exact h)
end
end Dl
set_option Elab.async false
set_option linter.all false
set_option maxRecDepth 100000
namespace Dl
open PySem L2
/-! ### what is walked -/
/-- J walks ds, as long as S holds of what may change -/
def ItOk (K : PySem.W.Frag) (J : It) (ds : List D) (S : Mu → Prop) (G H : Hp) (al : List Addr) : Prop := ∀ G2 H2 al2 μ2, Nx G H al G2 H2 al2 → As K G2 H2 al2 μ2 → S μ2 →
  (∀ i, i < ds.length → J.go i H2) ∧ (∀ i, ds.length ≤ i → J.stop i H2) ∧ ∀ i x H3, J.yld i H2 x H3 → ∀ d, ds[i]? = some d → ∃ G3, Nx G2 H2 al2 G3 H3 al2 ∧ As K G3 H3 al2 μ2 ∧ Rp K G3 al2 x d
def DI (K : PySem.W.Frag) (B : Bs) (wi : TI) (ρ : En) (μ : Mu) (P : List D → (Mu → Prop) → Mu → Prop) : Prop := ∀ σ G H al, B.le G H al → RpS K G al σ ρ → As K G H al μ → ∀ R : It → Hp → Prop,
  (∀ J ds S μ' G' H' al', Nx G H al G' H' al' → As K G' H' al' μ' → ItOk K J ds S G' H' al' → P ds S μ' → R J H') → wi σ H R
section
variable {K : PySem.W.Frag} {B : Bs} {ρ : En} {μ : Mu} {te : TE} {ts : TA} {PI' : List D → (Mu → Prop) → Mu → Prop}
theorem itl_ok {G H : Hp} {al : List Addr} {a : Addr} {ds : List D} {S : Mu → Prop} (h : ∀ G2 H2 al2 μ2, Nx G H al G2 H2 al2 → As K G2 H2 al2 μ2 → S μ2 → ∃ vs, SqL K H2 a vs ∧ Rps K G2 al2 vs ds) : ItOk K (Itl K a) ds S G H al := fun G2 H2 al2 μ2 n A s => by
  obtain ⟨vs, sq, r⟩ := h G2 H2 al2 μ2 n A s
  refine ⟨fun i hi => ⟨vs, vs[i]'(by rw [r.length]; exact hi), sq, by simp⟩, fun i hi => ⟨vs, sq, by rw [r.length]; exact hi⟩, fun i x H3 y d hd => ?_⟩
  obtain ⟨rfl, y⟩ := y
  obtain ⟨d', hd', r'⟩ := r.getV (y vs sq)
  rw [hd] at hd'; cases hd'
  exact ⟨G2, .refl, A, r'⟩
/-- lo, lo + 1, .. -/
def rangeD (lo : Int) (n : Nat) : List D := (List.range n).map fun (i : Nat) => D.int (lo + (i : Int))
theorem rangeD_length (lo : Int) (n : Nat) : (rangeD lo n).length = n := by simp [rangeD]
theorem rangeD_get {lo : Int} {n i : Nat} (h : i < n) : (rangeD lo n)[i]? = some (.int (lo + (i : Int))) := by simp [rangeD, h]
theorem rangeD_some {lo : Int} {n i : Nat} {d : D} (h : (rangeD lo n)[i]? = some d) : i < n ∧ d = .int (lo + (i : Int)) := by
  have hi : i < n := by
    have := (List.getElem?_eq_some_iff.mp h).1
    rw [rangeD_length] at this
    exact this
  rw [rangeD_get hi] at h
  exact ⟨hi, (Option.some.inj h).symm⟩
theorem itr_ok {lo : Int} {n : Nat} {G H : Hp} {al : List Addr} : ItOk K (Itr lo n) (rangeD lo n) (fun _ => True) G H al := fun G2 H2 al2 μ2 _ A _ => by
  refine ⟨fun i hi => by rw [rangeD_length] at hi; exact hi, fun i hi => by rw [rangeD_length] at hi; exact hi, fun i x H3 y d hd => ?_⟩
  obtain ⟨rfl, rfl⟩ := y
  obtain ⟨_, rfl⟩ := rangeD_some hd
  exact ⟨G2, .refl, A, .int _⟩
theorem di_range1 (h : DA K B ts ρ μ fun xs μ1 => ∃ n : Int, xs = [.int n] ∧ -(2 ^ 62) ≤ n ∧ n < 2 ^ 62 ∧ PI' (rangeD 0 n.toNat) (fun _ => True) μ1) : DI K B (iRng1 ts) ρ μ PI' := fun σ G H al hB hσ hA R hR =>
  h σ G H al hB hσ hA _ fun vs ds μ1 G1 H1 al1 n1 A1 r1 p1 => by
    obtain ⟨n, rfl, h1, h2, p⟩ := p1
    obtain ⟨v, rfl, r⟩ := rps1 r1
    cases r
    exact ⟨n, rfl, h1, h2, hR _ _ _ μ1 G1 H1 al1 n1 A1 itr_ok p⟩
theorem di_range2 (h : DA K B ts ρ μ fun xs μ1 => ∃ lo n : Int, xs = [.int lo, .int n] ∧ (-(2 ^ 62) ≤ lo ∧ lo < 2 ^ 62 ∧ -(2 ^ 62) ≤ n ∧ n < 2 ^ 62) ∧ PI' (rangeD lo (n - lo).toNat) (fun _ => True) μ1) : DI K B (iRng2 ts) ρ μ PI' := fun σ G H al hB hσ hA R hR =>
  h σ G H al hB hσ hA _ fun vs ds μ1 G1 H1 al1 n1 A1 r1 p1 => by
    obtain ⟨lo, n, rfl, h1, p⟩ := p1
    obtain ⟨v, w, rfl, r, r'⟩ := rps2 r1
    cases r; cases r'
    exact ⟨lo, n, rfl, h1, hR _ _ _ μ1 G1 H1 al1 n1 A1 itr_ok p⟩
/-- enumerate -/
def enumD (ds : List D) : List D := ds.mapIdx fun i d => .tup [.int (i : Int), d]
theorem enumD_length (ds : List D) : (enumD ds).length = ds.length := by simp [enumD]
theorem enumD_some {ds : List D} {i : Nat} {d : D} (h : (enumD ds)[i]? = some d) : ∃ x, ds[i]? = some x ∧ d = .tup [.int (i : Int), x] := by
  simp only [enumD, List.getElem?_mapIdx] at h
  cases q : ds[i]? with
  | none => rw [q] at h; cases h
  | some x => rw [q] at h; exact ⟨x, rfl, (Option.some.inj h).symm⟩
theorem di_enum (h : DA K B ts ρ μ fun xs μ1 => ∃ x ds, xs = [x] ∧ ((x = .lst ds ∧ PI' (enumD ds) (fun _ => True) μ1) ∨ (x = .rdl ds ∧ PI' (enumD ds) (fun _ => True) μ1) ∨ ∃ k, x = .own k ∧ μ1[k]? = some (.lst ds) ∧ PI' (enumD ds) (fun μ' => μ'[k]? = some (.lst ds)) μ1)) : DI K B (iEnum K ts) ρ μ PI' := fun σ G H al hB hσ hA R hR =>
  h σ G H al hB hσ hA _ fun vs ds μ1 G1 H1 al1 n1 A1 r1 p1 => by
    obtain ⟨x, xs, rfl, p1⟩ := p1
    obtain ⟨v, rfl, r⟩ := rps1 r1
    have key : ∃ a S, v = .ref a ∧ PI' (enumD xs) S μ1 ∧ S μ1 ∧ ∀ G2 H2 al2 μ2, Nx G1 H1 al1 G2 H2 al2 → As K G2 H2 al2 μ2 → S μ2 → ∃ vs, SqL K H2 a vs ∧ Rps K G2 al2 vs xs := by
      rcases p1 with ⟨rfl, p⟩ | ⟨rfl, p⟩ | ⟨k, rfl, hk, p⟩
      · cases r with | lst e rs => exact ⟨_, _, rfl, p, trivial, fun G2 H2 al2 μ2 n2 A2 _ => ⟨_, .inl (.inl (A2.sub _ _ (n2.g _ _ e))), rs.nx n2⟩⟩
      · cases r with | rdl e rs => exact ⟨_, _, rfl, p, trivial, fun G2 H2 al2 μ2 n2 A2 _ => ⟨_, sql_mono A2.sub (sql_mono n2.g e), rs.nx n2⟩⟩
      · obtain ⟨a, ha, ga, vs, hv, rs⟩ := A1.get hk
        cases r with
        | own e =>
          rw [ha] at e; cases e
          refine ⟨_, _, rfl, p, hk, fun G2 H2 al2 μ2 n2 A2 s => ?_⟩
          obtain ⟨a2, ha2, ga2, vs2, hv2, rs2⟩ := A2.get s
          rw [n2.p.get ha] at ha2; cases ha2
          exact ⟨vs2, .inl (.inl hv2), rs2⟩
    obtain ⟨a, S, rfl, p, s1, key⟩ := key
    obtain ⟨vs1, sq1, _⟩ := key G1 H1 al1 μ1 .refl A1 s1
    refine ⟨a, vs1, rfl, sq1, hR _ _ S μ1 G1 H1 al1 n1 A1 (fun G2 H2 al2 μ2 n2 A2 s => ?_) p⟩
    obtain ⟨vs, sq, r⟩ := key G2 H2 al2 μ2 n2 A2 s
    rw [enumD_length]
    refine ⟨fun i hi => ⟨vs, vs[i]'(by rw [r.length]; exact hi), sq, by simp⟩, fun i hi => ⟨vs, sq, by rw [r.length]; exact hi⟩, fun i x H3 y d hd => ?_⟩
    obtain ⟨T, z, rfl, hT, rfl, y⟩ := y
    obtain ⟨w, hw, rfl⟩ := enumD_some hd
    obtain ⟨d', hd', r'⟩ := r.getV (y vs sq)
    rw [hw] at hd'; cases hd'
    obtain ⟨A3, n3⟩ := A2.frz (o := .tup [.int (i : Nat), z]) hT
    exact ⟨_, n3, A3, .tup upd_same (.cons (.int _) (.cons (r'.nx n3) .nil))⟩
/-- the signs of a text -/
def signsD (x : Str) : List D := x.cps.toList.map fun c => .str ⟨#[c]⟩
/-! ### for -/
theorem ds_for {wi : TI} {g : TG} {tb : TS} {P : DEnds} (h : DI K B wi ρ μ fun ds S μ1 => ∃ Iv : Nat → En → Mu → Prop, Iv 0 ρ μ1 ∧ (∀ i ρ' μ', i ≤ ds.length → Iv i ρ' μ' → S μ') ∧
      (∀ i d ρ' μ', ds[i]? = some d → Iv i ρ' μ' → DG K B g d ρ' μ' fun ρ2 μ2 => DS K B tb ρ2 μ2 { P with nx := Iv (i + 1), ct := Iv (i + 1), bk := P.nx }) ∧ (∀ ρ' μ', Iv ds.length ρ' μ' → P.nx ρ' μ')) : DS K B (tFor wi g tb) ρ μ P := fun σ G H al hB hσ hA De hD =>
  h σ G H al hB hσ hA _ fun J ds S μ1 G1 H1 al1 n1 A1 ok p1 => by
    obtain ⟨Iv, h0, hS, hs, hd⟩ := p1
    refine ⟨fun i m σ' H' => m = ds.length - i ∧ i ≤ ds.length ∧ ∃ G' al' ρ' μ', Nx G1 H1 al1 G' H' al' ∧ RpS K G' al' σ' ρ' ∧ As K G' H' al' μ' ∧ Iv i ρ' μ', ⟨ds.length, by simp, Nat.zero_le _, G1, al1, ρ, μ1, .refl, hσ.nx n1, A1, h0⟩, ?_⟩
    rintro i m σ' H' ⟨rfl, hi, G', al', ρ', μ', n', hσ', A', iv⟩
    obtain ⟨go, stop, yld⟩ := ok G' H' al' μ' n' A' (hS i ρ' μ' hi iv)
    by_cases hlt : i < ds.length
    · refine .inr ⟨go i hlt, fun σ2 H2 => ∃ G2 al2 ρ2 μ2, Nx G1 H1 al1 G2 H2 al2 ∧ RpS K G2 al2 σ2 ρ2 ∧ As K G2 H2 al2 μ2 ∧ Iv (i + 1) ρ2 μ2, fun σ2 H2 q => ⟨ds.length - (i + 1), by omega, rfl, hlt, q⟩, fun x H3 y => ?_⟩
      obtain ⟨G3, n3, A3, r3⟩ := yld i x H3 y _ (List.getElem?_eq_getElem hlt)
      have q := hs i _ ρ' μ' (List.getElem?_eq_getElem hlt) iv σ' G3 H3 al' x (((hB.trans n1).trans n').trans n3) (hσ'.nx n3) A3 r3
      refine q _ fun σ4 ρ4 μ4 G4 H4 al4 n4 hσ4 A4 p4 => ?_
      have nn : Nx G1 H1 al1 G4 H4 al4 := (n'.trans n3).trans n4
      exact p4 σ4 G4 H4 al4 ((hB.trans n1).trans nn) hσ4 A4 _ ⟨fun σ5 ρ5 μ5 G5 H5 al5 n5 hσ5 A5 p5 => ⟨G5, al5, ρ5, μ5, nn.trans n5, hσ5, A5, p5⟩, hD.rt.nx (n1.trans nn), hD.nx.nx (n1.trans nn), fun σ5 ρ5 μ5 G5 H5 al5 n5 hσ5 A5 p5 => ⟨G5, al5, ρ5, μ5, nn.trans n5, hσ5, A5, p5⟩⟩
    · have e : i = ds.length := by omega
      subst e
      exact .inl ⟨stop _ (Nat.le_refl _), hD.nx _ _ μ' G' H' al' (n1.trans n') hσ' A' (hd ρ' μ' iv)⟩
/-! ### while -/
end
/-! ### comprehensions -/
def wipeD (ρ : En) : List Nat → En
  | [] => ρ
  | v :: vs => (wipeD ρ vs).set v none
theorem wipe_rps {K : PySem.W.Frag} {G : Hp} {al : List Addr} {σ : St} {ρ : En} (h : RpS K G al σ ρ) : ∀ vs : List Nat, RpS K G al (wipe σ vs) (wipeD ρ vs)
  | [] => h
  | v :: vs => (wipe_rps h vs).forget v none
theorem wipe_set {σ : St} {j : Nat} {x : Option V} : ∀ {vs : List Nat}, j ∈ vs → wipe (σ.set j x) vs = wipe σ vs
  | [], h => by simp at h
  | v :: vs, h => by
    by_cases hv : j ∈ vs
    · unfold wipe; rw [wipe_set hv]
    · have e : j = v := by simpa [hv] using h
      subst e
      have q : ∀ (ws : List Nat), j ∉ ws → wipe (σ.set j x) ws = (wipe σ ws).set j x := by
        intro ws
        induction ws with
        | nil => intro _; rfl
        | cons w ws ih =>
          intro hn
          simp only [List.mem_cons, not_or] at hn
          unfold wipe
          rw [ih hn.2, List.set_comm _ _ (fun z => hn.1 z)]
      unfold wipe
      rw [q vs hv, List.set_set]
theorem wipe_wipe (σ : St) : ∀ vs ws : List Nat, (∀ w ∈ ws, w ∈ vs) → wipe (wipe σ ws) vs = wipe σ vs
  | vs, [], _ => rfl
  | vs, w :: ws, h => by
    show wipe ((wipe σ ws).set w none) vs = wipe σ vs
    rw [wipe_set (h w (by simp)), wipe_wipe σ vs ws fun x hx => h x (by simp [hx])]
/-- a target that stores in vs alone -/
def GW (g : TG) (vs : List Nat) : Prop := ∀ x σ H (Q : St → Hp → Prop), g x σ H Q → g x σ H fun σ2 H2 => wipe σ2 vs = wipe σ vs ∧ Q σ2 H2
def GWs (g : TGs) (vs : List Nat) : Prop := ∀ xs σ H (Q : St → Hp → Prop), g xs σ H Q → g xs σ H fun σ2 H2 => wipe σ2 vs = wipe σ vs ∧ Q σ2 H2
theorem gw_name {i : Nat} {vs : List Nat} (h : i ∈ vs) : GW (gName i) vs := fun x σ H Q q => ⟨wipe_set h, q⟩
theorem gws_nil {vs : List Nat} : GWs gNil vs := fun xs σ H Q q => ⟨q.1, rfl, q.2⟩
theorem gws_cons {i : Nat} {gs : TGs} {vs : List Nat} (h : i ∈ vs) (h2 : GWs gs vs) : GWs (gCons (gName i) gs) vs := fun xs σ H Q q => by
  obtain ⟨v, r, e, q⟩ := q
  refine ⟨v, r, e, ?_⟩
  have z := h2 r (σ.set i (some v)) H Q q
  rw [show wipe (σ.set i (some v)) vs = wipe σ vs from wipe_set h] at z
  exact z
theorem gw_tup {K : PySem.W.Frag} {n : Nat} {gs : TGs} {vs : List Nat} (h : GWs gs vs) : GW (gTup K n gs) vs := fun x σ H Q q => by
  obtain ⟨a, xs, e, s, l, q⟩ := q
  exact ⟨a, xs, e, s, l, h xs σ H Q q⟩
section
variable {K : PySem.W.Frag} {B : Bs} {ρ : En} {μ : Mu} {te : TE} {tt : TT} {wi : TI} {g : TG} {vs : List Nat} {P : D → Mu → Prop}
/-- the list that a comprehension makes is frozen at its end -/
theorem de_lc (hg : GW g vs) (h : DI K B wi ρ μ fun ds S μ1 => ds.length ≤ 100000 ∧ ∃ Iv : Nat → List D → Mu → Prop, Iv 0 [] μ1 ∧ (∀ i acc μ', i ≤ ds.length → Iv i acc μ' → S μ') ∧
      (∀ i d acc μ', ds[i]? = some d → Iv i acc μ' → DG K B g d (wipeD ρ vs) μ' fun ρ2 μ2 => DT K B tt ρ2 μ2 fun b μ3 => (b = true → DE K B te ρ2 μ3 fun y μ4 => Iv (i + 1) (acc ++ [y]) μ4) ∧ (b = false → Iv (i + 1) acc μ3)) ∧
      (∀ acc μ', Iv ds.length acc μ' → P (.lst acc) μ')) : DE K B (tLc wi g tt te vs) ρ μ P := fun σ G H al hB hσ hA Q hQ =>
  h σ G H al hB hσ hA _ fun J ds S μ1 G1 H1 al1 n1 A1 ok p1 => by
    obtain ⟨hlen, Iv, h0, hS, hs, hd⟩ := p1
    intro Dl hDl
    have nDl : Dl ∉ al1 := fun m => A1.here Dl m hDl
    have gDl : G1 Dl = none := A1.sub.free hDl
    -- a store to the list that is made
    have store : ∀ {G' H' al' μ' ac}, Nx G1 H1 al1 G' H' al' → As K G' H' al' μ' → G' Dl = none → Dl ∉ al' → As K G' (upd H' Dl (.lst ac)) al' μ' ∧ Nx G1 H1 al1 G' (upd H' Dl (.lst ac)) al' := by
      intro G' H' al' μ' ac n A g' nal
      refine ⟨⟨fun b u e => by rw [upd_ne (ne_of_none e g')]; exact A.sub _ _ e, A.nd, A.len, fun a m => ?_, fun k a o e1 e2 => ?_⟩, ⟨n.g, n.p, fun a u h m => ?_, n.out, n.new⟩⟩
      · have z : a ≠ Dl := fun z => nal (z ▸ m)
        rw [upd_ne z]; exact A.here a m
      · have z : a ≠ Dl := fun z => nal (z ▸ List.mem_of_getElem? e1)
        exact OkO.mono (Same.refl _) (Pre.refl _) (fun _ g => g) (by rw [upd_ne z]) (A.ok k a o e1 e2)
      · rw [upd_ne (ne_of_none h hDl)]; exact n.keep a u h m
    -- Dl stays where it is through a step
    have stay : ∀ {G' H' al' G'' H'' al'' u}, Nx G' H' al' G'' H'' al'' → H' Dl = some (.lst u) → G' Dl = none → Dl ∉ al' → H'' Dl = some (.lst u) ∧ G'' Dl = none ∧ Dl ∉ al'' := by
      intro G' H' al' G'' H'' al'' u n h g' nal
      refine ⟨n.keep Dl (.lst u) h nal, n.out Dl (by rw [h]; simp) (fun vs e => by rw [h] at e; cases e) nal g', fun m => ?_⟩
      rcases n.new Dl m with z | z
      · exact nal z
      · rw [h] at z; cases z
    obtain ⟨A0, N0⟩ := store (ac := []) .refl A1 gDl nDl
    refine ⟨fun i m H' => m = ds.length - i ∧ i ≤ ds.length ∧ ∃ G' al' μ' acc vacc, Nx G1 H1 al1 G' H' al' ∧ As K G' H' al' μ' ∧ H' Dl = some (.lst vacc) ∧ Rps K G' al' vacc acc ∧ G' Dl = none ∧ Dl ∉ al' ∧ acc.length ≤ i ∧ Iv i acc μ',
      ⟨ds.length, by simp, Nat.zero_le _, G1, al1, μ1, [], [], N0, A0, upd_same, .nil, gDl, nDl, Nat.le_refl _, h0⟩, ?_⟩
    rintro i m H' ⟨rfl, hi, G', al', μ', acc, vacc, n', A', hv, rv, g', nal, hacc, iv⟩
    obtain ⟨go, stop, yld⟩ := ok G' H' al' μ' n' A' (hS i acc μ' hi iv)
    by_cases hlt : i < ds.length
    · refine .inr ⟨go i hlt, fun H2 => ∃ G2 al2 μ2 acc vacc, Nx G1 H1 al1 G2 H2 al2 ∧ As K G2 H2 al2 μ2 ∧ H2 Dl = some (.lst vacc) ∧ Rps K G2 al2 vacc acc ∧ G2 Dl = none ∧ Dl ∉ al2 ∧ acc.length ≤ i + 1 ∧ Iv (i + 1) acc μ2, fun H2 q => ⟨ds.length - (i + 1), by omega, rfl, hlt, q⟩, fun x H3 y => ?_⟩
      obtain ⟨G3, n3, A3, r3⟩ := yld i x H3 y _ (List.getElem?_eq_getElem hlt)
      obtain ⟨hv3, g3, nal3⟩ := stay n3 hv g' nal
      have nn3 := n'.trans n3
      have hw : RpS K G3 al' (wipe σ vs) (wipeD ρ vs) := wipe_rps ((hσ.nx n1).nx nn3) vs
      have q := hs i _ acc μ' (List.getElem?_eq_getElem hlt) iv (wipe σ vs) G3 H3 al' x (((hB.trans n1).trans n').trans n3) hw A3 r3
      have q2 := hg x (wipe σ vs) H3 _ (q (fun σ2 H2 => tt σ2 H2 fun b H3 => if b = true then te σ2 H3 fun y H4 => ∃ acc, H4 Dl = some (.lst acc) ∧ acc.length < sizeLine ∧ (∃ G2 al2 μ2 acc' vacc, Nx G1 H1 al1 G2 (upd H4 Dl (.lst (acc ++ [y]))) al2 ∧ As K G2 (upd H4 Dl (.lst (acc ++ [y]))) al2 μ2 ∧ (upd H4 Dl (.lst (acc ++ [y]))) Dl = some (.lst vacc) ∧ Rps K G2 al2 vacc acc' ∧ G2 Dl = none ∧ Dl ∉ al2 ∧ acc'.length ≤ i + 1 ∧ Iv (i + 1) acc' μ2)
          else (∃ G2 al2 μ2 acc' vacc, Nx G1 H1 al1 G2 H3 al2 ∧ As K G2 H3 al2 μ2 ∧ H3 Dl = some (.lst vacc) ∧ Rps K G2 al2 vacc acc' ∧ G2 Dl = none ∧ Dl ∉ al2 ∧ acc'.length ≤ i + 1 ∧ Iv (i + 1) acc' μ2)) fun σ4 ρ4 μ4 G4 H4 al4 n4 hσ4 A4 p4 => ?_)
      · rw [wipe_wipe σ vs vs fun _ h => h] at q2
        exact q2
      · obtain ⟨hv4, g4, nal4⟩ := stay n4 hv3 g3 nal3
        have nn4 := nn3.trans n4
        refine p4 σ4 G4 H4 al4 ((hB.trans n1).trans nn4) hσ4 A4 _ fun b μ5 G5 H5 al5 n5 A5 p5 => ?_
        obtain ⟨hv5, g5, nal5⟩ := stay n5 hv4 g4 nal4
        have nn5 := nn4.trans n5
        cases b with
        | false =>
          rw [if_neg (by simp)]
          exact ⟨G5, al5, μ5, acc, vacc, nn5, A5, hv5, (((rv.nx n3).nx n4).nx n5), g5, nal5, Nat.le_succ_of_le hacc, p5.2 rfl⟩
        | true =>
          rw [if_pos rfl]
          refine p5.1 rfl σ4 G5 H5 al5 ((hB.trans n1).trans nn5) (hσ4.nx n5) A5 _ fun yv y μ6 G6 H6 al6 n6 A6 r6 p6 => ?_
          obtain ⟨hv6, g6, nal6⟩ := stay n6 hv5 g5 nal5
          have rv6 := (((rv.nx n3).nx n4).nx n5).nx n6
          obtain ⟨A7, n7⟩ := store (ac := vacc ++ [yv]) (nn5.trans n6) A6 g6 nal6
          refine ⟨vacc, hv6, ?_, G6, al6, μ6, acc ++ [y], vacc ++ [yv], n7, A7, upd_same, rv6.append (.cons r6 .nil), g6, nal6, by simp; omega, p6⟩
          rw [rv6.length]
          exact Nat.lt_of_lt_of_le (Nat.lt_of_le_of_lt hacc (Nat.lt_of_lt_of_le hlt hlen)) (by decide)
    · have e : i = ds.length := by omega
      subst e
      refine .inl ⟨stop _ (Nat.le_refl _), ?_⟩
      have s1 : Same G' (upd G' Dl (.lst vacc)) := fun b u e => by rw [upd_ne (ne_of_none e g')]; exact e
      have A7 : As K (upd G' Dl (.lst vacc)) H' al' μ' := by
        refine ⟨fun b u e => ?_, A'.nd, A'.len, A'.here, fun k a o e1 e2 => ?_⟩
        · by_cases hb : b = Dl
          · subst hb; rw [upd_same] at e; rw [← e]; exact hv
          · rw [upd_ne hb] at e; exact A'.sub _ _ e
        · have z : a ≠ Dl := fun z => nal (z ▸ List.mem_of_getElem? e1)
          exact OkO.mono s1 (Pre.refl _) (fun _ g => by rw [upd_ne z]; exact g) rfl (A'.ok k a o e1 e2)
      have n7 : Nx G1 H1 al1 (upd G' Dl (.lst vacc)) H' al' := ⟨n'.g.trans s1, n'.p, n'.keep, fun a h t m g => by
        have z : a ≠ Dl := fun z => h (by rw [z]; exact hDl)
        rw [upd_ne z]; exact n'.out a h t m g, n'.new⟩
      exact hQ _ _ _ _ _ _ (n1.trans n7) A7 (.lst upd_same (rv.mono s1 (Pre.refl _))) (hd acc μ' iv)
theorem dt_yes {PT' : Bool → Mu → Prop} (h : PT' true μ) : DT K B tYes ρ μ PT' := fun σ G H al hB hσ hA Q hQ => hQ true μ G H al .refl hA h
end
end Dl
set_option Elab.async false
set_option linter.all false
set_option maxRecDepth 100000
namespace Dl
open PySem L2 PyProof.Rows
/-! ### what names no thing from the n-th on -/
mutual
def D.cl : D → Nat → Bool
  | .tup xs, n => clL xs n
  | .lst xs, n => clL xs n
  | .rdl xs, n => clL xs n
  | .rdt xs, n => clL xs n
  | .obj _ gs, n => clF gs n
  | .exc _ gs, n => clF gs n
  | .dct gs, n => clK gs n
  | .own k, n => decide (k < n)
  | .non, _ => true
  | .bl _, _ => true
  | .int _, _ => true
  | .str _, _ => true
  | .ty _, _ => true
  | .loc _, _ => true
def clL : List D → Nat → Bool
  | [], _ => true
  | x :: xs, n => D.cl x n && clL xs n
def clF : List (Str × D) → Nat → Bool
  | [], _ => true
  | (_, x) :: xs, n => D.cl x n && clF xs n
def clK : List (Key × D) → Nat → Bool
  | [], _ => true
  | (_, x) :: xs, n => D.cl x n && clK xs n
end
def MO.cl : MO → Nat → Bool
  | .dead, _ => true
  | .lst xs, n => clL xs n
  | .ins _ gs, n => clF gs n
  | .dK gs, n => clK gs n
  | .dT gs, n => clL (gs.map (·.2)) n
  | .tab _ _, _ => true
theorem clL_iff {xs : List D} {n : Nat} : clL xs n = true ↔ ∀ x ∈ xs, x.cl n = true := by
  induction xs with
  | nil => simp [clL]
  | cons x xs ih => simp [clL, ih]
theorem clL_map {α : Type} {f : α → D} {xs : List α} {n : Nat} (h : ∀ x ∈ xs, (f x).cl n = true) : clL (xs.map f) n = true := by
  rw [clL_iff]
  intro x hx
  obtain ⟨a, ha, rfl⟩ := List.mem_map.mp hx
  exact h a ha
@[simp] theorem clL_append {xs ys : List D} {n : Nat} : clL (xs ++ ys) n = (clL xs n && clL ys n) := by
  induction xs with
  | nil => simp [clL]
  | cons x xs ih => simp [clL, ih, Bool.and_assoc]
section
variable {K : PySem.W.Frag} {G : Hp} {al be : List Addr}
mutual
theorem Rp.cl : ∀ {v : V} {d : D}, Rp K G al v d → d.cl al.length = true
  | _, _, .non => by simp [D.cl]
  | _, _, .bl _ => by simp [D.cl]
  | _, _, .int _ => by simp [D.cl]
  | _, _, .str _ => by simp [D.cl]
  | _, _, .ty _ => by simp [D.cl]
  | _, _, .tup _ r => by unfold D.cl; exact Rps.cl r
  | _, _, .lst _ r => by unfold D.cl; exact Rps.cl r
  | _, _, .rdl _ r => by unfold D.cl; exact Rps.cl r
  | _, _, .rdt _ r => by unfold D.cl; exact Rps.cl r
  | _, _, .obj _ r => by unfold D.cl; exact Rpf.cl r
  | _, _, .dct _ r => by unfold D.cl; exact Rpk.cl r
  | _, _, .own h => by unfold D.cl; exact decide_eq_true (List.getElem?_eq_some_iff.mp h).1
  | _, _, .loc _ => by simp [D.cl]
  | _, _, .exc _ _ r => by unfold D.cl; exact Rpf.cl r
theorem Rps.cl : ∀ {v : List V} {d : List D}, Rps K G al v d → clL d al.length = true
  | _, _, .nil => by simp [clL]
  | _, _, .cons h r => by unfold clL; rw [Rp.cl h, Rps.cl r]; rfl
theorem Rpf.cl : ∀ {v : List (Str × V)} {d : List (Str × D)}, Rpf K G al v d → clF d al.length = true
  | _, _, .nil => by simp [clF]
  | _, _, .cons h r => by unfold clF; rw [Rp.cl h, Rpf.cl r]; rfl
theorem Rpk.cl : ∀ {v : List (Key × V)} {d : List (Key × D)}, Rpk K G al v d → clK d al.length = true
  | _, _, .nil => by simp [clK]
  | _, _, .cons h r => by unfold clK; rw [Rp.cl h, Rpk.cl r]; rfl
end
mutual
theorem Rp.shrink : ∀ {v : V} {d : D}, Rp K G (al ++ be) v d → d.cl al.length = true → Rp K G al v d
  | _, _, .non, _ => .non
  | _, _, .bl b, _ => .bl b
  | _, _, .int i, _ => .int i
  | _, _, .str x, _ => .str x
  | _, _, .ty x, _ => .ty x
  | _, _, .tup e r, h => .tup e (Rps.shrink r (by unfold D.cl at h; exact h))
  | _, _, .lst e r, h => .lst e (Rps.shrink r (by unfold D.cl at h; exact h))
  | _, _, .rdl e r, h => .rdl e (Rps.shrink r (by unfold D.cl at h; exact h))
  | _, _, .rdt e r, h => .rdt e (Rps.shrink r (by unfold D.cl at h; exact h))
  | _, _, .obj e r, h => .obj e (Rpf.shrink r (by unfold D.cl at h; exact h))
  | _, _, .dct e r, h => .dct e (Rpk.shrink r (by unfold D.cl at h; exact h))
  | _, _, .own e, h => .own (by
      unfold D.cl at h
      rw [List.getElem?_append_left (of_decide_eq_true h)] at e
      exact e)
  | _, _, .loc a, _ => .loc a
  | _, _, .exc e d r, h => .exc e d (Rpf.shrink r (by unfold D.cl at h; exact h))
theorem Rps.shrink : ∀ {v : List V} {d : List D}, Rps K G (al ++ be) v d → clL d al.length = true → Rps K G al v d
  | _, _, .nil, _ => .nil
  | _, _, .cons r t, h => by
    unfold clL at h; simp at h
    exact .cons (Rp.shrink r h.1) (Rps.shrink t h.2)
theorem Rpf.shrink : ∀ {v : List (Str × V)} {d : List (Str × D)}, Rpf K G (al ++ be) v d → clF d al.length = true → Rpf K G al v d
  | _, _, .nil, _ => .nil
  | _, _, .cons r t, h => by
    unfold clF at h; simp at h
    exact .cons (Rp.shrink r h.1) (Rpf.shrink t h.2)
theorem Rpk.shrink : ∀ {v : List (Key × V)} {d : List (Key × D)}, Rpk K G (al ++ be) v d → clK d al.length = true → Rpk K G al v d
  | _, _, .nil, _ => .nil
  | _, _, .cons r t, h => by
    unfold clK at h; simp at h
    exact .cons (Rp.shrink r h.1) (Rpk.shrink t h.2)
end
end
def MuCl (μ : Mu) (n : Nat) : Prop := ∀ o ∈ μ, o.cl n = true
section
variable {K : PySem.W.Frag} {G H : Hp} {al be : List Addr} {μ ext : Mu}
theorem As.cl (A : As K G H al μ) : MuCl μ μ.length := fun o ho => by
  obtain ⟨k, hk⟩ := List.getElem?_of_mem ho
  obtain ⟨a, ha, ok⟩ := A.get hk
  rw [← A.len]
  cases o with
  | dead => rfl
  | lst ds => obtain ⟨_, _, _, r⟩ := ok; exact r.cl
  | ins C gs => obtain ⟨_, _, _, _, r⟩ := ok; exact r.cl
  | dK gs => obtain ⟨_, _, _, r⟩ := ok; exact r.cl
  | dT gs => obtain ⟨_, _, _, _, r⟩ := ok; exact r.cl
  | tab _ _ => rfl
theorem As.shrink (A : As K G H (al ++ be) (μ ++ ext)) (hl : al.length = μ.length) (hc : MuCl μ μ.length) : As K G H al μ := by
  refine ⟨A.sub, (List.nodup_append.mp A.nd).1, hl, fun a m => A.here a (List.mem_append_left _ m), fun k a o e1 e2 => ?_⟩
  have hk : k < al.length := (List.getElem?_eq_some_iff.mp e1).1
  have ok := A.ok k a o (by rw [List.getElem?_append_left hk]; exact e1) (by rw [List.getElem?_append_left (by rw [← hl]; exact hk)]; exact e2)
  have c := hc o (List.mem_of_getElem? e2)
  rw [← hl] at c
  cases o with
  | dead => trivial
  | lst ds => obtain ⟨g, vs, e, r⟩ := ok; exact ⟨g, vs, e, r.shrink c⟩
  | ins C gs => obtain ⟨g, dx, vs, e, r⟩ := ok; exact ⟨g, dx, vs, e, r.shrink c⟩
  | dK gs => obtain ⟨g, vs, e, r⟩ := ok; exact ⟨g, vs, e, r.shrink c⟩
  | dT gs => obtain ⟨g, vs, e, q, r⟩ := ok; exact ⟨g, vs, e, q, r.shrink c⟩
  | tab _ _ => exact ok
theorem Nx.shrink {G' H' : Hp} {al' : List Addr} (n : Nx G H al G' H' (al ++ al')) : Nx G H al G' H' al := ⟨n.g, Pre.refl _, n.keep, n.out, fun a m => .inl m⟩
end
/-! ### exceptions -/
abbrev PXT := Addr → List (Str × D) → Mu → Prop
/-- the own dict of an exception, frozen -/
def XRep (K : PySem.W.Frag) (G : Hp) (al : List Addr) (dd : Option Addr) (fs : List (Str × D)) : Prop := (dd = none ∧ fs = []) ∨ ∃ d vs, dd = some d ∧ G d = some (.xd vs) ∧ Rpf K G al vs fs
def XAg (K : PySem.W.Frag) (B : Bs) (PX : PXT) (E : XK) : Prop := ∀ C fs dd μ' G' H' al', B.le G' H' al' → As K G' H' al' μ' → XRep K G' al' dd fs → PX C fs μ' → E (.ref C) dd H'
theorem XAg.nx {K : PySem.W.Frag} {B : Bs} {PX : PXT} {E : XK} {G H : Hp} {al : List Addr} (n : B.le G H al) (h : XAg K B PX E) : XAg K ⟨G, H, al⟩ PX E := fun C fs dd μ' G' H' al' n' A r p => h C fs dd μ' G' H' al' (n.trans n') A r p
theorem XAg.none {K : PySem.W.Frag} {B : Bs} {E : XK} : XAg K B (fun _ _ _ => False) E := fun _ _ _ _ _ _ _ _ _ _ p => p.elim
theorem Rpf.nx {K : PySem.W.Frag} {G H G1 H1 : Hp} {al al1 : List Addr} (n : Nx G H al G1 H1 al1) {v : List (Str × V)} {d : List (Str × D)} (h : Rpf K G al v d) : Rpf K G1 al1 v d := h.mono n.g n.p
/-! ### contracts -/
abbrev CT := List D → Mu → (D → Mu → Prop) → PXT → Prop
def spD (K : PySem.W.Frag) (C : CT) : Sp := fun vs H Q E => ∃ G al ds μ P PX, As K G H al μ ∧ Rps K G al vs ds ∧ C ds μ P PX ∧ KV K G H al P Q ∧ XAg K ⟨G, H, al⟩ PX E
/-- behind a call: the callee's own things are forgotten, but those that are handed on -/
def Ret (n : Nat) (P : D → Mu → Prop) (d : D) (μ' : Mu) : Prop := ∃ μ1 ext, μ' = μ1 ++ ext ∧ n ≤ μ1.length ∧ MuCl μ1 μ1.length ∧ d.cl μ1.length = true ∧ P d μ1
def RetX (n : Nat) (PX : PXT) : PXT := fun C fs μ' => ∃ μ1 ext, μ' = μ1 ++ ext ∧ μ1.length = n ∧ MuCl μ1 n ∧ clF fs n = true ∧ PX C fs μ1
theorem XAg.ret {K : PySem.W.Frag} {G1 H1 G2 H2 : Hp} {al1 al2 : List Addr} {PX : PXT} {E : XK} (h : XAg K ⟨G1, H1, al1⟩ PX E) (n2 : Nx G1 H1 al1 G2 H2 al2) : XAg K ⟨G2, H2, al2⟩ (RetX al1.length PX) E := by
  intro C fs dd μ' G' H' al' n A' xr ⟨μ1, ext, e, hl, hcl, hf, hp⟩
  have n' : Nx G1 H1 al1 G' H' al' := n2.trans n
  obtain ⟨be, rfl⟩ := n'.p
  subst e
  refine h C fs dd μ1 G' H' al1 n'.shrink (A'.shrink hl.symm (by rw [hl]; exact hcl)) ?_ hp
  rcases xr with ⟨h1, h2⟩ | ⟨d, vs, h1, h2, h3⟩
  · exact .inl ⟨h1, h2⟩
  · exact .inr ⟨d, vs, h1, h2, h3.shrink hf⟩
def fnE (n : Nat) (P : D → Mu → Prop) : DEnds := { nx := fun _ μ' => Ret n P .non μ', rt := Ret n P }
theorem ret_same {μ ext : Mu} {n : Nat} {P : D → Mu → Prop} {d : D} (hn : n ≤ μ.length) (hc : MuCl μ μ.length) (hd : d.cl μ.length = true) (h : P d μ) : Ret n P d (μ ++ ext) := ⟨μ, ext, rfl, hn, hc, hd, h⟩
theorem ret_same0 {μ : Mu} {n : Nat} {P : D → Mu → Prop} {d : D} (hn : n ≤ μ.length) (hc : MuCl μ μ.length) (hd : d.cl μ.length = true) (h : P d μ) : Ret n P d μ := ⟨μ, [], by simp, hn, hc, hd, h⟩
theorem retx_same0 {μ : Mu} {PX : PXT} {C : Addr} {fs : List (Str × D)} (hc : MuCl μ μ.length) (hd : clF fs μ.length = true) (h : PX C fs μ) : RetX μ.length PX C fs μ := ⟨μ, [], by simp, rfl, hc, hd, h⟩
theorem MuCl.set {μ : Mu} {n k : Nat} {o : MO} (h : MuCl μ n) (ho : o.cl n = true) : MuCl (μ.set k o) n := fun x hx => by
  rcases List.mem_or_eq_of_mem_set hx with m | e
  · exact h x m
  · subst e; exact ho
theorem MuCl.get {μ : Mu} {n k : Nat} {o : MO} (h : MuCl μ n) (e : μ[k]? = some o) : o.cl n = true := h o (List.mem_of_getElem? e)
def startD (N : List Str) (ds : List D) : En := ds.map some ++ List.replicate (N.length - ds.length) none
theorem start_rp {K : PySem.W.Frag} {G : Hp} {al : List Addr} {N : List Str} {vs : List V} {ds : List D} (h : Rps K G al vs ds) : RpS K G al (L2.start N vs) (startD N ds) := by
  have hl := h.length
  refine ⟨by simp [L2.start, startD, hl], fun i d e => ?_⟩
  unfold startD at e
  unfold L2.start
  by_cases hi : i < ds.length
  · rw [List.getElem?_append_left (by simpa using hi), List.getElem?_map] at e
    cases q : ds[i]? with
    | none => rw [q] at e; cases e
    | some x =>
      rw [q] at e
      have ex : x = d := by simpa using e
      subst ex
      obtain ⟨v, hv, r⟩ := h.get q
      refine ⟨v, ?_, r⟩
      rw [List.getElem?_append_left (by simp [hl, hi]), List.getElem?_map, hv]
      rfl
  · rw [List.getElem?_append_right (by simp; omega), List.getElem?_replicate] at e
    split at e <;> simp at e
section
variable {P : Program} {w : World} {K : PySem.W.Frag} {mg : Str → Option Value} {base : Heap}
theorem sem_of {C : CT} {N : List Str} {t : XK → TS} (hn : ∀ ds μ P PX, C ds μ P PX → ds.length ≤ N.length) (sem : ∀ ds μ P PX, C ds μ P PX → MuCl μ μ.length → clL ds μ.length = true → ∀ B E, XAg K B (RetX μ.length PX) E → DS K B (t E) (startD N ds) μ (fnE μ.length P))
    {vs : List V} {H : Hp} {Q : VK} {E : XK} (h : spD K C vs H Q E) : t E { nx := fun _ H' => Q .non H', rt := Q } (L2.start N vs) H := by
  obtain ⟨G, al, ds, μ, P, PX, A, r, c, hQ, hX⟩ := h
  have hc := A.cl
  have sh : ∀ {v : V} {d : D} {μ' : Mu} {G' H' : Hp} {al' : List Addr}, Nx G H al G' H' al' → As K G' H' al' μ' → Rp K G' al' v d → Ret μ.length P d μ' → Q v H' := by
    intro v d μ' G' H' al' n A' rv ⟨μ1, ext, e, hl, hcl, hd, hp⟩
    subst e
    have hlen : μ1.length ≤ al'.length := by rw [A'.len]; simp
    have e1 : al' = al'.take μ1.length ++ al'.drop μ1.length := (List.take_append_drop _ _).symm
    have l1 : (al'.take μ1.length).length = μ1.length := by rw [List.length_take]; omega
    have pre : Pre al (al'.take μ1.length) := by
      obtain ⟨be, e2⟩ := n.p
      refine ⟨(be.take (μ1.length - al.length)), ?_⟩
      rw [e2, List.take_append]
      rw [List.take_of_length_le (by rw [A.len]; exact hl)]
    have n1 : Nx G H al G' H' (al'.take μ1.length) := ⟨n.g, pre, n.keep, n.out, fun a m => n.new a (List.mem_of_mem_take m)⟩
    rw [e1] at A' rv
    exact hQ v d μ1 G' H' _ n1 (A'.shrink l1 hcl) (rv.shrink (by rw [l1]; exact hd)) hp
  refine sem ds μ P PX c hc (by rw [← A.len]; exact r.cl) ⟨G, H, al⟩ E ?_ _ G H al .refl (start_rp r) A _ ⟨fun σ' ρ' μ' G' H' al' n hσ A' p => sh n A' .non p, fun v d μ' G' H' al' n A' rv p => sh n A' rv p, fun _ _ _ _ _ _ _ _ _ p => p.elim, fun _ _ _ _ _ _ _ _ _ p => p.elim⟩
  rw [← A.len]
  exact hX.ret .refl
end
/-! ### calls -/
section
variable {K : PySem.W.Frag} {B : Bs} {ρ : En} {μ : Mu} {te : TE} {ts : TA} {P : D → Mu → Prop} {PX : PXT} {E : XK} {C : CT} {dvs : List V} {dds : List D}
theorem de_call (hE : XAg K B PX E) (h : DA K B ts ρ μ fun ds μ1 => C ds μ1 P PX) : DE K B (tCall (spD K C) [] E ts) ρ μ P := fun σ G H al hB hσ hA Q hQ =>
  h σ G H al hB hσ hA _ fun vs ds μ1 G1 H1 al1 n1 A1 r1 p1 => by
    rw [List.append_nil]
    exact ⟨G1, al1, ds, μ1, P, PX, A1, r1, p1, hQ.nx n1, hE.nx (hB.trans n1)⟩
theorem de_meth {Cc : Addr} {m : Str} (hE : XAg K B PX E) (h : DE K B te ρ μ fun x μ1 => ∃ gs, (x = .obj Cc gs ∨ ∃ k, x = .own k ∧ μ1[k]? = some (.ins Cc gs)) ∧ gs.lookup m = none ∧ DA K B ts ρ μ1 fun ds μ2 => C (x :: ds) μ2 P PX) : DE K B (tMeth Cc m (spD K C) [] E te ts) ρ μ P := fun σ G H al hB hσ hA Q hQ =>
  h σ G H al hB hσ hA _ fun v x μ1 G1 H1 al1 n1 A1 r1 p1 => by
    obtain ⟨gs, hx, hl, p⟩ := p1
    have key : ∃ a dx fs, v = .ref a ∧ H1 a = some (.ins Cc dx fs) ∧ fs.lookup m = none := by
      rcases hx with rfl | ⟨k, rfl, hk⟩
      · cases r1 with | obj e rf => exact ⟨_, _, _, rfl, A1.sub _ _ e, rf.none hl⟩
      · obtain ⟨a, ha, ga, dx, fs, hv, rf⟩ := A1.get hk
        cases r1 with | own e => rw [ha] at e; cases e; exact ⟨_, _, _, rfl, hv, rf.none hl⟩
    obtain ⟨a, dx, fs, e, hv, hm⟩ := key
    refine ⟨a, dx, fs, e, hv, hm, p σ G1 H1 al1 (hB.trans n1) (hσ.nx n1) A1 _ fun vs ds μ2 G2 H2 al2 n2 A2 r2 p2 => ?_⟩
    rw [List.append_nil]
    exact ⟨G2, al2, x :: ds, μ2, P, PX, A2, .cons (r1.nx n2) r2, p2, hQ.nx (n1.trans n2), hE.nx (hB.trans (n1.trans n2))⟩
/-- C(..): the new instance is frozen behind its __init__ -/
theorem de_make {Cc : Addr} (hE : XAg K B PX E) (hd : ∀ G al, Rps K G al dvs dds) (h : DA K B ts ρ μ fun ds μ1 => C (.own μ1.length :: (ds ++ dds)) (μ1 ++ [.ins Cc []]) (fun d μ2 => d = .non ∧ ∃ gs, μ2 = μ1 ++ [.ins Cc gs] ∧ clF gs μ1.length = true ∧ P (.obj Cc gs) μ1) (RetX μ1.length PX)) : DE K B (tMake Cc (spD K C) dvs E ts) ρ μ P := fun σ G H al hB hσ hA Q hQ =>
  h σ G H al hB hσ hA _ fun vs ds μ1 G1 H1 al1 n1 A1 r1 p1 => by
    intro x dx hx hdx hne
    -- the own dict first
    have nx1 : x ≠ dx := hne.symm
    have A2 : As K G1 (upd H1 dx (.own x)) al1 μ1 ∧ Nx G1 H1 al1 G1 (upd H1 dx (.own x)) al1 := by
      have gd : G1 dx = none := A1.sub.free hdx
      have nal : dx ∉ al1 := fun m => A1.here dx m hdx
      refine ⟨⟨fun b u e => by rw [upd_ne (ne_of_none e gd)]; exact A1.sub _ _ e, A1.nd, A1.len, fun a m => ?_, fun k a o e1 e2 => ?_⟩, ⟨Same.refl _, Pre.refl _, fun a u h _ => by rw [upd_ne (ne_of_none h hdx)]; exact h, fun _ _ _ _ g => g, fun _ m => .inl m⟩⟩
      · have z : a ≠ dx := fun z => nal (z ▸ m)
        rw [upd_ne z]; exact A1.here a m
      · have z : a ≠ dx := fun z => nal (z ▸ List.mem_of_getElem? e1)
        exact OkO.mono (Same.refl _) (Pre.refl _) (fun _ g => g) (by rw [upd_ne z]) (A1.ok k a o e1 e2)
    obtain ⟨A2, n2⟩ := A2
    have hx2 : (upd H1 dx (.own x)) x = none := by rw [upd_ne nx1]; exact hx
    obtain ⟨A3, n3⟩ := A2.own (o := .ins Cc dx []) (m := .ins Cc []) hx2 ⟨A2.sub.free hx2, dx, [], upd_same, .nil⟩
    refine ⟨G1, al1 ++ [x], .own μ1.length :: (ds ++ dds), μ1 ++ [.ins Cc []], _, _, A3, .cons (.own (by rw [← A1.len]; simp)) ((((r1.nx n2).nx n3).append (hd _ _))), p1, ?_, by rw [← A1.len]; exact (hE.nx (hB.trans n1)).ret (n2.trans n3)⟩
    intro v d μ2 G4 H4 al4 n4 A4 r4 p4
    obtain ⟨rfl, gs, rfl, hcl, hp⟩ := p4
    cases r4
    refine ⟨rfl, ?_⟩
    have hal : al4[μ1.length]? = some x := n4.p.get (by rw [← A1.len]; simp)
    obtain ⟨a, ha, ga, dx4, fs4, hv4, rf4⟩ := A4.get (k := μ1.length) (m := .ins Cc gs) (by simp)
    rw [hal] at ha; cases ha
    obtain ⟨A5, n5⟩ := A4.freeze hal hv4 ga
    have nn : Nx G1 H1 al1 (upd G4 x (.ins Cc dx4 fs4)) H4 al4 := ((n2.trans n3).trans n4).trans n5
    obtain ⟨be, rfl⟩ := nn.p
    have e5 : (μ1 ++ [MO.ins Cc gs]).set μ1.length MO.dead = μ1 ++ [.dead] := by simp
    rw [e5] at A5
    refine hQ (.ref x) (.obj Cc gs) μ1 _ H4 al1 (n1.trans nn.shrink) (A5.shrink A1.len A1.cl) ?_ hp
    exact .obj upd_same ((rf4.nx n5).shrink (by rw [A1.len]; exact hcl))
theorem da_nd : ∀ G al, Rps K G al [] [] := fun _ _ => .nil
end
end Dl
set_option Elab.async false
set_option linter.all false
set_option maxRecDepth 100000
namespace L2
open PySem PySem.Spec PyProof.Rows
section
variable {X : Cx} {a b c d : Expr} {ta tb tc td : TE} {pos : Pos}
/-- a op1 b op2 c op3 d -/
def tChain3 (r r' r3 : R2) (ta tb tc td : TE) : TE := fun σ H Q => ta σ H fun x H1 => tb σ H1 fun y H2 => r x y H2 fun z H3 => ∃ k, z = .bl k ∧
  (if k = true then tc σ H3 fun w' H4 => r' y w' H4 fun z2 H5 => ∃ k2, z2 = .bl k2 ∧ (if k2 = true then td σ H5 fun u H6 => r3 w' u H6 Q else Q (.bl false) H5) else Q (.bl false) H3)
end
/-- two readings of one expression -/
theorem PE.or {X : Cx} {e : Expr} {t u : TE} (h : PE X e t) (h' : PE X e u) : PE X e (fun σ H Q => t σ H Q ∨ u σ H Q) := ⟨fun pins s σ H Q I hw => hw.elim (h.run pins s σ H Q I) (h'.run pins s σ H Q I)⟩
/-! ### operators of any kind -/
def rAddS : R2 := fun x y H Q => ∃ i j, x = .str i ∧ y = .str j ∧ i.length + j.length ≤ sizeLine ∧ Q (.str (i ++ j)) H
def rAddA (K : PySem.W.Frag) : R2 := fun x y H Q => rI0 (fun i j => .int (i + j)) x y H Q ∨ rCat x y H Q ∨ rAddS x y H Q ∨ rCatT K x y H Q
def rMulA : R2 := fun x y H Q => rI CMul (fun i j => .int (i * j)) x y H Q ∨ rI CMulW (fun i j => .int (i * j)) x y H Q ∨ rRep x y H Q
section
variable {X : Cx}
theorem op_addA : OpR X (binaryOp .Add) (rAddA X.K) := op_add.or (op_cat.or (op_add_str.or op_catT))
theorem op_mulA : OpR X (binaryOp .Mult) rMulA := op_mul.or (op_mulW.or op_rep)
end
def rFdivA : R2 := fun x y H Q => rI CDivW (fun i j => .int (i / j)) x y H Q ∨ rI CDivN (fun i j => .int (i.fdiv j)) x y H Q
def rModA : R2 := fun x y H Q => rI (fun _ j => 0 < j) (fun i j => .int (i % j)) x y H Q ∨ rI (fun _ j => j ≠ 0) (fun i j => .int (i.fmod j)) x y H Q
def rInSg : R2 := fun x y H Q => ∃ (c : Nat) (z : Str), x = .str ⟨#[c]⟩ ∧ y = .str z ∧ Q (.bl (decide (c ∈ z.cps.toList))) H
def rInSt : R2 := fun x y H Q => ∃ i j, x = .str i ∧ y = .str j ∧ Q (.bl (!(Builtin.Str.occurrences j i 0 j.length 1).isEmpty)) H
def rInA (K : PySem.W.Frag) : R2 := fun x y H Q => rIn K false x y H Q ∨ rInSg x y H Q ∨ rInSt x y H Q
section
variable {X : Cx}
theorem op_fdivA : OpR X (binaryOp .FloorDiv) rFdivA := op_fdivW.or op_fdivN
theorem op_modA : OpR X (binaryOp .Mod) rModA := op_mod.or op_modN
theorem op_inA : OpR X (compareOp .In) (rInA X.K) := op_in_seq.or (op_in_sign.or op_in_str)
end
def rNotInA (K : PySem.W.Frag) : R2 := fun x y H Q => rIn K true x y H Q ∨ (fun x y H Q => ∃ (c : Nat) (z : Str), x = .str ⟨#[c]⟩ ∧ y = .str z ∧ Q (.bl (!decide (c ∈ z.cps.toList))) H) x y H Q
theorem op_notInA {X : Cx} : OpR X (compareOp .NotIn) (rNotInA X.K) := op_notIn_seq.or op_notIn_sign
/-- a list, a tuple, a text walked -/
def iAny (K : PySem.W.Frag) (tl : TE) : TI := fun σ H R => tl σ H fun x H1 => (∃ a, x = .ref a ∧ (∃ xs, SqL K H1 a xs) ∧ R (Itl K a) H1) ∨ (∃ a, x = .ref a ∧ (∃ xs, SqT K H1 a xs) ∧ R (Itt K a) H1) ∨ ∃ s, x = .str s ∧ R (Its s) H1
theorem pi_any {X : Cx} {tg l : Expr} {tl : TE} (hl : PE X l tl) : PI X tg l (iAny X.K tl) := by
  refine ⟨fun pins s σ H R I h => ?_⟩
  refine thn (hl.run pins s σ H _ I h) fun v s1 ⟨x, H1, I1, r1, q1⟩ => ?_
  rcases q1 with ⟨a, e, ⟨xs, hq⟩, q⟩ | ⟨a, e, ⟨xs, hq⟩, q⟩ | ⟨z, e, q⟩
  · subst e
    cases r1
    obtain ⟨its, rv, p, hz⟩ := I1.list hq
    refine wpAny_pyIter_list p.isList ?_
    refine ⟨s1.heap.objs.size, [s1.heap.objs.size], _, _, H1, rfl, I1.kept (t' := s1.toks) fun b o e => Heap.get?_push_of_some _ e, turn_list a _, ⟨_, Heap.get?_push_size _ rfl, rfl, rfl⟩, fun b hb => ?_, q⟩
    have e : b = s1.heap.objs.size := by simpa using hb
    subst e
    exact I1.fpOk (Nat.le_refl _) (I1.hok.fresh (Nat.le_refl _))
  · subst e
    cases r1
    obtain ⟨its, rv, p, hz⟩ := I1.tuple hq
    refine wpAny_pyIter_tuple (show s1.heap.IsTuple a its.toArray from p) ?_
    refine ⟨s1.heap.objs.size, [s1.heap.objs.size], _, _, H1, rfl, I1.kept (t' := s1.toks) fun b o e => Heap.get?_push_of_some _ e, turn_tuple a _, ⟨_, Heap.get?_push_size _ rfl, rfl, rfl⟩, fun b hb => ?_, q⟩
    have e : b = s1.heap.objs.size := by simpa using hb
    subst e
    exact I1.fpOk (Nat.le_refl _) (I1.hok.fresh (Nat.le_refl _))
  · subst e
    obtain ⟨t, rfl⟩ := r1
    cases ha : z.cps.all (· < 128)
    · exact wpAny_pyIter_wide ha (pi_one (tk := s1.toks) I1 _ (turn_str _ z t "str_iterator" (.inr rfl)) ⟨_, Heap.get?_push_size _ rfl, rfl, rfl⟩ q)
    · exact wpAny_pyIter_ascii ha (pi_one (tk := s1.toks) I1 _ (turn_str _ z t "str_ascii_iterator" (.inl rfl)) ⟨_, Heap.get?_push_size _ rfl, rfl, rfl⟩ q)
def rSlA (K : PySem.W.Frag) : V → Option Int → Option Int → Hp → VK → Prop := fun x lo hi H Q => rSlL K x lo hi H Q ∨ (∃ z, x = .str z ∧ z.length ≤ sizeLine ∧ Q (.str (cutS z lo hi)) H) ∨ rSlT K x lo hi H Q
theorem sl_any {X : Cx} : SlR X (rSlA X.K) := sl_list.or (sl_str.or sl_tup)
/-- an own exception without an __init__ of its own -/
structure ExC (K : PySem.W.Frag) (mg : Str → Option Value) (x : Str) : Prop where
  xc : PySem.W.excIn K (He.ga K x) He.veBase "ValueError.__new__" = true
  gc : mg x = some (.ref (He.ga K x))
  kc : PySem.W.keepIn K (.ref (He.ga K x)) = true
  bc : PySem.W.subIn K (.ref (He.ga K x)) (.type "BaseException") = some true
  tc : PySem.W.typeIn K (.ref (He.ga K x)) = some (.type "type")
/-- a value's truth -/
def tTruth (K : PySem.W.Frag) (ta : TE) : TT := fun σ H Q => ta σ H fun x H' => ∃ k, TruV K x H' k ∧ Q k H'
/-- a raise of an own class without fields -/
def tRaise0 (C : Addr) (E : XK) : TS := fun _ σ H => E (.ref C) none H
def _root_.Dl.rLen (K : PySem.W.Frag) : List V → Hp → VK → Prop := fun xs H Q => ∃ x n, xs = [x] ∧ LenV K x H n ∧ Q (.int (n : Nat)) H
def rMax2 : List V → Hp → VK → Prop := fun xs H Q => ∃ i j, xs = [.int i, .int j] ∧ Q (.int (if j > i then j else i)) H
def rMin2 : List V → Hp → VK → Prop := fun xs H Q => ∃ i j, xs = [.int i, .int j] ∧ Q (.int (if j < i then j else i)) H
def rMaxA (K : PySem.W.Frag) : List V → Hp → VK → Prop := fun xs H Q => rMax2 xs H Q ∨ rMax K xs H Q
def rMinA (K : PySem.W.Frag) : List V → Hp → VK → Prop := fun xs H Q => rMin2 xs H Q ∨ rMin K xs H Q
theorem call_maxA {X : Cx} (hc : X.calm = true) : CallR X (.builtin "max") (rMaxA X.K) := (call_max2 hc).or (cr_max hc)
theorem call_minA {X : Cx} (hc : X.calm = true) : CallR X (.builtin "min") (rMinA X.K) := (call_min2 hc).or (cr_min hc)
def rListOf (K : PySem.W.Frag) : List V → Hp → VK → Prop := fun xs H Q => ∃ p ys, xs = [.ref p] ∧ (SqL K H p ys ∨ SqT K H p ys) ∧ ∀ l, H l = none → Q (.ref l) (upd H l (.lst ys))
def rDivmod : List V → Hp → VK → Prop := fun xs H Q => ∃ i j, xs = [.int i, .int j] ∧ CDiv i j ∧ ∀ p, H p = none → Q (.ref p) (upd H p (.tup [.int (i / j), .int (i % j)]))
end L2
namespace Dl
open PySem L2 PyProof.Rows
section
variable {K : PySem.W.Frag} {μ : Mu} {P : D → Mu → Prop} {i j : Int} {x y d : D} {ds es : List D}
theorem ro_addI (h : P (.int (i + j)) μ) : RO K (rAddA K) (.int i) (.int j) μ P := fun G H al v w A r1 r2 Q hQ => .inl (ro_i (f := fun i j => i + j) h G H al v w A r1 r2 Q hQ)
theorem ro_addL (h1 : Lt μ x ds) (h2 : Lt μ y es) (hs : ds.length + es.length ≤ 100000) (h : P (.lst (ds ++ es)) μ) : RO K (rAddA K) x y μ P := fun G H al v w A r1 r2 Q hQ => .inr (.inl (ro_cat h1 h2 hs h G H al v w A r1 r2 Q hQ))
theorem ro_addS {s t : Str} (hs : s.length + t.length ≤ 100000) (h : P (.str (s ++ t)) μ) : RO K (rAddA K) (.str s) (.str t) μ P := fun G H al v w A r1 r2 Q hQ => by
  cases r1; cases r2
  exact .inr (.inr (.inl ⟨s, t, rfl, rfl, Nat.le_trans hs (by decide), hQ.now A (.str _) h⟩))
theorem ro_mulI (hc : CMul i j) (h : P (.int (i * j)) μ) : RO K rMulA (.int i) (.int j) μ P := fun G H al v w A r1 r2 Q hQ => .inl (ro_ic (f := fun i j => i * j) hc h G H al v w A r1 r2 Q hQ)
def repD (xs : List D) (k : Int) : List D := (List.replicate k.toNat xs).flatten
theorem rps_rep {G : Hp} {al : List Addr} {vs : List V} (h : Rps K G al vs ds) (n : Nat) : Rps K G al (List.replicate n vs).flatten (List.replicate n ds).flatten := by
  induction n with
  | zero => exact .nil
  | succ n ih => rw [List.replicate_succ, List.replicate_succ, List.flatten_cons, List.flatten_cons]; exact h.append ih
theorem ro_rep (h1 : Lt μ x ds) (hj : -100000 ≤ j ∧ j ≤ 100000) (hs : ds.length * j.toNat ≤ 100000) (h : P (.lst (repD ds j)) μ) : RO K rMulA x (.int j) μ P := fun G H al v w A r1 r2 Q hQ => by
  obtain ⟨a, ws, rfl, s1, rs1⟩ := h1.get A r1
  cases r2
  refine .inr (.inr ⟨a, j, ws, rfl, rfl, s1, by omega, by omega, by rw [rs1.length]; exact Nat.le_trans hs (by decide), fun p hp => ?_⟩)
  obtain ⟨A2, n2⟩ := A.frz (o := .lst (List.replicate j.toNat ws).flatten) hp
  exact hQ _ _ μ _ _ _ n2 A2 (.lst upd_same ((rps_rep rs1 j.toNat).nx n2)) h
theorem rc_max2' (h : P (.int (max i j)) μ) : RC K (rMaxA K) [.int i, .int j] μ P := fun G H al vs A r Q hQ => .inl (rc_max2 h G H al vs A r Q hQ)
theorem rc_min2' (h : P (.int (min i j)) μ) : RC K (rMinA K) [.int i, .int j] μ P := fun G H al vs A r Q hQ => .inl (rc_min2 h G H al vs A r Q hQ)
theorem rc_lenL (hl : Ls μ x ds) (h : P (.int (ds.length : Int)) μ) : RC K (rLen K) [x] μ P := rc_len hl h
theorem rc_lenT' (hl : Ts x ds) (h : P (.int (ds.length : Int)) μ) : RC K (rLen K) [x] μ P := rc_lenT hl h
theorem rc_lenS' {s : Str} (hs : s.length ≤ 100000) (h : P (.int (s.length : Int)) μ) : RC K (rLen K) [.str s] μ P := rc_lenS hs h
theorem rc_list (hl : Ls μ x ds) (h : P (.lst ds) μ) : RC K (rListOf K) [x] μ P := fun G H al vs A r Q hQ => by
  obtain ⟨v, rfl, r1⟩ := rps1 r
  obtain ⟨a, ws, rfl, s, rs⟩ := hl.get A r1
  refine ⟨a, ws, rfl, .inl s, fun p hp => ?_⟩
  obtain ⟨A2, n2⟩ := A.frz (o := .lst ws) hp
  exact hQ _ _ μ _ _ _ n2 A2 (.lst upd_same (rs.nx n2)) h
theorem rc_listO (hl : Ls μ x ds) (h : P (.own μ.length) (μ ++ [.lst ds])) : RC K (rListOf K) [x] μ P := fun G H al vs A r Q hQ => by
  obtain ⟨v, rfl, r1⟩ := rps1 r
  obtain ⟨a, ws, rfl, s, rs⟩ := hl.get A r1
  refine ⟨a, ws, rfl, .inl s, fun p hp => ?_⟩
  obtain ⟨A2, n2⟩ := A.own (o := .lst ws) (m := .lst ds) hp ⟨A.sub.free hp, _, upd_same, rs.mono (Same.refl _) ⟨[p], rfl⟩⟩
  exact hQ _ _ _ _ _ _ n2 A2 (.own (by rw [← A.len]; simp)) h
theorem rc_divmod (hc : CDiv i j) (h : P (.tup [.int (i / j), .int (i % j)]) μ) : RC K rDivmod [.int i, .int j] μ P := fun G H al vs A r Q hQ => by
  obtain ⟨v, w, rfl, r1, r2⟩ := rps2 r
  cases r1; cases r2
  refine ⟨i, j, rfl, hc, fun p hp => ?_⟩
  obtain ⟨A2, n2⟩ := A.frz (o := .tup [.int (i / j), .int (i % j)]) hp
  exact hQ _ _ μ _ _ _ n2 A2 (.tup upd_same (.cons (.int _) (.cons (.int _) .nil))) h
end
section
variable {K : PySem.W.Frag} {B : Bs} {ρ : En} {μ : Mu} {P : D → Mu → Prop} {ta tb te tc td : TE} {PT' : Bool → Mu → Prop}
theorem de_chain3 {r r' r3 : R2} (h : DE K B ta ρ μ fun x μ1 => DE K B tb ρ μ1 fun y μ2 => RO K r x y μ2 fun z μ3 => ∃ b, z = .bl b ∧ (b = true → DE K B tc ρ μ3 fun w μ4 => RO K r' y w μ4 fun z2 μ5 => ∃ b2, z2 = .bl b2 ∧
      (b2 = true → DE K B td ρ μ5 fun u μ6 => RO K r3 w u μ6 P) ∧ (b2 = false → P (.bl false) μ5)) ∧ (b = false → P (.bl false) μ3)) :
    DE K B (tChain3 r r' r3 ta tb tc td) ρ μ P := fun σ G H al hB hσ hA Q hQ =>
  h σ G H al hB hσ hA _ fun v d μ1 G1 H1 al1 n1 A1 r1 p1 => p1 σ G1 H1 al1 (hB.trans n1) (hσ.nx n1) A1 _ fun w e μ2 G2 H2 al2 n2 A2 r2 p2 =>
    p2 G2 H2 al2 v w A2 (r1.nx n2) r2 _ fun z dz μ3 G3 H3 al3 n3 A3 r3 p3 => by
      obtain ⟨b, rfl, pt, pf⟩ := p3
      cases r3
      refine ⟨b, rfl, ?_⟩
      have nn3 := (n1.trans n2).trans n3
      cases b with
      | false =>
        rw [if_neg (by simp)]
        exact hQ (.bl false) _ μ3 G3 H3 al3 nn3 A3 (.bl _) (pf rfl)
      | true =>
        rw [if_pos rfl]
        refine pt rfl σ G3 H3 al3 (hB.trans nn3) (hσ.nx nn3) A3 _ fun u du μ4 G4 H4 al4 n4 A4 r4 p4 => p4 G4 H4 al4 w u A4 ((r2.nx n3).nx n4) r4 _ fun z5 dz5 μ5 G5 H5 al5 n5 A5 r5 p5 => ?_
        obtain ⟨b2, rfl, pt2, pf2⟩ := p5
        cases r5
        refine ⟨b2, rfl, ?_⟩
        have nn5 := (nn3.trans n4).trans n5
        cases b2 with
        | false =>
          rw [if_neg (by simp)]
          exact hQ (.bl false) _ μ5 G5 H5 al5 nn5 A5 (.bl _) (pf2 rfl)
        | true =>
          rw [if_pos rfl]
          exact pt2 rfl σ G5 H5 al5 (hB.trans nn5) (hσ.nx nn5) A5 _ fun u6 du6 μ6 G6 H6 al6 n6 A6 r6 p6 => p6 G6 H6 al6 u u6 A6 ((r4.nx n5).nx n6) r6 Q (hQ.nx (nn5.trans n6))
theorem dt_truth (h : DE K B te ρ μ fun x μ1 => ∃ b, x = .bl b ∧ PT' b μ1) : DT K B (tTruth K te) ρ μ PT' := fun σ G H al hB hσ hA Q hQ =>
  h σ G H al hB hσ hA _ fun v d μ1 G1 H1 al1 n1 A1 r1 p1 => by
    obtain ⟨b, rfl, p⟩ := p1
    cases r1
    exact ⟨b, rfl, hQ b μ1 G1 H1 al1 n1 A1 p⟩
theorem ds_raise0 {C : Addr} {E : XK} {PX : PXT} {Pe : DEnds} (hE : XAg K B PX E) (h : PX C [] μ) : DS K B (tRaise0 C E) ρ μ Pe := fun σ G H al hB hσ hA De hD =>
  hE C [] none μ G H al hB hA (.inl ⟨rfl, rfl⟩) h
end
end Dl
set_option Elab.async false
set_option linter.all false
set_option maxRecDepth 100000
namespace Dl
open PySem L2 PyProof.Rows
section
variable {K : PySem.W.Frag} {μ : Mu} {P : D → Mu → Prop} {i j : Int} {x y d : D} {ds es : List D}
theorem ro_fdiv (hc : 0 < j) (hj : j.natAbs.log2 < 9000) (h : P (.int (i / j)) μ) : RO K rFdivA (.int i) (.int j) μ P := fun G H al v w A r1 r2 Q hQ => .inl (ro_ic (f := fun i j => i / j) ⟨hc, hj⟩ h G H al v w A r1 r2 Q hQ)
theorem ro_mod (hc : 0 < j) (h : P (.int (i % j)) μ) : RO K rModA (.int i) (.int j) μ P := fun G H al v w A r1 r2 Q hQ => .inl (ro_ic (f := fun i j => i % j) (C := fun _ j => 0 < j) hc h G H al v w A r1 r2 Q hQ)
theorem ro_pow (hc : CPow i j) (h : P (.int (i ^ j.toNat)) μ) : RO K (rI CPow fun i j => .int (i ^ j.toNat)) (.int i) (.int j) μ P := ro_ic (f := fun i j => i ^ j.toNat) hc h
theorem ro_isB {a b : Bool} (h : P (.bl (decide (a = b))) μ) : RO K rIsB (.bl a) (.bl b) μ P := fun G H al v w A r1 r2 Q hQ => by
  cases r1; cases r2
  exact ⟨a, b, rfl, rfl, hQ.now A (.bl _) h⟩
theorem ro_notB {a b : Bool} (h : P (.bl (!decide (a = b))) μ) : RO K rNotB (.bl a) (.bl b) μ P := fun G H al v w A r1 r2 Q hQ => by
  cases r1; cases r2
  exact ⟨a, b, rfl, rfl, hQ.now A (.bl _) h⟩
end
section
variable {K : PySem.W.Frag} {B : Bs} {ρ : En} {μ : Mu} {te ta : TE} {ts : TA} {PI' : List D → (Mu → Prop) → Mu → Prop} {P : DEnds} {t u v : TS}
/-- what a datum is walked as; S: what must stay of what may change -/
inductive Wk (μ : Mu) : D → List D → (Mu → Prop) → Prop
  | lst (ds : List D) : Wk μ (.lst ds) ds (fun _ => True)
  | rdl (ds : List D) : Wk μ (.rdl ds) ds (fun _ => True)
  | own {k : Nat} {ds : List D} (h : μ[k]? = some (.lst ds)) : Wk μ (.own k) ds (fun μ' => μ'[k]? = some (.lst ds))
  | tup (ds : List D) : Wk μ (.tup ds) ds (fun _ => True)
  | rdt (ds : List D) : Wk μ (.rdt ds) ds (fun _ => True)
  | str (s : Str) : Wk μ (.str s) (signsD s) (fun _ => True)
theorem itt_ok {G H : Hp} {al : List Addr} {a : Addr} {ds : List D} {S : Mu → Prop} (h : ∀ G2 H2 al2 μ2, Nx G H al G2 H2 al2 → As K G2 H2 al2 μ2 → S μ2 → ∃ vs, SqT K H2 a vs ∧ Rps K G2 al2 vs ds) : ItOk K (Itt K a) ds S G H al := fun G2 H2 al2 μ2 n A s => by
  obtain ⟨vs, sq, r⟩ := h G2 H2 al2 μ2 n A s
  refine ⟨fun i hi => ⟨vs, vs[i]'(by rw [r.length]; exact hi), sq, by simp⟩, fun i hi => ⟨vs, sq, by rw [r.length]; exact hi⟩, fun i x H3 y d hd => ?_⟩
  obtain ⟨rfl, y⟩ := y
  obtain ⟨d', hd', r'⟩ := r.getV (y vs sq)
  rw [hd] at hd'; cases hd'
  exact ⟨G2, .refl, A, r'⟩
theorem di_any (h : DE K B te ρ μ fun x μ1 => ∃ ds S, Wk μ1 x ds S ∧ PI' ds S μ1) : DI K B (iAny K te) ρ μ PI' := fun σ G H al hB hσ hA R hR =>
  h σ G H al hB hσ hA _ fun v d μ1 G1 H1 al1 n1 A1 r1 p1 => by
    obtain ⟨ds, S, wk, p⟩ := p1
    cases wk with
    | lst =>
      cases r1 with
      | lst e rs => exact .inl ⟨_, rfl, ⟨_, .inl (.inl (A1.sub _ _ e))⟩, hR _ ds _ μ1 G1 H1 al1 n1 A1 (itl_ok fun G2 H2 al2 μ2 n2 A2 _ => ⟨_, .inl (.inl (A2.sub _ _ (n2.g _ _ e))), rs.nx n2⟩) p⟩
    | rdl =>
      cases r1 with
      | rdl e rs => exact .inl ⟨_, rfl, ⟨_, sql_mono A1.sub e⟩, hR _ ds _ μ1 G1 H1 al1 n1 A1 (itl_ok fun G2 H2 al2 μ2 n2 A2 _ => ⟨_, sql_mono A2.sub (sql_mono n2.g e), rs.nx n2⟩) p⟩
    | own hk =>
      obtain ⟨a, ha, ga, vs, hv, rs⟩ := A1.get hk
      cases r1 with
      | own e =>
        rw [ha] at e; cases e
        refine .inl ⟨_, rfl, ⟨_, .inl (.inl hv)⟩, hR _ ds _ μ1 G1 H1 al1 n1 A1 (itl_ok fun G2 H2 al2 μ2 n2 A2 s => ?_) p⟩
        obtain ⟨a2, ha2, ga2, vs2, hv2, rs2⟩ := A2.get s
        rw [n2.p.get ha] at ha2; cases ha2
        exact ⟨vs2, .inl (.inl hv2), rs2⟩
    | tup =>
      cases r1 with
      | tup e rs => exact .inr (.inl ⟨_, rfl, ⟨_, .inl (.inl (A1.sub _ _ e))⟩, hR _ ds _ μ1 G1 H1 al1 n1 A1 (itt_ok fun G2 H2 al2 μ2 n2 A2 _ => ⟨_, .inl (.inl (A2.sub _ _ (n2.g _ _ e))), rs.nx n2⟩) p⟩)
    | rdt =>
      cases r1 with
      | rdt e rs => exact .inr (.inl ⟨_, rfl, ⟨_, sqt_mono A1.sub e⟩, hR _ ds _ μ1 G1 H1 al1 n1 A1 (itt_ok fun G2 H2 al2 μ2 n2 A2 _ => ⟨_, sqt_mono A2.sub (sqt_mono n2.g e), rs.nx n2⟩) p⟩)
    | str x =>
      cases r1
      refine .inr (.inr ⟨x, rfl, hR _ _ _ μ1 G1 H1 al1 n1 A1 (fun G2 H2 al2 μ2 n2 A2 _ => ?_) p⟩)
      have hl : (signsD x).length = x.cps.size := by simp [signsD]
      rw [hl]
      refine ⟨fun i hi => hi, fun i hi => hi, fun i y H3 hy d hd => ?_⟩
      obtain ⟨rfl, c, hc, rfl⟩ := hy
      have : d = .str ⟨#[c]⟩ := by
        simp only [signsD, List.getElem?_map, Array.getElem?_toList, hc] at hd
        exact (Option.some.inj hd).symm
      subst this
      exact ⟨G2, .refl, A2, .str _⟩
theorem di_enum' (h : DA K B ts ρ μ fun xs μ1 => ∃ x ds S, xs = [x] ∧ Ls μ1 x ds ∧ Wk μ1 x ds S ∧ PI' (enumD ds) S μ1) : DI K B (iEnum K ts) ρ μ PI' := di_enum (fun σ G H al hB hσ hA Q hQ => h σ G H al hB hσ hA Q fun vs ds' μ' G' H' al' n A r p => hQ vs ds' μ' G' H' al' n A r (by
  obtain ⟨x, ds, S, e, ls, wk, p⟩ := p
  refine ⟨x, ds, e, ?_⟩
  cases wk with
  | lst => exact .inl ⟨rfl, p⟩
  | rdl => exact .inr (.inl ⟨rfl, p⟩)
  | own hk => exact .inr (.inr ⟨_, rfl, hk, p⟩)
  | tup => cases ls
  | rdt => cases ls
  | str => cases ls))
/-! ### statements with what follows -/
theorem q_set {i : Nat} (h : DE K B te ρ μ fun d μ1 => DS K B u (ρ.set i (some d)) μ1 P) : DS K B (tSeq (tAsg te (gName i)) u) ρ μ P := ds_seq (ds_set h)
theorem q_asg {g : TG} (h : DE K B te ρ μ fun d μ1 => DG K B g d ρ μ1 fun ρ2 μ2 => DS K B u ρ2 μ2 P) : DS K B (tSeq (tAsg te g) u) ρ μ P := ds_seq (ds_asg h)
theorem q_drop (h : DE K B te ρ μ fun d μ1 => DS K B u ρ μ1 P) : DS K B (tSeq (tDrop te) u) ρ μ P := ds_seq (ds_drop h)
/-- an if without else -/
theorem q_when {c : TT} (h : DT K B c ρ μ fun b μ1 => (b = true → DS K B t ρ μ1 { P with nx := fun ρ1 μ1 => DS K B u ρ1 μ1 P }) ∧ (b = false → DS K B u ρ μ1 P)) : DS K B (tSeq (tIfS c t tNext) u) ρ μ P :=
  ds_seq (ds_if fun σ G H al hB hσ hA Q hQ => h σ G H al hB hσ hA Q fun b μ1 G1 H1 al1 n1 A1 p1 => hQ b μ1 G1 H1 al1 n1 A1 ⟨p1.1, fun e => ds_next (p1.2 e)⟩)
theorem s_when {c : TT} (h : DT K B c ρ μ fun b μ1 => (b = true → DS K B t ρ μ1 P) ∧ (b = false → P.nx ρ μ1)) : DS K B (tIfS c t tNext) ρ μ P :=
  ds_if fun σ G H al hB hσ hA Q hQ => h σ G H al hB hσ hA Q fun b μ1 G1 H1 al1 n1 A1 p1 => hQ b μ1 G1 H1 al1 n1 A1 ⟨p1.1, fun e => ds_next (p1.2 e)⟩
theorem q_if {c : TT} (h : DT K B c ρ μ fun b μ1 => (b = true → DS K B t ρ μ1 { P with nx := fun ρ1 μ1 => DS K B u ρ1 μ1 P }) ∧ (b = false → DS K B v ρ μ1 { P with nx := fun ρ1 μ1 => DS K B u ρ1 μ1 P })) : DS K B (tSeq (tIfS c t v) u) ρ μ P := ds_seq (ds_if h)
theorem q_for {wi : TI} {g : TG} {tb : TS} (h : DI K B wi ρ μ fun ds S μ1 => ∃ Iv : Nat → En → Mu → Prop, Iv 0 ρ μ1 ∧ (∀ i ρ' μ', i ≤ ds.length → Iv i ρ' μ' → S μ') ∧
      (∀ i d ρ' μ', ds[i]? = some d → Iv i ρ' μ' → DG K B g d ρ' μ' fun ρ2 μ2 => DS K B tb ρ2 μ2 { nx := Iv (i + 1), ct := Iv (i + 1), bk := fun ρ1 μ1 => DS K B u ρ1 μ1 P, rt := P.rt }) ∧ (∀ ρ' μ', Iv ds.length ρ' μ' → DS K B u ρ' μ' P)) : DS K B (tSeq (tFor wi g tb) u) ρ μ P := ds_seq (ds_for h)
theorem q_fld {f : Str} {tb : TE} (h : DE K B tb ρ μ fun y μ1 => DE K B ta ρ μ1 fun x μ2 => ∃ k C gs, x = .own k ∧ μ2[k]? = some (.ins C gs) ∧ Cls K C ∧ NoAttr K C f ∧ gs.length < 1000 ∧ DS K B u ρ (μ2.set k (.ins C (putD f y gs))) P) : DS K B (tSeq (sFld K ta tb f) u) ρ μ P := ds_seq (ds_fld h)
theorem q_par {i j : Nat} (h : DA K B ts ρ μ fun ds μ1 => ∃ x y, ds = [x, y] ∧ DS K B u ((ρ.set i (some x)).set j (some y)) μ1 P) : DS K B (tSeq (tPar i j ts) u) ρ μ P := ds_seq (ds_par h)
end
/-- the n-th thing from the end of what may change -/
theorem mu_last {μ : Mu} {o : MO} : (μ ++ [o])[μ.length]? = some o := by simp
theorem mu_old {μ ext : Mu} {k : Nat} {o : MO} (h : μ[k]? = some o) : (μ ++ ext)[k]? = some o := by
  rw [List.getElem?_append_left (List.getElem?_eq_some_iff.mp h).1]
  exact h
theorem set_last {μ : Mu} {o o' : MO} : (μ ++ [o]).set μ.length o' = μ ++ [o'] := by simp
theorem set_old {μ ext : Mu} {k : Nat} {o o' : MO} (h : μ[k]? = some o) : (μ ++ ext).set k o' = μ.set k o' ++ ext := by
  rw [List.set_append_left _ _ (List.getElem?_eq_some_iff.mp h).1]
theorem set_get {μ : Mu} {k : Nat} {o o' : MO} (h : μ[k]? = some o) : (μ.set k o')[k]? = some o' := by
  rw [List.getElem?_set_self (List.getElem?_eq_some_iff.mp h).1]
theorem set_set' {μ : Mu} {k : Nat} {o o' : MO} : (μ.set k o).set k o' = μ.set k o' := by simp
/-- a fresh list handed on: frozen, or to be changed -/
def Fresh (xs : List D) (μ : Mu) (P : D → Mu → Prop) : Prop := P (.lst xs) μ ∨ P (.own μ.length) (μ ++ [.lst xs])
/-! ### defs by their contracts -/
section
variable {P : Program} {w : World} {K : PySem.W.Frag} {mg : Str → Option Value} {base : Heap}
theorem fn_DD {x qual : Str} {st : Stmt} {dvs : List V} {kws : List (Str × V)} {f : Addr} {fd : FuncData} {N ps : List Str} {k : Nat} {C : CT} {t : XK → TS} (F : FunD K x qual (defArgs st) (defBody st) (defScope st) dvs kws f fd) (S : FnScope N ps (defScope st)) (len : ∀ ds μ P PX, C ds μ P PX → ds.length = ps.length) (hN : ps.length ≤ N.length)
    (body : ∀ (cdv : Value) (A : Around) (outer : List Env) (s : Shared) (H : Hp) (E : XK), Room k (A.deeper (envOfC qual (defScope st) s.heap.objs.size f cdv)) → PSs (cxOf (L2.CX P w) P w K mg base N qual (defScope st) f cdv A outer s H E) (defBody st) (t E))
    (sem : ∀ ds μ P PX, C ds μ P PX → MuCl μ μ.length → clL ds μ.length = true → ∀ B E, XAg K B (RetX μ.length PX) E → DS K B (t E) (startD N ds) μ (fnE μ.length P)) : FnOk P w K mg base (L2.CX P w) (k + 1) f fd ps (spD K C) := by
  refine F.ok S (fun vs H Q E h => ?_) (fun cdv A outer s H vs Q E hr h => ⟨t E, body cdv A outer s H E hr, sem_of (fun ds μ P PX c => by rw [len ds μ P PX c]; exact hN) sem h⟩)
  obtain ⟨G, al, ds, μ, P, PX, A, r, c, _⟩ := h
  rw [r.length]
  exact len ds μ P PX c
end
end Dl
set_option Elab.async false
set_option linter.all false
set_option maxRecDepth 100000
namespace Dl
open PySem L2 PyProof.Rows
mutual
theorem D.cl_mono : ∀ (d : D) {n m : Nat}, n ≤ m → d.cl n = true → d.cl m = true
  | .tup xs, n, m, l, h => by unfold D.cl at h ⊢; exact clL_mono xs l h
  | .lst xs, n, m, l, h => by unfold D.cl at h ⊢; exact clL_mono xs l h
  | .rdl xs, n, m, l, h => by unfold D.cl at h ⊢; exact clL_mono xs l h
  | .rdt xs, n, m, l, h => by unfold D.cl at h ⊢; exact clL_mono xs l h
  | .obj _ gs, n, m, l, h => by unfold D.cl at h ⊢; exact clF_mono gs l h
  | .dct gs, n, m, l, h => by unfold D.cl at h ⊢; exact clK_mono gs l h
  | .own k, n, m, l, h => by unfold D.cl at h ⊢; simp at h ⊢; omega
  | .non, n, m, l, h => by simp [D.cl]
  | .bl _, n, m, l, h => by simp [D.cl]
  | .int _, n, m, l, h => by simp [D.cl]
  | .str _, n, m, l, h => by simp [D.cl]
  | .ty _, n, m, l, h => by simp [D.cl]
  | .loc _, n, m, l, h => by simp [D.cl]
  | .exc _ gs, n, m, l, h => by unfold D.cl at h ⊢; exact clF_mono gs l h
theorem clL_mono : ∀ (d : List D) {n m : Nat}, n ≤ m → clL d n = true → clL d m = true
  | [], _, _, _, _ => by simp [clL]
  | x :: xs, n, m, l, h => by
    unfold clL at h ⊢; simp at h ⊢
    exact ⟨D.cl_mono x l h.1, clL_mono xs l h.2⟩
theorem clF_mono : ∀ (d : List (Str × D)) {n m : Nat}, n ≤ m → clF d n = true → clF d m = true
  | [], _, _, _, _ => by simp [clF]
  | (_, x) :: xs, n, m, l, h => by
    unfold clF at h ⊢; simp at h ⊢
    exact ⟨D.cl_mono x l h.1, clF_mono xs l h.2⟩
theorem clK_mono : ∀ (d : List (Key × D)) {n m : Nat}, n ≤ m → clK d n = true → clK d m = true
  | [], _, _, _, _ => by simp [clK]
  | (_, x) :: xs, n, m, l, h => by
    unfold clK at h ⊢; simp at h ⊢
    exact ⟨D.cl_mono x l h.1, clK_mono xs l h.2⟩
end
theorem MO.cl_mono (o : MO) {n m : Nat} (l : n ≤ m) (h : o.cl n = true) : o.cl m = true := by
  cases o with
  | dead => rfl
  | lst xs => exact clL_mono xs l h
  | ins _ gs => exact clF_mono gs l h
  | dK gs => exact clK_mono gs l h
  | dT gs => exact clL_mono _ l h
  | tab _ _ => rfl
theorem MuCl.mono {μ : Mu} {n m : Nat} (h : MuCl μ n) (l : n ≤ m) : MuCl μ m := fun o ho => MO.cl_mono o l (h o ho)
theorem MuCl.app {μ : Mu} {o : MO} (h : MuCl μ μ.length) (ho : o.cl μ.length = true) : MuCl (μ ++ [o]) (μ ++ [o]).length := fun x hx => by
  rw [List.length_append]
  rcases List.mem_append.mp hx with m | m
  · exact MO.cl_mono x (by simp) (h x m)
  · simp at m; subst m; exact MO.cl_mono _ (by simp) ho
theorem br {b : Bool} {A C : Prop} (h1 : b = true → A) (h2 : b = false → C) : (b = true → A) ∧ (b = false → C) := ⟨h1, h2⟩
theorem br' {b : Bool} {A C : Prop} (h1 : b = false → A) (h2 : b = true → C) : (b = false → A) ∧ (b = true → C) := ⟨h1, h2⟩
theorem Wk.now {μ : Mu} {x : D} {ds : List D} {S : Mu → Prop} (h : Wk μ x ds S) : S μ := by
  cases h with
  | own h => exact h
  | _ => trivial
theorem Ls.wk {μ : Mu} {x : D} {ds : List D} (h : Ls μ x ds) : ∃ S, Wk μ x ds S := by
  cases h with
  | lst => exact ⟨_, .lst _⟩
  | rdl => exact ⟨_, .rdl _⟩
  | own h => exact ⟨_, .own h⟩
section
variable {K : PySem.W.Frag} {B : Bs} {ρ : En} {μ : Mu} {te : TE} {tt : TT} {wi : TI} {g : TG} {vs : List Nat} {P : D → Mu → Prop}
/-- [f d for d in ds], nothing changes -/
theorem lc_map (f : D → D) (hg : GW g vs) (h : DI K B wi ρ μ fun ds S μ1 => S μ1 ∧ ds.length ≤ 100000 ∧ (∀ (i : Nat) (d : D), ds[i]? = some d → DG K B g d (wipeD ρ vs) μ1 fun ρ2 μ2 => μ2 = μ1 ∧ DE K B te ρ2 μ1 fun y μ3 => y = f d ∧ μ3 = μ1) ∧ ∀ out, ds.map f = out → P (.lst out) μ1) : DE K B (tLc wi g tYes te vs) ρ μ P := by
  refine de_lc hg fun σ G H al hB hσ hA R hR => h σ G H al hB hσ hA R fun J ds S μ1 G1 H1 al1 n1 A1 ok p => hR J ds S μ1 G1 H1 al1 n1 A1 ok ?_
  obtain ⟨hS, hl, hs, hp⟩ := p
  refine ⟨hl, fun i acc μ' => acc = (ds.take i).map f ∧ μ' = μ1, ⟨by simp, rfl⟩, fun i acc μ' _ h => by rw [h.2]; exact hS, fun i d acc μ' hd h => ?_, fun acc μ' h => ?_⟩
  · obtain ⟨rfl, rfl⟩ := h
    refine fun σ G H al v hB hσ hA rv Q hQ => hs i d hd σ G H al v hB hσ hA rv Q fun σ2 ρ2 μ2 G2 H2 al2 n2 hσ2 A2 p2 => hQ σ2 ρ2 μ2 G2 H2 al2 n2 hσ2 A2 ?_
    obtain ⟨rfl, p2⟩ := p2
    refine dt_yes ⟨fun _ => p2.imp fun y μ3 ⟨e1, e2⟩ => ⟨?_, e2⟩, fun z => by cases z⟩
    rw [e1, List.take_add_one, hd]
    simp
  · obtain ⟨rfl, rfl⟩ := h
    rw [List.take_length]
    exact hp _ rfl
/-- [f d for d in ds if p d] -/
theorem lc_filt (p : D → Bool) (f : D → D) (hg : GW g vs) (h : DI K B wi ρ μ fun ds S μ1 => S μ1 ∧ ds.length ≤ 100000 ∧ (∀ (i : Nat) (d : D), ds[i]? = some d → DG K B g d (wipeD ρ vs) μ1 fun ρ2 μ2 => μ2 = μ1 ∧ DT K B tt ρ2 μ1 fun b μ3 => b = p d ∧ μ3 = μ1 ∧ (b = true → DE K B te ρ2 μ1 fun y μ4 => y = f d ∧ μ4 = μ1)) ∧ ∀ out, (ds.filter p).map f = out → P (.lst out) μ1) : DE K B (tLc wi g tt te vs) ρ μ P := by
  refine de_lc hg fun σ G H al hB hσ hA R hR => h σ G H al hB hσ hA R fun J ds S μ1 G1 H1 al1 n1 A1 ok p' => hR J ds S μ1 G1 H1 al1 n1 A1 ok ?_
  obtain ⟨hS, hl, hs, hp⟩ := p'
  refine ⟨hl, fun i acc μ' => acc = ((ds.take i).filter p).map f ∧ μ' = μ1, ⟨by simp, rfl⟩, fun i acc μ' _ h => by rw [h.2]; exact hS, fun i d acc μ' hd h => ?_, fun acc μ' h => ?_⟩
  · obtain ⟨rfl, rfl⟩ := h
    refine fun σ G H al v hB hσ hA rv Q hQ => hs i d hd σ G H al v hB hσ hA rv Q fun σ2 ρ2 μ2 G2 H2 al2 n2 hσ2 A2 p2 => hQ σ2 ρ2 μ2 G2 H2 al2 n2 hσ2 A2 ?_
    obtain ⟨rfl, p2⟩ := p2
    refine fun σ G H al hB hσ hA Q hQ => p2 σ G H al hB hσ hA Q fun b μ3 G3 H3 al3 n3 A3 p3 => hQ b μ3 G3 H3 al3 n3 A3 ?_
    obtain ⟨hb, rfl, p3⟩ := p3
    have e : (List.take (i + 1) ds) = List.take i ds ++ [d] := by rw [List.take_add_one, hd]; rfl
    refine ⟨fun hbt => (p3 hbt).imp fun y μ4 ⟨e1, e2⟩ => ⟨?_, e2⟩, fun hbf => ⟨?_, rfl⟩⟩
    · rw [e, List.filter_append, List.map_append, e1]
      rw [hb] at hbt
      simp [hbt]
    · rw [e, List.filter_append, List.map_append]
      rw [hb] at hbf
      simp [hbf]
  · obtain ⟨rfl, rfl⟩ := h
    rw [List.take_length]
    exact hp _ rfl
end
end Dl
set_option Elab.async false
set_option linter.all false
set_option maxRecDepth 100000
namespace Dl
open PySem L2 PyProof.Rows
/-- a law's end: the written part, the function object, the contract over every base -/
theorem walk_ofW {l : PySem.W.OpenLaw} {n k : Nat} {q : Program} {loose : List Str} {XP : (Str → Option Value) → Heap → Prop} {YP : World → Heap → Prop} {d : DefRec} {x : Str}
    (hn : l.most = some n) (hn2 : n ≤ sizeLine) (hdf : d.params.defaults = []) (hr : Room k callerA)
    (F : ∀ (w : World) (mg : Str → Option Value) (fa : Addr) (h : Heap), YP w h → h.Ns mainGlobals mg → mg d.name = some (.ref fa) →
      ∃ (K : PySem.W.Frag) (fd : FuncData) (sp : Sp), K.In h ∧ (∀ (s : Shared) (u : Value), BindsTo s fd ⟨[u], []⟩ [(x, u)]) ∧
        (∀ (H : Hp) (a : Addr) (ns : List Int), ns.length ≤ n → Only H → SqL K H a (ns.map V.int) → sp [.ref a] H (fun v _ => v = .bl true) fun _ _ _ => False) ∧
        ∀ base : Heap, K.In base → base.Ns mainGlobals mg → FnOk l.prog w K mg base (L2.CX l.prog w) k fa fd [x] sp) :
    PySem.W.WalkO q loose XP YP l.row.toRowW d [] (fun f vs => PySem.call f vs) := by
  refine Att.attach_call hn hdf fun w s0 s1 mg mb fa o pm cd doc a vs ns G Y ho hd hcd hmg hobj hints hlen hg => ?_
  obtain ⟨K, fd, sp, KX, hb, hsp, hF⟩ := F w mg fa _ Y G.T.g hmg
  refine law_call KX G.T.g G.T.b G.T.builtins G.T.nolimit hg hobj hints (Nat.le_trans hlen hn2) hr hF hb (fun H hO hS => hsp H a ns hlen hO hS) fun H e s' c => ?_
  obtain ⟨_, _, _, _, _, _, _, _, _, _, _, _, z⟩ := c
  exact z
theorem law_sp {K : PySem.W.Frag} {H : Hp} {a : Addr} {ns : List Int} {C : CT} (hS : SqL K H a (ns.map V.int)) (h : C [.rdl (ns.map D.int)] [] (fun d _ => d = .bl true) (fun _ _ _ => False)) : spD K C [.ref a] H (fun v _ => v = .bl true) (fun _ _ _ => False) := by
  refine ⟨H, [], [.rdl (ns.map D.int)], [], _, _, ⟨Same.refl _, by simp, rfl, by simp, fun k a o e _ => by simp at e⟩, .cons (.rdl hS (Rps.of_ints ns)) .nil, h, ?_, ?_⟩
  · intro v d μ' G' H' al' _ _ r p
    subst p
    cases r
    rfl
  · intro C fs dd μ' G' H' al' _ _ _ p
    exact p
end Dl
set_option Elab.async false
set_option linter.all false
set_option maxRecDepth 100000
namespace Dl
open PySem L2 PyProof.Rows
section
variable {K : PySem.W.Frag} {B : Bs} {ρ : En} {μ : Mu} {P : D → Mu → Prop} {te : TE} {x y : D} {ds : List D} {i j : Int}
/-- xs[::-1] -/
theorem de_revL (h : DE K B te ρ μ fun x μ1 => ∃ ds, Ls μ1 x ds ∧ P (.lst ds.reverse) μ1) : DE K B (tRevL K te) ρ μ P := fun σ G H al hB hσ hA Q hQ =>
  h σ G H al hB hσ hA _ fun v d μ1 G1 H1 al1 n1 A1 r1 p1 => by
    obtain ⟨ds, ls, p⟩ := p1
    obtain ⟨a, vs, rfl, sq, rs⟩ := ls.get A1 r1
    refine ⟨a, vs, rfl, sq, fun p' hp => ?_⟩
    obtain ⟨A2, n2⟩ := A1.frz (o := .lst vs.reverse) hp
    exact hQ _ _ μ1 _ _ _ (n1.trans n2) A2 (.lst upd_same (rs.reverse.nx n2)) p
theorem inV_ints (i : Int) (ns : List Int) : inV (.int i) (ns.map V.int) = decide (i ∈ ns) := by
  unfold inV
  induction ns with
  | nil => simp
  | cons n ns ih =>
    rw [List.map_cons, List.any_cons, ih]
    by_cases h : n = i
    · subst h; simp [eqV]
    · have h2 : ¬ i = n := fun e => h e.symm
      simp [eqV, h, h2]
theorem inV_strs (i : Str) (ns : List Str) : inV (.str i) (ns.map V.str) = decide (i ∈ ns) := by
  unfold inV
  induction ns with
  | nil => simp
  | cons n ns ih =>
    rw [List.map_cons, List.any_cons, ih]
    by_cases h : n = i
    · subst h; simp [eqV]
    · have h2 : ¬ i = n := fun e => h e.symm
      simp [eqV, h, h2]
theorem flat_ints (ns : List Int) : (ns.map V.int).all flatV = true := by simp [flatV]
theorem flat_strs (ns : List Str) : (ns.map V.str).all flatV = true := by simp [flatV]
theorem ro_notInI {ns : List Int} (hl : Ls μ y (ns.map D.int)) (h : P (.bl (!decide (i ∈ ns))) μ) : RO K (rNotInA K) (.int i) y μ P := fun G H al v w A r1 r2 Q hQ => by
  obtain ⟨a, vs, rfl, sq, rs⟩ := hl.get A r2
  cases r1
  have e := rs.ints; subst e
  refine .inl ⟨a, _, rfl, .inl sq, rfl, flat_ints ns, hQ.now A (.bl _) ?_⟩
  rw [if_pos rfl, inV_ints]; exact h
theorem ro_notInS {s : Str} {ns : List Str} (hl : Ls μ y (ns.map D.str)) (h : P (.bl (!decide (s ∈ ns))) μ) : RO K (rNotInA K) (.str s) y μ P := fun G H al v w A r1 r2 Q hQ => by
  obtain ⟨a, vs, rfl, sq, rs⟩ := hl.get A r2
  cases r1
  have e := rs.strs; subst e
  refine .inl ⟨a, _, rfl, .inl sq, rfl, flat_strs ns, hQ.now A (.bl _) ?_⟩
  rw [if_pos rfl, inV_strs]; exact h
theorem eqv_nil (ds : List D) : eqvD (.lst ds) (.lst []) = decide (ds = []) := by
  cases ds with
  | nil => simp [eqvD_lst, eqvL, pyL, PyData.eqvAll]
  | cons d ds => simp [eqvD_lst, eqvL, pyL, PyData.eqvAll]
theorem ro_eqNil {n : Nat} (hx : Fz μ x (.lst ds)) (hs : shpL ds n = true) (h : P (.bl (decide (ds = []))) μ) (hn : n ≤ 63 := by decide) : RO K (rEqD K) x (.lst []) μ P :=
  ro_eqD (n := n + 1) (m := 1) hx (.id _) (by simpa [D.shp] using hs) rfl (by rw [eqv_nil]; exact h) (by omega)
/-- .. of at most a hundred thousand -/
def Sz (n : Nat) : Prop := n ≤ 100000
theorem de_tupZ {ts : TA} (h : DA K B ts ρ μ fun xs μ1 => Sz xs.length ∧ P (.tup xs) μ1) : DE K B (tTup ts) ρ μ P := de_tup h
theorem de_lstZ {ts : TA} (h : DA K B ts ρ μ fun xs μ1 => Sz xs.length ∧ P (.lst xs) μ1) : DE K B (tLst ts) ρ μ P := de_lst h
theorem de_lstOZ {ts : TA} (h : DA K B ts ρ μ fun xs μ1 => Sz xs.length ∧ P (.own μ1.length) (μ1 ++ [.lst xs])) : DE K B (tLst ts) ρ μ P := de_lstO h
/-- two things -/
def Two (ds : List D) (F : D → D → Prop) : Prop := ∃ x y, ds = [x, y] ∧ F x y
theorem two_i {F : D → D → Prop} (h : F x y) : Two [x, y] F := ⟨x, y, rfl, h⟩
theorem ds_parZ {ts : TA} {i j : Nat} {P : DEnds} (h : DA K B ts ρ μ fun ds μ1 => Two ds fun x y => P.nx ((ρ.set i (some x)).set j (some y)) μ1) : DS K B (tPar i j ts) ρ μ P := ds_par h
theorem q_parZ {ts : TA} {i j : Nat} {u : TS} {P : DEnds} (h : DA K B ts ρ μ fun ds μ1 => Two ds fun x y => DS K B u ((ρ.set i (some x)).set j (some y)) μ1 P) : DS K B (tSeq (tPar i j ts) u) ρ μ P := q_par h
theorem rs_anyL {lo hi : Option Int} (hl : Ls μ x ds) (h : P (.lst (cutD ds lo hi)) μ) : RS K (rSlA K) x lo hi μ P := fun G H al v A r Q hQ => .inl (rs_lst hl h G H al v A r Q hQ)
end
end Dl
set_option Elab.async false
set_option linter.all false
set_option maxRecDepth 100000
namespace L2
open PySem PySem.Spec PyProof.Rows
section
variable {X : Cx}
/-- o[i] of a list, by values -/
theorem get_list : PGet X (rIxL X.K) := by
  intro pins s σ H x y v u Q I rx ry h
  obtain ⟨p, xs, i, z, rfl, rfl, hq, he, q⟩ := h
  cases rx
  obtain ⟨t, rfl⟩ := ry
  obtain ⟨its, r, pl, hz⟩ := I.list hq
  obtain ⟨j, h1, h2, h3, h4, h5⟩ := atI_get he
  obtain ⟨w, ew, rw'⟩ := r.get h2
  have hl := r.length
  have hn := line63
  have fin : EP X pins σ Q w s := ⟨z, H, I, rw', q⟩
  by_cases h0 : 0 ≤ i
  · have hj : i.toNat = j := by
      rw [seqIndex_of h0 h5] at h1
      exact Option.some.inj h1
    exact wpAny_getItem_list pl.isList h0 (by omega) (by rw [hj]; simpa using ew) fin
  · have hj : (i + (its.toArray.size : Int)).toNat = j := by
      rw [seqIndex_neg (by omega) h4] at h1
      rw [List.size_toArray, ← hl]
      exact Option.some.inj h1
    exact wpAny_getItem_list_neg pl.isList (by omega) (by rw [List.size_toArray] <;> omega) (by omega) (by rw [hj]; simpa using ew) fin
end
end L2
namespace Dl
open PySem L2 PyProof.Rows
section
variable {K : PySem.W.Frag} {B : Bs} {ρ : En} {μ : Mu} {te to ti : TE} {t u : TS} {x y d : D} {ds : List D} {i j : Int}
theorem ro_ixLL {P : D → Mu → Prop} (hl : Ls μ x ds) (e : atI ds i = some d) (h : P d μ) : RO K (rIxL K) x (.int i) μ P := fun G H al v w A r1 r2 Q hQ => by
  obtain ⟨a, vs, rfl, sq, rs⟩ := hl.get A r1
  cases r2
  obtain ⟨w, hw, rw'⟩ := atI_rps rs e
  exact ⟨a, vs, i, w, rfl, rfl, sq, hw, hQ.now A rw' h⟩
theorem ds_augS {P : DEnds} {tip : TIp} {tset : TSet} {tget : V → V → Hp → VK → Prop} (h : DE K B to ρ μ fun o μ1 => DE K B ti ρ μ1 fun i μ2 => RO K tget o i μ2 fun x μ3 => DE K B te ρ μ3 fun y μ4 => RO K tip x y μ4 fun z μ5 => RSet K tset o i z μ5 fun μ6 => P.nx ρ μ6) : DS K B (tAugS to ti te tget tip tset) ρ μ P := fun σ G H al hB hσ hA De hD =>
  h σ G H al hB hσ hA _ fun vo o μ1 G1 H1 al1 n1 A1 r1 p1 => p1 σ G1 H1 al1 (hB.trans n1) (hσ.nx n1) A1 _ fun vi i μ2 G2 H2 al2 n2 A2 r2 p2 =>
    p2 G2 H2 al2 vo vi A2 (r1.nx n2) r2 _ fun vx x μ3 G3 H3 al3 n3 A3 r3 p3 =>
      p3 σ G3 H3 al3 ((hB.trans n1).trans (n2.trans n3)) (((hσ.nx n1).nx n2).nx n3) A3 _ fun vy y μ4 G4 H4 al4 n4 A4 r4 p4 =>
        p4 G4 H4 al4 vx vy A4 (r3.nx n4) r4 _ fun vz z μ5 G5 H5 al5 n5 A5 r5 p5 =>
          p5 G5 H5 al5 vo vi vz A5 ((((r1.nx n2).nx n3).nx n4).nx n5) (((r2.nx n3).nx n4).nx n5) r5 _ fun μ6 G6 H6 al6 n6 A6 p6 =>
            hD.nx _ _ μ6 G6 H6 al6 (((((n1.trans n2).trans n3).trans n4).trans n5).trans n6) ((((((hσ.nx n1).nx n2).nx n3).nx n4).nx n5).nx n6) A6 p6
theorem q_augS {P : DEnds} {tip : TIp} {tset : TSet} {tget : V → V → Hp → VK → Prop} (h : DE K B to ρ μ fun o μ1 => DE K B ti ρ μ1 fun i μ2 => RO K tget o i μ2 fun x μ3 => DE K B te ρ μ3 fun y μ4 => RO K tip x y μ4 fun z μ5 => RSet K tset o i z μ5 fun μ6 => DS K B u ρ μ6 P) : DS K B (tSeq (tAugS to ti te tget tip tset) u) ρ μ P := ds_seq (ds_augS h)
/-! ### fields, methods -/
/-- a field's data -/
def FldP (K : PySem.W.Frag) (μ : Mu) (x : D) (f : Str) (P : D → Prop) : Prop := ∃ C gs d, (x = .obj C gs ∨ ∃ k, x = .own k ∧ μ[k]? = some (.ins C gs)) ∧ Cls K C ∧ NoAttr K C f ∧ gs.lookup f = some d ∧ P d
theorem de_fldZ {f : Str} {P : D → Mu → Prop} (h : DE K B te ρ μ fun x μ1 => FldP K μ1 x f fun d => P d μ1) : DE K B (tFld K te f) ρ μ P := de_fld h
theorem fp_obj {f : Str} {C : Addr} {gs : List (Str × D)} {P : D → Prop} (c : Cls K C) (n : NoAttr K C f) (l : gs.lookup f = some d) (h : P d) : FldP K μ (.obj C gs) f P := ⟨C, gs, d, .inl rfl, c, n, l, h⟩
theorem fp_own {f : Str} {k : Nat} {C : Addr} {gs : List (Str × D)} {P : D → Prop} (hk : μ[k]? = some (.ins C gs)) (c : Cls K C) (n : NoAttr K C f) (l : gs.lookup f = some d) (h : P d) : FldP K μ (.own k) f P := ⟨C, gs, d, .inr ⟨k, rfl, hk⟩, c, n, l, h⟩
def MethP (μ : Mu) (Cc : Addr) (m : Str) (x : D) (P : Prop) : Prop := ∃ gs, (x = .obj Cc gs ∨ ∃ k, x = .own k ∧ μ[k]? = some (.ins Cc gs)) ∧ gs.lookup m = none ∧ P
theorem de_methZ {Cc : Addr} {m : Str} {C : CT} {E : XK} {PX : PXT} {ts : TA} {P : D → Mu → Prop} (hE : XAg K B PX E) (h : DE K B te ρ μ fun x μ1 => MethP μ1 Cc m x (DA K B ts ρ μ1 fun ds μ2 => C (x :: ds) μ2 P PX)) : DE K B (tMeth Cc m (spD K C) [] E te ts) ρ μ P := de_meth hE h
theorem mp_obj {Cc : Addr} {m : Str} {gs : List (Str × D)} {P : Prop} (l : gs.lookup m = none) (h : P) : MethP μ Cc m (.obj Cc gs) P := ⟨gs, .inl rfl, l, h⟩
theorem mp_own {Cc : Addr} {m : Str} {k : Nat} {gs : List (Str × D)} {P : Prop} (hk : μ[k]? = some (.ins Cc gs)) (l : gs.lookup m = none) (h : P) : MethP μ Cc m (.own k) P := ⟨gs, .inr ⟨k, rfl, hk⟩, l, h⟩
/-- a store into a field -/
def PutP (K : PySem.W.Frag) (μ : Mu) (x y : D) (f : Str) (P : Mu → Prop) : Prop := ∃ k C gs, x = .own k ∧ μ[k]? = some (.ins C gs) ∧ Cls K C ∧ NoAttr K C f ∧ gs.length < 1000 ∧ P (μ.set k (.ins C (putD f y gs)))
theorem ds_fldZ {f : Str} {tb : TE} {P : DEnds} (h : DE K B tb ρ μ fun y μ1 => DE K B te ρ μ1 fun x μ2 => PutP K μ2 x y f fun μ3 => P.nx ρ μ3) : DS K B (sFld K te tb f) ρ μ P := ds_fld h
theorem q_fldZ {f : Str} {tb : TE} {P : DEnds} (h : DE K B tb ρ μ fun y μ1 => DE K B te ρ μ1 fun x μ2 => PutP K μ2 x y f fun μ3 => DS K B u ρ μ3 P) : DS K B (tSeq (sFld K te tb f) u) ρ μ P := q_fld h
theorem pp_own {f : Str} {k : Nat} {C : Addr} {gs : List (Str × D)} {P : Mu → Prop} (hk : μ[k]? = some (.ins C gs)) (c : Cls K C) (n : NoAttr K C f) (l : gs.length < 1000) (h : P (μ.set k (.ins C (putD f y gs)))) : PutP K μ (.own k) y f P := ⟨k, C, gs, rfl, hk, c, n, l, h⟩
/-! ### steps in thought alone: what is known of the store is put otherwise -/
def Gh (K : PySem.W.Frag) (μ μ2 : Mu) : Prop := ∀ G H al, As K G H al μ → ∃ G', As K G' H al μ2 ∧ Nx G H al G' H al
theorem Gh.refl : Gh K μ μ := fun G H al A => ⟨G, A, .refl⟩
theorem Gh.trans {μ1 μ2 : Mu} (h : Gh K μ μ1) (h' : Gh K μ1 μ2) : Gh K μ μ2 := fun G H al A => by
  obtain ⟨G1, A1, n1⟩ := h G H al A
  obtain ⟨G2, A2, n2⟩ := h' G1 H al A1
  exact ⟨G2, A2, n1.trans n2⟩
/-- .. behind a statement -/
theorem ds_ghostN {P : DEnds} (h : DS K B t ρ μ { P with nx := fun ρ1 μ1 => ∃ μ2, Gh K μ1 μ2 ∧ P.nx ρ1 μ2 }) : DS K B t ρ μ P := fun σ G H al hB hσ hA De hD =>
  h σ G H al hB hσ hA De ⟨fun σ' ρ' μ' G' H' al' n' hσ' A' p => by
    obtain ⟨μ2, g, p⟩ := p
    obtain ⟨G1, A1, n1⟩ := g G' H' al' A'
    exact hD.nx σ' ρ' μ2 G1 H' al' (n'.trans n1) (hσ'.nx n1) A1 p, hD.rt, hD.bk, hD.ct⟩
end
theorem rpf_own {K : PySem.W.Frag} {G : Hp} {al : List Addr} {a : Addr} {j : Nat} {d : D} {f : Str} (ha : al[j]? = some a) (r : Rp K G al (.ref a) d) : ∀ {gs : List (Str × D)} {fs : List (Str × V)}, Rpf K G al fs gs → gs.lookup f = some (.own j) → Rpf K G al fs (putD f d gs)
  | [], _, _, e => by simp at e
  | (g, x) :: gs, _, h, e => by
    cases h with
    | @cons _ v vs _ _ r0 t =>
      unfold putD
      rw [List.lookup_cons] at e
      split
      · rename_i hg
        subst hg
        simp at e
        subst e
        cases r0 with
        | own e2 => rw [ha] at e2; cases e2; exact .cons r t
      · rename_i hg
        have hg2 : (f == g) = false := by simp; exact fun e => hg e.symm
        rw [hg2] at e
        exact .cons r0 (rpf_own ha r t e)
/-- a list in a field is frozen -/
theorem gh_fld {K : PySem.W.Frag} {μ : Mu} {k j : Nat} {C : Addr} {gs : List (Str × D)} {f : Str} {ds : List D} (hk : μ[k]? = some (.ins C gs)) (hl : gs.lookup f = some (.own j)) (hj : μ[j]? = some (.lst ds)) : Gh K μ ((μ.set j .dead).set k (.ins C (putD f (.lst ds) gs))) := fun G H al A => by
  obtain ⟨a, ha, ga, vs, hv, rs⟩ := A.get hj
  obtain ⟨A1, n1⟩ := A.freeze ha hv ga
  have hjk : j ≠ k := fun e => by rw [e, hk] at hj; cases hj
  have hk1 : (μ.set j .dead)[k]? = some (.ins C gs) := by rw [List.getElem?_set_ne hjk]; exact hk
  obtain ⟨b, hb, gb, dx, fs, hfs, rf⟩ := A1.get hk1
  have r2 : Rp K (upd G a (.lst vs)) al (.ref a) (.lst ds) := .lst upd_same (rs.nx n1)
  have hup : upd H b (.ins C dx fs) = H := by
    funext z
    by_cases hz : z = b
    · subst hz; rw [upd_same, hfs]
    · rw [upd_ne hz]
  obtain ⟨A2, n2⟩ := A1.put (o := .ins C dx fs) (m' := .ins C (putD f (.lst ds) gs)) hb hk1 (by simp) ⟨gb, dx, fs, upd_same, rpf_own ha r2 rf hl⟩
  rw [hup] at A2 n2
  exact ⟨_, A2, n1.trans n2⟩
theorem atNN {α : Type} {xs : List α} {i : Int} (h0 : 0 ≤ i) (h1 : i < xs.length) : ∃ x, atI xs i = some x ∧ xs[i.toNat]? = some x := by
  have h : i.toNat < xs.length := by omega
  refine ⟨xs[i.toNat], ?_, List.getElem?_eq_getElem h⟩
  have e : ((i.toNat : Nat) : Int) = i := by omega
  have := atI_nat (List.getElem?_eq_getElem h)
  rw [e] at this
  exact this
theorem log2S {m : Int} (h0 : 0 < m) (h : m < 2 ^ 200) : m.natAbs.log2 < 9000 := by
  have h1 : m.natAbs < 2 ^ 200 := by omega
  have : m.natAbs.log2 < 200 := (Nat.log2_lt (by omega)).mpr h1
  omega
end Dl
set_option Elab.async false
set_option linter.all false
set_option maxRecDepth 100000
/-! sets of any number of texts: how many there are -/
namespace DlSet
open PySem PySem.Spec PyProof.Rows
abbrev setO (led : Bool) : Obj := { cls := .type "set", dict := none, data := .set #[] 0 (.fresh 0 0 led) }
def ded (xs : List Str) (i : Nat) : List Str := (xs.take i).foldl (fun σ v => if σ.any (· == v) then σ else σ ++ [v]) []
theorem ded_succ {xs : List Str} {i : Nat} {x : Str} (h : xs[i]? = some x) : ded xs (i + 1) = if (ded xs i).any (· == x) then ded xs i else ded xs i ++ [x] := by
  unfold ded
  rw [List.take_add_one, h, List.foldl_append]
  rfl
theorem ded_len (xs : List Str) (i : Nat) : (ded xs i).length ≤ i := by
  induction i with
  | zero => simp [ded]
  | succ i ih =>
    cases q : xs[i]? with
    | none =>
      have : xs.take (i + 1) = xs.take i := by rw [List.take_add_one, q]; simp
      unfold ded at ih ⊢
      rw [this]; omega
    | some x =>
      rw [ded_succ q]
      split
      · omega
      · simp; omega
section
variable {prog : Program} {w : World} {A : Around} {R : Result → Shared → Prop} {I : Addr} {fp wr : List Addr} {G : Array GenState → Array GenState → Prop} {n : Nat} {P : Nat → Value → Prop} {St : Nat → Shared → Prop}
theorem loopS (W : WalksS prog w A.in1 I fp wr G n P St) (S : Addr) (hSf : S ∉ fp) (xs : List Str) (hsz : xs.length = n) (hb : n + 1 < scanBound)
    (hval : ∀ i v, P i v → ∃ t, v = .str (xs.getD i Str.empty) t) :
    ∀ (k i : Nat) (s : Shared), n - i = k → i ≤ n → St i s →
      s.heap.SetOf (PySem.strKind prog w) S (fun k' => (ded xs i).any (· == k')) (ded xs i).length →
      (∀ s', Moved (S :: wr) G s s' → s'.heap.SetOf (PySem.strKind prog w) S (fun k' => (ded xs n).any (· == k')) (ded xs n).length → R (.ok (.ret .none)) s') →
      codeAny (model prog w) A (.builtin "set.update.loop" ⟨[.ref S, .ref I], []⟩) R s := by
  have hSw : S ∉ wr := fun h => hSf (W.sub _ h)
  have hsub : ∀ b ∈ wr, b ∈ S :: wr := fun b hb => List.mem_cons_of_mem _ hb
  intro k
  induction k with
  | zero =>
    intro i s hk hi hst hS hR
    have hin : i = n := by omega
    subst hin
    refine codeAny_builtin PyProof.Rows.F.entry_set_update_loop ?_
    rw [Around.under_plainId PyProof.Rows.F.plain_set_update_loop _]
    show wpAny _ A.in1 (pyNext (.ref I) >>= _) _ _ s
    refine wpAny_bind (W.done s _ _ hst fun s' hm => ?_)
    show wpAny _ A.in1 (ret Value.none) _ _ s'
    refine wpAny_pure (hR s' (hm.mono hsub) ?_)
    obtain ⟨o, es, ep, t, ho, rest⟩ := hS
    exact ⟨o, es, ep, t, hm.heap S _ hSw ho, rest⟩
  | succ k ih =>
    intro i s hk hi hst hS hR
    have hlt : i < n := by omega
    have hx : xs[i]? = some (xs.getD i Str.empty) := by
      rw [List.getD_eq_getElem?_getD, List.getElem?_eq_getElem (by omega)]
      rfl
    refine codeAny_builtin PyProof.Rows.F.entry_set_update_loop ?_
    rw [Around.under_plainId PyProof.Rows.F.plain_set_update_loop _]
    show wpAny _ A.in1 (pyNext (.ref I) >>= _) _ _ s
    refine wpAny_bind (W.item i s _ _ hlt hst fun v s' hP hst' hm => ?_)
    obtain ⟨t, rfl⟩ := hval i v hP
    have hS' : s'.heap.SetOf (PySem.strKind prog w) S (fun k' => (ded xs i).any (· == k')) (ded xs i).length := by
      obtain ⟨o, es, ep, tb, ho, rest⟩ := hS
      exact ⟨o, es, ep, tb, hm.heap S _ hSw ho, rest⟩
    show wpAny _ A.in1 (holding [Value.str (xs.getD i Str.empty) t] (setAdd S (.str (xs.getD i Str.empty) t)) >>= _) _ _ s'
    refine wpAny_bind (wpAny_holding ?_)
    unfold setAdd
    refine wpAny_holding ?_
    refine wpAny_bind ((PySem.strKind prog w).pyHash (k := xs.getD i Str.empty) (strKind_is _ _ _ _) ?_)
    have hroom : (ded xs i).length + 1 < scanBound := by have := ded_len xs i; omega
    refine wpAny_setAddHashed_of (knd := PySem.strKind prog w) (s := { s' with toks := s'.toks + 1 }) (strKind_is _ _ _ _) rfl hS' hroom fun h' hsb hS2 => ?_
    have hSi : h'.SetOf (PySem.strKind prog w) S (fun k' => (ded xs (i + 1)).any (· == k')) (ded xs (i + 1)).length := by
      refine SetOf_congr hS2 (fun k' => ?_) ?_
      · rw [ded_succ hx]
        by_cases hc : (ded xs i).any (· == xs.getD i Str.empty) = true
        · rw [if_pos hc]
          by_cases e : k' = xs.getD i Str.empty
          · subst e; rw [hc]; simp
          · rw [decide_eq_false e, Bool.or_false]
        · rw [if_neg hc, List.any_append]
          congr 1
          by_cases e : k' = xs.getD i Str.empty
          · subst e; simp
          · have : (xs.getD i Str.empty == k') = false := by simpa [beq_iff_eq] using (fun h' => e h'.symm)
            simp only [List.any_cons, List.any_nil, Bool.or_false, this]
            simpa using e
      · rw [ded_succ hx]
        split <;> simp
    refine wpAny_pure ⟨plainId_quiet PyProof.Rows.F.plain_set_update_loop _, ih (i + 1) _ (by omega) hlt (W.frame _ s' _ _ hst' (Nat.le_succ _) fun b hb o e => ?_) hSi fun s'' hm'' hS'' => ?_⟩
    · rw [hsb.2 b (fun h : b = S => hSf (by rw [← h]; exact hb))]; exact e
    · refine hR s'' (Moved.trans W.gtrans ((hm.mono hsub).then_heap (Nat.le_succ _) fun b o hb e => ?_) hm'') hS''
      rw [hsb.2 b (fun h : b = S => hb (by rw [h]; exact List.mem_cons_self))]; exact e
end
section
variable {prog : Program} {w : World} {A : Around} {E : Value → Shared → Prop} {s : Shared}
set_option maxHeartbeats 3200000 in
theorem call_set_texts {l : Addr} {items : Array Value} {xs : List Str} {Q : Value → Shared → Prop}
    (hh : A.handled = none) (hl : s.heap.IsList l items) (hi : PyProof.Rows.StrsAre items.toList xs) (hb : items.size + 1 < scanBound)
    (h : ∀ (h' : Heap) (tk : Nat), h'.SetOf (PySem.strKind prog w) s.heap.objs.size (fun k' => (ded xs items.size).any (· == k')) (ded xs items.size).length →
      (∀ b o, b < s.heap.objs.size → s.heap.get? b = some o → h'.get? b = some o) → Q (.ref s.heap.objs.size) { s with heap := h', toks := tk }) :
    wpAny (model prog w) A (call (.type "set") [.ref l]) Q E s := by
  obtain ⟨c, tl, hmro⟩ := PySem.F.called_set.mro
  have hmade := PySem.F.called_set.made
  have hsub := PySem.F.called_set.sub
  refine wpAny_call (codeAny_of_tree ?_)
  show wpAny _ _ (callAny (.type "set") _) _ _ _
  refine wpAny_pure ⟨Code.quiet_builtin _ (by decide +kernel), codeAny_builtin PySem.F.entry_type_call ?_⟩
  rw [Around.under_plain (weight_type_call_type "set" [.ref l] []) rfl]
  have h1 := PySem.F.called_set.notType
  have h2 := PySem.F.called_set.canCreate
  have hct := PySem.F.typeCall_set_1 (.ref l)
  repeat (any_goals (first | assumption | wp_step))
  refine codeAny_mono (code_set_new_1 (.ref l) (E := E) (Q₁ := fun obj s₁ => ∃ led : Bool, obj = .ref s.heap.objs.size ∧ s₁ = { s with heap := s.heap.push (setO led) }) fun led => ⟨led, rfl, rfl⟩) fun r s₁ hr => ?_
  match r, hr with
  | .error e, hr => exact hr
  | .ok .next, hr => exact hr.elim
  | .ok .brk, hr => exact hr.elim
  | .ok .cont, hr => exact hr.elim
  | .ok (.ret obj), hr =>
    obtain ⟨led, rfl, rfl⟩ := hr
    have hS : (s.heap.push (setO led)).get? s.heap.objs.size = some (setO led) := Heap.get?_push_size _ rfl
    have hT : Shared.TypeIs { s with heap := s.heap.push (setO led) } (.ref s.heap.objs.size) "set" := ⟨_, hS, rfl⟩
    have hli := PySem.F.called_set.init.lookup
    have hbi := PySem.F.called_set.init.bind (.ref s.heap.objs.size)
    repeat (any_goals (first | assumption | wp_step))
    refine codeAny_mono (codeAny_call_builtin (R := wants (fun r s₂ => r = .none ∧ ∃ h' tk, s₂ = { s with heap := h', toks := tk } ∧
        h'.SetOf (PySem.strKind prog w) s.heap.objs.size (fun k' => (ded xs items.size).any (· == k')) (ded xs items.size).length ∧
        (∀ b o, b < s.heap.objs.size → s.heap.get? b = some o → h'.get? b = some o)) E) PySem.F.called_set.init.plain PySem.F.entry_set_init (check_set_init_1 hT ?_)) fun r₂ s₂ hr₂ => ?_
    · obtain ⟨⟨ocls, odict, odata, oslots⟩, hol, hcl, nl, hdl⟩ := hl
      simp only at hcl hdl
      subst hcl; subst hdl
      have hol' : (s.heap.push (setO led)).get? l = some { cls := .type "list", dict := odict, data := .seq items nl, slots := oslots } := Heap.get?_push_of_some _ hol
      have hsls := PySem.F.sub_list_set
      have hslf := PySem.F.sub_list_frozenset
      have hne : (Value.type "list" == Value.type "dict") = false := by decide
      have hl1 : (s.heap.push (setO led)).IsList l items := ⟨_, hol', rfl, nl, rfl⟩
      unfold Builtin.«set.__init__» noKeywords Builtin.Frozenset.updateFrom
      generalize hPI : pyIter = PI
      wp_walk
      subst hPI
      refine wpAny_pyIter_list hl1 ?_
      refine wpAny_bind (wpAny_runValue ?_)
      have hlS : l < s.heap.objs.size := Heap.lt_size hol
      have hh3 : A.in1.in1.in1.handled = none := by simp [hh]
      have hneI : l ≠ (s.heap.push (setO led)).objs.size := by
        rw [Heap.size_push]; exact Nat.ne_of_lt (Nat.lt_succ_of_lt hlS)
      have hSf : s.heap.objs.size ∉ [(s.heap.push (setO led)).objs.size, l] := by
        rw [Heap.size_push]
        intro hx
        rcases List.mem_cons.mp hx with e | e
        · exact Nat.ne_of_lt (Nat.lt_succ_self _) e
        · exact Nat.ne_of_gt hlS (List.mem_singleton.mp e)
      have hsz : xs.length = items.size := by rw [← StrsAre.len_eq hi, Array.length_toList]
      refine loopS ((Walks.list hh3 _ l hneI items).toS) s.heap.objs.size hSf xs hsz hb (fun i v hv => SS.strs_at hi i v (by rw [Array.getElem?_toList]; exact hv)) items.size 0 _ rfl (Nat.zero_le _)
        ⟨⟨_, Heap.get?_push_size _ rfl, rfl, rfl⟩, (hl1.push _)⟩ ?_ fun s' hm hS' => ?_
      · have hget : ((s.heap.push (setO led)).push { cls := .type "list_iterator", data := .fields #[.ref l, .int 0 0] }).get? s.heap.objs.size = some (setO led) := Heap.get?_push_of_some _ hS
        exact PyProof.Rows.SetOf_congr ((PyProof.Rows.setObjOf_fresh (knd := PySem.strKind prog w) led).setOf hget (by unfold scanBound; omega)) (fun _ => by simp [ded]) (by simp [ded])
      · obtain ⟨h', g', d', tk', os'⟩ := s'
        have eg : g' = s.gens := hm.gens
        have ed : d' = s.drawn := hm.drawn
        have eo : os' = s.os := hm.os
        subst eg; subst ed; subst eo
        show wpAny _ _ _ _ _ _
        refine wpAny_pure ?_
        show wpAny _ _ (ret Value.none) _ _ _
        refine wpAny_pure ⟨rfl, h', tk', rfl, hS', fun b o hb' e => ?_⟩
        refine hm.heap b o ?_ (Heap.get?_push_of_some _ (Heap.get?_push_of_some _ e))
        intro hx
        rw [Heap.size_push] at hx
        rcases List.mem_cons.mp hx with e' | e'
        · exact Nat.ne_of_lt hb' e'
        · exact Nat.ne_of_lt (Nat.lt_succ_of_lt hb') (List.mem_singleton.mp e')
    · match r₂, hr₂ with
      | .error e, hr₂ => exact hr₂
      | .ok .next, hr₂ => exact hr₂.elim
      | .ok .brk, hr₂ => exact hr₂.elim
      | .ok .cont, hr₂ => exact hr₂.elim
      | .ok (.ret r), hr₂ =>
        obtain ⟨rfl, h', tk, rfl, hS', hk'⟩ := hr₂
        repeat (any_goals (first | assumption | wp_step))
        exact h _ _ hS' hk'
end
end DlSet
namespace L2
open PySem PySem.Spec PyProof.Rows
/-- len(set(xs)) of a list of texts -/
def tLenSetS (K : PySem.W.Frag) (ta : TE) : TE := fun σ H Q => ta σ H fun x H1 => ∃ (l : Addr) (xs : List Str), x = .ref l ∧ SqL K H1 l (xs.map V.str) ∧ xs.length ≤ 4000 ∧ Q (.int ((DlSet.ded xs xs.length).length : Nat)) H1
theorem pe_lenSetS {X : Cx} {a : Expr} {ta : TE} {p p2 q pos : Pos} (hg : Gl X "len") (hm : X.mg "len" = none) (hg2 : Gl X "set") (hm2 : X.mg "set" = none) (ha : PE X a ta) (hc : X.calm = true := by rfl)
    (na : starEach [a] X.env = (false, eval a X.env) :: starEach [] X.env := by rfl) : PE X (.Call (.Name "len" p) [.Call (.Name "set" p2) [a] [] q] [] pos) (tLenSetS X.K ta) := by
  refine ⟨fun pins s σ H Q I h => ?_⟩
  refine Call_ (ld_blt I hg hm boot_len ?_)
  refine PyProof.Rows.callWith_builtin1 (PyProof.Rows.args_cons ?_ rfl) rfl rfl
  refine Call_ (ld_blt I hg2 hm2 boot_set ?_)
  refine PyProof.Rows.callWith_type1 (PyProof.Rows.args_cons (thn (ha.run pins s σ H _ I h) fun v s1 ⟨x, H1, I1, r1, q1⟩ => PyProof.Rows.args_nil ?_) na) na rfl
  obtain ⟨l, xs, rfl, hq, hl, q1⟩ := q1
  cases r1
  obtain ⟨its, r, pl, hz⟩ := I1.list hq
  have hlen : its.toArray.size = xs.length := by rw [List.size_toArray, ← r.length, List.length_map]
  refine DlSet.call_set_texts (I1.ok.hd hc) pl.isList (by simpa using strsAre_of r) (by rw [hlen]; unfold scanBound; omega) fun h' tk hS hk => ?_
  refine PyProof.Rows.args_nil ?_
  rw [hlen] at hS
  obtain ⟨o, es, ep, t, ho, hex, hd, _, _, _, hf, hn⟩ := hS
  have I2 : Inv X pins σ H1 { s1 with heap := h', toks := tk } := I1.kept fun b o e => hk b o (Heap.lt_size e) e
  have hdl := DlSet.ded_len xs xs.length
  exact call_len_set ho hex hd hf (by rw [hn] <;> omega) ⟨.int _, H1, I2.tok _, ⟨_, by rw [hn]⟩, q1⟩
end L2
set_option Elab.async false
set_option linter.all false
set_option maxRecDepth 100000
namespace L2
open PySem
def rJoin (K : PySem.W.Frag) : V → List V → Hp → VK → Prop := fun x xs H Q => ∃ a p, ∃ ys : List Str, x = .str a ∧ xs = [.ref p] ∧ (SqL K H p (ys.map V.str) ∨ SqT K H p (ys.map V.str)) ∧ (ys.map (·.length)).sum + ys.length * a.length ≤ 16777216 ∧ Q (.str (Txt.join a ys)) H
end L2
namespace Dl
open PySem L2 PyProof.Rows
section
variable {K : PySem.W.Frag} {B : Bs} {ρ : En} {μ : Mu} {P : D → Mu → Prop} {te : TE} {x y : D} {ds : List D} {i j : Int}
theorem ty_str {s : Str} : ∀ G H al v, As K G H al μ → Rp K G al v (.str s) → tyV K "str" v H := fun G H al v A r => by
  cases r
  rfl
theorem rm_join {a : Str} {ys : List Str} (hl : Ls μ x (ys.map D.str)) (hz : (ys.map (·.length)).sum + ys.length * a.length ≤ 100000) (h : P (.str (Txt.join a ys)) μ) : RM K (rJoin K) (.str a) [x] μ P := fun G H al v vs A r rs Q hQ => by
  obtain ⟨w, rfl, r1⟩ := rps1 rs
  obtain ⟨p, ws, rfl, sq, rs2⟩ := hl.get A r1
  cases r
  have e := rs2.strs
  subst e
  exact ⟨a, p, ys, rfl, rfl, .inl sq, by omega, hQ.now A (.str _) h⟩
theorem de_lenSetS (h : DE K B te ρ μ fun x μ1 => ∃ xs : List Str, Ls μ1 x (xs.map D.str) ∧ xs.length ≤ 4000 ∧ P (.int ((DlSet.ded xs xs.length).length : Nat)) μ1) : DE K B (tLenSetS K te) ρ μ P := fun σ G H al hB hσ hA Q hQ =>
  h σ G H al hB hσ hA _ fun v d μ1 G1 H1 al1 n1 A1 r1 p1 => by
    obtain ⟨xs, ls, hl, p⟩ := p1
    obtain ⟨a, vs, rfl, sq, rs⟩ := ls.get A1 r1
    have e := rs.strs
    subst e
    exact ⟨a, xs, rfl, sq, hl, (hQ.nx n1).now A1 (.int _) p⟩
theorem de_lstRg1 (h : DE K B te ρ μ fun x μ1 => ∃ n : Int, x = .int n ∧ 0 ≤ n ∧ n ≤ 100000 ∧ P (.lst (rangeD 0 n.toNat)) μ1) : DE K B (tLstRg (tRg1 te)) ρ μ P := fun σ G H al hB hσ hA Q hQ =>
  h σ G H al hB hσ hA _ fun v d μ1 G1 H1 al1 n1 A1 r1 p1 => by
    obtain ⟨n, rfl, h0, h1, p⟩ := p1
    cases r1
    refine ⟨n, rfl, ⟨by omega, by omega, by omega, by omega, by omega⟩, fun q hq => ?_⟩
    obtain ⟨A2, n2⟩ := A1.frz (o := .lst (rgV 0 n)) hq
    refine hQ _ _ μ1 _ _ _ (n1.trans n2) A2 (.lst upd_same ?_) p
    unfold rgV rangeD
    rw [show (n - 0).toNat = n.toNat by omega]
    have : ∀ l : List Nat, Rps K (upd G1 q (.lst ((List.range n.toNat).map fun i => V.int (0 + (i : Nat))))) al1 (l.map fun i => V.int (0 + (i : Nat))) (l.map fun (i : Nat) => D.int (0 + (i : Int))) := by
      intro l
      induction l with
      | nil => exact .nil
      | cons a l ih => exact .cons (.int _) ih
    exact this _
theorem dt_imp {tt : TT} {P' Q' : Bool → Mu → Prop} (h : DT K B tt ρ μ P') (i : ∀ b μ', P' b μ' → Q' b μ') : DT K B tt ρ μ Q' := fun σ G H al hB hσ hA Q hQ => h σ G H al hB hσ hA Q fun b μ' G' H' al' n A p => hQ b μ' G' H' al' n A (i b μ' p)
theorem da_imp {ta : TA} {P' Q' : List D → Mu → Prop} (h : DA K B ta ρ μ P') (i : ∀ b μ', P' b μ' → Q' b μ') : DA K B ta ρ μ Q' := fun σ G H al hB hσ hA Q hQ => h σ G H al hB hσ hA Q fun vs b μ' G' H' al' n A r p => hQ vs b μ' G' H' al' n A r (i b μ' p)
/-- a written list, frozen or not, as it is wanted -/
theorem de_lstF {ts : TA} (h : DA K B ts ρ μ fun xs μ1 => Sz xs.length ∧ (P (.lst xs) μ1 ∨ P (.own μ1.length) (μ1 ++ [.lst xs]))) : DE K B (tLst ts) ρ μ P := fun σ G H al hB hσ hA Q hQ =>
  h σ G H al hB hσ hA _ fun vs ds μ1 G1 H1 al1 n1 A1 r1 p1 => by
    refine ⟨by rw [r1.length]; exact Nat.le_trans p1.1 (by decide), fun p hp => ?_⟩
    rcases p1.2 with q | q
    · obtain ⟨A2, n2⟩ := A1.frz (o := .lst vs) hp
      exact hQ _ _ _ _ _ _ (n1.trans n2) A2 (.lst upd_same (r1.nx n2)) q
    · obtain ⟨A2, n2⟩ := A1.own (o := .lst vs) (m := .lst ds) hp ⟨A1.sub.free hp, vs, upd_same, r1.mono (Same.refl _) ⟨[p], rfl⟩⟩
      exact hQ _ _ _ _ _ _ (n1.trans n2) A2 (.own (by rw [← A1.len]; simp)) q
/-- is None -/
def IsNP (x : D) (Q : Bool → Prop) : Prop := ∃ b, (b = true ↔ x = .non) ∧ Q b
theorem de_isNZ (h : DE K B te ρ μ fun x μ1 => IsNP x fun b => P (.bl b) μ1) : DE K B (tIsN te) ρ μ P := de_isN h
theorem de_notNZ (h : DE K B te ρ μ fun x μ1 => IsNP x fun b => P (.bl (!b)) μ1) : DE K B (tNotN te) ρ μ P := de_notN h
theorem np_t {Q : Bool → Prop} (h : Q true) : IsNP .non Q := ⟨true, by simp, h⟩
theorem np_f {Q : Bool → Prop} (hx : x ≠ .non) (h : Q false) : IsNP x Q := ⟨false, by simp [hx], h⟩
theorem np_int {Q : Bool → Prop} {i : Int} (h : Q false) : IsNP (.int i) Q := np_f (by simp) h
theorem np_bl {Q : Bool → Prop} {i : Bool} (h : Q false) : IsNP (.bl i) Q := np_f (by simp) h
theorem np_str {Q : Bool → Prop} {i : Str} (h : Q false) : IsNP (.str i) Q := np_f (by simp) h
theorem np_lst {Q : Bool → Prop} {i : List D} (h : Q false) : IsNP (.lst i) Q := np_f (by simp) h
theorem np_tup {Q : Bool → Prop} {i : List D} (h : Q false) : IsNP (.tup i) Q := np_f (by simp) h
theorem np_own {Q : Bool → Prop} {i : Nat} (h : Q false) : IsNP (.own i) Q := np_f (by simp) h
theorem np_obj {Q : Bool → Prop} {C : Addr} {gs : List (Str × D)} (h : Q false) : IsNP (.obj C gs) Q := np_f (by simp) h
/-- a sign in a text -/
theorem ro_inSg {c : Nat} {z : Str} (h : P (.bl (decide (c ∈ z.cps.toList))) μ) : RO K (rInA K) (.str ⟨#[c]⟩) (.str z) μ P := fun G H al v w A r1 r2 Q hQ => by
  cases r1; cases r2
  exact .inr (.inl ⟨c, z, rfl, rfl, hQ.now A (.bl _) h⟩)
end
/-! ### names -/
def letters : List Nat := (List.range 26).map (· + 97)
def nameOk (s : Str) : Prop := 1 ≤ s.length ∧ s.length ≤ 8 ∧ ∀ c ∈ s.cps.toList, c ∈ letters
instance (s : Str) : Decidable (nameOk s) := by unfold nameOk; infer_instance
theorem letters_str : ("abcdefghijklmnopqrstuvwxyz" : Str).cps.toList = letters := by decide +kernel
theorem nameOk.strOk {s : Str} (h : nameOk s) : PyData.strOk s = true := by
  unfold PyData.strOk
  rw [← Array.all_toList, List.all_eq_true]
  intro c hc
  have := h.2.2 c hc
  unfold letters at this
  obtain ⟨i, hi, rfl⟩ := List.mem_map.mp this
  have := List.mem_range.mp hi
  simp; omega
theorem join_signs (cs : List Nat) : Txt.join ("" : Str) (cs.map fun c => (⟨#[c]⟩ : Str)) = ⟨cs.toArray⟩ := by
  have h1 : TL.joinL [] (cs.map fun c => [c]) = cs := by
    induction cs with
    | nil => rfl
    | cons c cs ih =>
      cases cs with
      | nil => rfl
      | cons d ds =>
        simp only [List.map_cons, TL.joinL] at ih ⊢
        rw [ih]
        rfl
  have h2 := SX.join_S [] (cs.map fun c => [c])
  rw [h1, List.map_map] at h2
  exact h2
end Dl
set_option Elab.async false
set_option linter.all false
set_option maxRecDepth 100000
/-! range of numbers of any size -/
namespace Dl
open PySem L2 PyProof.Rows
theorem turn_long {P : Program} {w : World} {K : PySem.W.Frag} {tg : Expr} (it : Addr) (lo c : Int) (n : Nat) {J : It} (hJg : ∀ i H, J.go i H → i < n) (hJs : ∀ i H, J.stop i H → n ≤ i) (hJy : ∀ i H, J.yld i H (.int (lo + (i : Nat) * c)) H) : Turn P w K tg J [it] it (fun i h => IsLongIter h it (lo + (i : Nat) * c) ((n : Int) - (i : Nat)) c) where
  mem := by simp
  obj := fun i h st b hb => by
    have e : b = it := by simpa using hb
    subst e
    exact ⟨_, st, fun v z => by
      have z' : Data.fields _ = Data.cell v := z
      cases z'⟩
  keep := fun i h h' st k => k it (by simp) _ st
  item := by
    intro X hP hw hK hc i pins s σ H E I hf st hg
    subst hP hw hK
    obtain ⟨f0, f1, f2, f3, f4, f5⟩ := hf it (by simp)
    have W := Walks.longrange (prog := X.prog) (w := X.w) (I.ok.hd hc) it lo c n
    refine W.item i s _ _ (hJg i H hg) st fun v h' tk hv st' kk => ?_
    obtain ⟨t, rfl⟩ := hv
    have I1 : Inv X pins σ H { s with heap := h', toks := tk } := I.turned (fun b o hb e => kk b o (by simpa using hb) e) f0 f1 f3 f4 f5
    exact ⟨_, rfl, go_of (s := { s with heap := h', toks := tk }) (n := "longrange_iterator") st' rfl rfl (by decide) ⟨.int (lo + (i : Nat) * c), H, I1, ⟨t, rfl⟩, hJy i H, st', fun b hb => (hf b hb).1⟩⟩
  done := by
    intro X hP hw hK hc i pins s σ H E I hf st hg
    subst hP hw hK
    obtain ⟨f0, f1, f2, f3, f4, f5⟩ := hf it (by simp)
    exact wpAny_pyNext_long_end (I.ok.hd hc) st (by have := hJs i H hg; omega) fun h' eb => ⟨rfl, I.turned (t' := s.toks) (fun b o hb e => eb b o hb e) f0 f1 f3 f4 f5⟩
  self := fun _ _ _ _ _ st h => wpAny_pyIter_longiter st h
section
variable {X : Cx} {tg : Expr}
theorem range_itW {pins : List (Addr × Obj)} {σ : L2.St} {H : Hp} {s : Shared} {R : It → Hp → Prop} {E : Value → Shared → Prop} {lo hi : Int} {t u v : Tok} {tk : Nat} (I : Inv X pins σ H s)
    (q : R (Itr lo (hi - lo).toNat) H) : wpAny (model X.prog X.w) X.A (pyIter (.ref s.heap.objs.size)) (PIE X pins σ tg R) E { s with heap := s.heap.push { cls := .type "range", data := .fields #[.int lo t, .int hi u, .int 1 v] }, toks := tk } := by
  have I1 : Inv X pins σ H { s with heap := s.heap.push { cls := .type "range", data := .fields #[.int lo t, .int hi u, .int 1 v] }, toks := tk } := I.kept fun b o e => Heap.get?_push_of_some _ e
  have e1 : lo + ((0 : Nat) : Int) * 1 = lo := by simp
  have e2 : (((hi - lo).toNat : Nat) : Int) - ((0 : Nat) : Int) = Builtin.Range.rangeSize lo hi 1 := by rw [rangeSize_one]; split <;> omega
  have fp : ∀ b ∈ [(s.heap.push { cls := .type "range", data := .fields #[.int lo t, .int hi u, .int 1 v] }).objs.size], _ := fun b hb => by
    have e : b = (s.heap.push { cls := .type "range", data := .fields #[.int lo t, .int hi u, .int 1 v] }).objs.size := by simpa using hb
    subst e
    exact I1.fpOk (Nat.le_refl _) (I1.hok.fresh (Nat.le_refl _))
  cases hsm : Builtin.Range.small lo hi 1 with
  | true =>
    refine wpAny_pyIter_range (IsRange.new ..) hsm ?_
    refine ⟨(s.heap.push { cls := .type "range", data := .fields #[.int lo t, .int hi u, .int 1 v] }).objs.size, [(s.heap.push { cls := .type "range", data := .fields #[.int lo t, .int hi u, .int 1 v] }).objs.size], _, _, H, rfl,
      I1.kept (t' := tk) fun b o e => Heap.get?_push_of_some _ e, turn_range _ lo (hi - lo).toNat, ?_, fp, q⟩
    show IsRangeIter _ _ (lo + ((0 : Nat) : Int) * 1) ((((hi - lo).toNat : Nat) : Int) - ((0 : Nat) : Int)) 1
    rw [e1, e2]
    exact Heap.get?_push_size _ rfl
  | false =>
    refine wpAny_pyIter_longrange (IsRange.new ..) hsm ?_
    refine ⟨(s.heap.push { cls := .type "range", data := .fields #[.int lo t, .int hi u, .int 1 v] }).objs.size, [(s.heap.push { cls := .type "range", data := .fields #[.int lo t, .int hi u, .int 1 v] }).objs.size], _, _, H, rfl,
      I1.kept (t' := tk) fun b o e => Heap.get?_push_of_some _ e, turn_long (J := Itr lo (hi - lo).toNat) _ lo 1 (hi - lo).toNat (fun i H h => h) (fun i H h => h) (fun i H => ⟨rfl, by rw [Int.mul_one]⟩), ?_, fp, q⟩
    show IsLongIter _ _ (lo + ((0 : Nat) : Int) * 1) ((((hi - lo).toNat : Nat) : Int) - ((0 : Nat) : Int)) 1
    rw [e1, e2]
    exact Heap.get?_push_size _ rfl
def iRng2W (ta : TA) : TI := fun σ H R => ta σ H fun vs H1 => ∃ i j : Int, vs = [.int i, .int j] ∧ R (Itr i (j - i).toNat) H1
theorem pi_range2W {a b : Expr} {ta : TA} {p pos : Pos} (hg : Gl X "range") (hm : X.mg "range" = none) (ha : PA X [a, b] ta) (hs : starEach [a, b] X.env = [(false, eval a X.env), (false, eval b X.env)] := by rfl) (hs2 : starEach [b] X.env = [(false, eval b X.env)] := by rfl) :
    PI X tg (.Call (.Name "range" p) [a, b] [] pos) (iRng2W ta) := by
  refine ⟨fun pins s σ H R I h => ?_⟩
  refine Call_ (ld_blt I hg hm boot_range (PyProof.Rows.callWith_type1 (thn (ha.run pos pins s σ H _ I h) fun us s1 ⟨vs, H1, I1, r1, q1⟩ => ?_) (by rw [hs, hs2]) (by rw [hs2]; rfl)))
  obtain ⟨i, j, e, q⟩ := q1
  subst e
  cases r1 with
  | cons r rr =>
    cases rr with
    | cons r' rr =>
      cases rr
      obtain ⟨t, rfl⟩ := r
      obtain ⟨t', rfl⟩ := r'
      exact call_range_2 (range_itW I1 q)
end
section
variable {K : PySem.W.Frag} {B : Bs} {ρ : En} {μ : Mu} {ts : TA} {PI' : List D → (Mu → Prop) → Mu → Prop}
theorem di_range2W (h : DA K B ts ρ μ fun xs μ1 => ∃ lo n : Int, xs = [.int lo, .int n] ∧ PI' (rangeD lo (n - lo).toNat) (fun _ => True) μ1) : DI K B (iRng2W ts) ρ μ PI' := fun σ G H al hB hσ hA R hR =>
  h σ G H al hB hσ hA _ fun vs ds μ1 G1 H1 al1 n1 A1 r1 p1 => by
    obtain ⟨lo, n, rfl, p⟩ := p1
    obtain ⟨v, w, rfl, q1, q2⟩ := rps2 r1
    cases q1; cases q2
    exact ⟨lo, n, rfl, hR _ _ _ μ1 G1 H1 al1 n1 A1 itr_ok p⟩
end
end Dl
set_option Elab.async false
set_option linter.all false
set_option maxRecDepth 100000
namespace Dl
open PySem L2 PyProof.Rows
section
variable {K : PySem.W.Frag} {B : Bs} {ρ : En} {μ : Mu} {ts : TA} {u : TS} {x y z : D}
def Three (ds : List D) (F : D → D → D → Prop) : Prop := ∃ x y z, ds = [x, y, z] ∧ F x y z
theorem three_i {F : D → D → D → Prop} (h : F x y z) : Three [x, y, z] F := ⟨x, y, z, rfl, h⟩
theorem ds_par3 {i j l : Nat} {P : DEnds} (h : DA K B ts ρ μ fun ds μ1 => Three ds fun x y z => P.nx (((ρ.set i (some x)).set j (some y)).set l (some z)) μ1) : DS K B (tPar3 i j l ts) ρ μ P := fun σ G H al hB hσ hA De hD =>
  h σ G H al hB hσ hA _ fun vs ds μ1 G1 H1 al1 n1 A1 r1 p1 => by
    obtain ⟨x, y, z, rfl, p⟩ := p1
    obtain ⟨v, ws, rfl, rx, r2⟩ := rps_cons r1
    obtain ⟨w, u, rfl, ry, rz⟩ := rps2 r2
    exact ⟨_, _, _, rfl, hD.nx _ _ μ1 G1 H1 al1 n1 ((((hσ.nx n1).set i rx).set j ry).set l rz) A1 p⟩
theorem q_par3 {i j l : Nat} {P : DEnds} (h : DA K B ts ρ μ fun ds μ1 => Three ds fun x y z => DS K B u (((ρ.set i (some x)).set j (some y)).set l (some z)) μ1 P) : DS K B (tSeq (tPar3 i j l ts) u) ρ μ P := ds_seq (ds_par3 h)
theorem ro_eqNI {i : Int} {P : D → Mu → Prop} (h : P (.bl false) μ) : RO K (rEqD K) .non (.int i) μ P := ro_eqD (n := 0) (m := 0) (.id _) (.id _) rfl rfl (by rw [show eqvD .non (.int i) = false by simp only [eqvD, D.py, PyData.eqv]]; exact h)
end
end Dl
set_option Elab.async false
set_option linter.all false
set_option maxRecDepth 100000
/-! dicts with keys ints and texts -/
namespace Dl
open PySem L2
def keyD : Key → D
  | .inl i => .int i
  | .inr s => .str s
def valD (kvs : List (Key × D)) (k : Key) : Option D := (kvs.find? fun kv => decide (kv.1 = k)).map (·.2)
def putKD (kvs : List (Key × D)) (k : Key) (v : D) : List (Key × D) :=
  if (kvs.any fun kv => decide (kv.1 = k)) = true then kvs.map (fun kv => if kv.1 = k then (kv.1, v) else kv) else kvs ++ [(k, v)]
def mergeKD (kvs more : List (Key × D)) : List (Key × D) := more.foldl (fun acc kv => putKD acc kv.1 kv.2) kvs
theorem rp_key {K : PySem.W.Frag} {G : Hp} {al : List Addr} {v : V} {k : Key} (h : Rp K G al v (keyD k)) : v = kV k := by
  cases k with
  | inl i => cases h; rfl
  | inr s => cases h; rfl
section
variable {K : PySem.W.Frag} {G H : Hp} {al : List Addr}
theorem Rpk.val : ∀ {gs : List (Key × D)} {kvs : List (Key × V)}, Rpk K G al kvs gs → ∀ k, (∀ d, valD gs k = some d → ∃ v, valV kvs k = some v ∧ Rp K G al v d) ∧ (valD gs k = none → valV kvs k = none)
  | [], _, h, k => by cases h; exact ⟨fun d e => (by cases e), fun _ => rfl⟩
  | (f, x) :: gs, _, h, k => by
    cases h with
    | @cons f v vs d ds r t =>
      have ih := t.val k
      by_cases e : f = k
      · refine ⟨fun d' e' => ?_, fun e' => ?_⟩
        · simp [valD, List.find?_cons, e] at e'
          subst e'
          exact ⟨v, valV_pos e, r⟩
        · simp [valD, List.find?_cons, e] at e'
      · have e1 : valD ((f, x) :: gs) k = valD gs k := by simp [valD, List.find?_cons, e]
        rw [e1, valV_neg (p := (f, v)) e]
        exact ih
theorem Rpk.any : ∀ {gs : List (Key × D)} {kvs : List (Key × V)}, Rpk K G al kvs gs → ∀ k, (kvs.any fun kv => decide (kv.1 = k)) = (gs.any fun kv => decide (kv.1 = k))
  | [], _, h, k => by cases h; rfl
  | (f, x) :: gs, _, h, k => by
    cases h with
    | cons r t => simp only [List.any_cons, t.any k]
theorem Rpk.append : ∀ {gs fs : List (Key × D)} {kvs ls : List (Key × V)}, Rpk K G al kvs gs → Rpk K G al ls fs → Rpk K G al (kvs ++ ls) (gs ++ fs)
  | [], _, _, _, h, h' => by cases h; exact h'
  | _ :: _, _, _, _, h, h' => by cases h with | cons r t => exact .cons r (t.append h')
theorem Rpk.repl {k : Key} {v : V} {d : D} (r : Rp K G al v d) : ∀ {gs : List (Key × D)} {kvs : List (Key × V)}, Rpk K G al kvs gs → Rpk K G al (kvs.map fun kv => if kv.1 = k then (kv.1, v) else kv) (gs.map fun kv => if kv.1 = k then (kv.1, d) else kv)
  | [], _, h => by cases h; exact .nil
  | (f, x) :: gs, _, h => by
    cases h with
    | cons r' t =>
      simp only [List.map_cons]
      by_cases e : f = k
      · rw [if_pos e, if_pos e]; exact .cons r (t.repl r)
      · rw [if_neg e, if_neg e]; exact .cons r' (t.repl r)
theorem Rpk.put {gs : List (Key × D)} {kvs : List (Key × V)} (h : Rpk K G al kvs gs) (k : Key) {v : V} {d : D} (r : Rp K G al v d) : Rpk K G al (putK kvs k v) (putKD gs k d) := by
  unfold putK putKD
  rw [h.any k]
  split
  · exact h.repl r
  · exact h.append (.cons r .nil)
theorem Rpk.length : ∀ {gs : List (Key × D)} {kvs : List (Key × V)}, Rpk K G al kvs gs → kvs.length = gs.length
  | [], _, h => by cases h; rfl
  | _ :: _, _, h => by cases h with | cons _ t => simp [t.length]
theorem Rpk.merge : ∀ {ms : List (Key × D)} {ns : List (Key × V)} {gs : List (Key × D)} {kvs : List (Key × V)}, Rpk K G al ns ms → Rpk K G al kvs gs → Rpk K G al (mergeK kvs ns) (mergeKD gs ms)
  | [], _, _, _, h, h' => by cases h; exact h'
  | (f, x) :: ms, _, gs, kvs, h, h' => by
    cases h with
    | @cons f v vs d ds r t =>
      show Rpk K G al (mergeK (putK kvs f v) vs) (mergeKD (putKD gs f x) ms)
      exact t.merge (h'.put f r)
end
/-- a dict as it stands -/
inductive Dt (μ : Mu) : D → List (Key × D) → Prop
  | dct (gs : List (Key × D)) : Dt μ (.dct gs) gs
  | own {k : Nat} {gs : List (Key × D)} (h : μ[k]? = some (.dK gs)) : Dt μ (.own k) gs
theorem Dt.get {K : PySem.W.Frag} {G H : Hp} {al : List Addr} {μ : Mu} {v : V} {d : D} {gs : List (Key × D)} (h : Dt μ d gs) (A : As K G H al μ) (r : Rp K G al v d) : ∃ a kvs, v = .ref a ∧ Rd H a (.dK kvs) ∧ Rpk K G al kvs gs := by
  cases h with
  | dct => cases r with | dct e rs => exact ⟨_, _, rfl, rd_mono A.sub e, rs⟩
  | own hk =>
    obtain ⟨a, ha, ga, vs, hv, rs⟩ := A.get hk
    cases r with
    | own e => rw [ha] at e; cases e; exact ⟨_, vs, rfl, .inl hv, rs⟩
section
variable {K : PySem.W.Frag} {B : Bs} {ρ : En} {μ : Mu} {td ty tv tx : TE} {P : D → Mu → Prop} {u : TS}
def DGetP (μ : Mu) (x y : D) (F : D → Prop) : Prop := ∃ gs k d, Dt μ x gs ∧ y = keyD k ∧ valD gs k = some d ∧ F d
def DInP (μ : Mu) (x y : D) (F : Bool → Prop) : Prop := ∃ gs k, Dt μ x gs ∧ y = keyD k ∧ F (valD gs k).isSome
theorem dgp_s {x d : D} {gs : List (Key × D)} {s : Str} {F : D → Prop} (h : Dt μ x gs) (e : valD gs (.inr s) = some d) (f : F d) : DGetP μ x (.str s) F := ⟨gs, .inr s, d, h, rfl, e, f⟩
theorem Rpk.isSome {G : Hp} {al : List Addr} {gs : List (Key × D)} {kvs : List (Key × V)} (h : Rpk K G al kvs gs) (k : Key) : (valV kvs k).isSome = (valD gs k).isSome := by
  cases q : valD gs k with
  | none => rw [(h.val k).2 q]; rfl
  | some d =>
    obtain ⟨v, e, _⟩ := (h.val k).1 d q
    rw [e]; rfl
theorem dget_k {H : Hp} {a : Addr} {kvs : List (Key × V)} {k : Key} (e : Rd H a (.dK kvs)) : DGet H a (kV k) (valV kvs k) := .inl ⟨kvs, k, e, rfl, rfl⟩
theorem de_dget (h : DE K B td ρ μ fun x μ1 => DE K B ty ρ μ1 fun y μ2 => DGetP μ2 x y fun d => P d μ2) : DE K B (tDGet td ty) ρ μ P := fun σ G H al hB hσ hA Q hQ =>
  h σ G H al hB hσ hA _ fun vx x μ1 G1 H1 al1 n1 A1 r1 p1 => p1 σ G1 H1 al1 (hB.trans n1) (hσ.nx n1) A1 _ fun vy y μ2 G2 H2 al2 n2 A2 r2 p2 => by
    obtain ⟨gs, k, d, dt, rfl, e, p⟩ := p2
    obtain ⟨a, kvs, rfl, ha, rk⟩ := dt.get A2 (r1.nx n2)
    obtain rfl := rp_key r2
    obtain ⟨v, ev, rv⟩ := (rk.val k).1 d e
    exact ⟨a, v, rfl, by rw [← ev]; exact dget_k ha, hQ v d μ2 G2 H2 al2 (n1.trans n2) A2 rv p⟩
theorem de_din (h : DE K B ty ρ μ fun y μ1 => DE K B td ρ μ1 fun x μ2 => DInP μ2 x y fun b => P (.bl b) μ2) : DE K B (tDIn ty td) ρ μ P := fun σ G H al hB hσ hA Q hQ =>
  h σ G H al hB hσ hA _ fun vy y μ1 G1 H1 al1 n1 A1 r1 p1 => p1 σ G1 H1 al1 (hB.trans n1) (hσ.nx n1) A1 _ fun vx x μ2 G2 H2 al2 n2 A2 r2 p2 => by
    obtain ⟨gs, k, dt, rfl, p⟩ := p2
    obtain ⟨a, kvs, rfl, ha, rk⟩ := dt.get A2 r2
    obtain rfl := rp_key r1
    refine ⟨a, _, rfl, dget_k ha, ?_⟩
    rw [rk.isSome k]
    exact hQ _ _ μ2 G2 H2 al2 (n1.trans n2) A2 (.bl _) p
theorem de_dnin (h : DE K B ty ρ μ fun y μ1 => DE K B td ρ μ1 fun x μ2 => DInP μ2 x y fun b => P (.bl (!b)) μ2) : DE K B (tDNotIn ty td) ρ μ P := fun σ G H al hB hσ hA Q hQ =>
  h σ G H al hB hσ hA _ fun vy y μ1 G1 H1 al1 n1 A1 r1 p1 => p1 σ G1 H1 al1 (hB.trans n1) (hσ.nx n1) A1 _ fun vx x μ2 G2 H2 al2 n2 A2 r2 p2 => by
    obtain ⟨gs, k, dt, rfl, p⟩ := p2
    obtain ⟨a, kvs, rfl, ha, rk⟩ := dt.get A2 r2
    obtain rfl := rp_key r1
    refine ⟨a, _, rfl, dget_k ha, ?_⟩
    rw [rk.isSome k]
    exact hQ _ _ μ2 G2 H2 al2 (n1.trans n2) A2 (.bl _) p
/-! ### displays -/
def DPs (K : PySem.W.Frag) (B : Bs) : List (TE × TE) → En → Mu → (List (D × D) → Mu → Prop) → Prop
  | [], _, μ, P => P [] μ
  | (tk, tv) :: r, ρ, μ, P => DE K B tk ρ μ fun x μ1 => DE K B tv ρ μ1 fun y μ2 => DPs K B r ρ μ2 fun ps μ3 => P ((x, y) :: ps) μ3
inductive Rpp (K : PySem.W.Frag) (G : Hp) (al : List Addr) : List (V × V) → List (D × D) → Prop
  | nil : Rpp K G al [] []
  | cons {v w : V} {vs : List (V × V)} {d e : D} {ds : List (D × D)} : Rp K G al v d → Rp K G al w e → Rpp K G al vs ds → Rpp K G al ((v, w) :: vs) ((d, e) :: ds)
theorem dps_run : ∀ {trs : List (TE × TE)} {μ : Mu} {P : List (D × D) → Mu → Prop}, DPs K B trs ρ μ P → ∀ σ G H al, B.le G H al → RpS K G al σ ρ → As K G H al μ → ∀ Q : List (V × V) → Hp → Prop, (∀ ps qs μ' G' H' al', Nx G H al G' H' al' → As K G' H' al' μ' → Rpp K G' al' ps qs → P qs μ' → Q ps H') → tPairs trs σ H Q
  | [], μ, P, h, σ, G, H, al, hB, hσ, hA, Q, hQ => hQ [] [] μ G H al .refl hA .nil h
  | (tk, tv) :: r, μ, P, h, σ, G, H, al, hB, hσ, hA, Q, hQ =>
    h σ G H al hB hσ hA _ fun vx x μ1 G1 H1 al1 n1 A1 r1 p1 => p1 σ G1 H1 al1 (hB.trans n1) (hσ.nx n1) A1 _ fun vy y μ2 G2 H2 al2 n2 A2 r2 p2 =>
      dps_run p2 σ G2 H2 al2 ((hB.trans n1).trans n2) ((hσ.nx n1).nx n2) A2 _ fun ps qs μ3 G3 H3 al3 n3 A3 r3 p3 => hQ _ _ μ3 G3 H3 al3 ((n1.trans n2).trans n3) A3 (.cons ((r1.nx n2).nx n3) (r2.nx n3) r3) p3
theorem rpp_keys {G : Hp} {al : List Addr} : ∀ {gs : List (Key × D)} {ps : List (V × V)}, Rpp K G al ps (gs.map fun kv => (keyD kv.1, kv.2)) → ∃ kvs : List (Key × V), ps = kvs.map (fun kv => (kV kv.1, kv.2)) ∧ Rpk K G al kvs gs
  | [], _, h => by cases h; exact ⟨[], rfl, .nil⟩
  | (k, d) :: gs, _, h => by
    cases h with
    | cons r1 r2 t =>
      obtain ⟨kvs, rfl, rk⟩ := rpp_keys (gs := gs) t
      obtain rfl := rp_key r1
      exact ⟨_ :: _, rfl, .cons r2 rk⟩
/-! ### freezing -/
end
end Dl
set_option Elab.async false
set_option linter.all false
set_option maxRecDepth 100000
/-! min(xs, default=d) -/
set_option Elab.async false
set_option linter.all false
set_option maxRecDepth 100000
set_option Elab.async false
set_option linter.all false
set_option maxRecDepth 100000
namespace Dl
open PySem L2
def rAbs : List V → Hp → VK → Prop := fun xs H Q => ∃ i, xs = [.int i] ∧ Q (.int (if i < 0 then -i else i)) H
section
variable {K : PySem.W.Frag} {μ : Mu} {P : D → Mu → Prop} {i : Int} {d : D} {ds : List D}
theorem rc_abs (h : P (.int (i.natAbs : Int)) μ) : RC K rAbs [.int i] μ P := fun G H al vs A r Q hQ => by
  obtain ⟨v, rfl, r1⟩ := rps1 r
  cases r1
  refine ⟨i, rfl, ?_⟩
  rw [show (if i < 0 then -i else i) = (i.natAbs : Int) by split <;> omega]
  exact hQ.now A (.int _) h
end
end Dl
set_option Elab.async false
set_option linter.all false
set_option maxRecDepth 100000
/-! a def called through its class, C.m(..); a head with more facts -/
namespace Dl
open PySem L2 PyProof.Rows
/-! ### the head, with more facts -/
abbrev AlX : Type := He.AlD × Bool
def exAll (ex : List (PySem.W.Frag → Bool)) (K : PySem.W.Frag) : Bool := ex.all fun e => e K
theorem exAll_at {ex : List (PySem.W.Frag → Bool)} {K : PySem.W.Frag} (h : exAll ex K = true) (i : Nat) {e : PySem.W.Frag → Bool} (he : ex[i]? = some e := by rfl) : e K = true := List.all_eq_true.mp h e (List.mem_of_getElem? he)
end Dl
set_option Elab.async false
set_option linter.all false
set_option maxRecDepth 100000
/-! list(range(a, b)) of numbers of any size -/
set_option Elab.async false
set_option linter.all false
set_option maxRecDepth 100000
/-! int of a truth value; isinstance of own classes: what of the head it wants -/
set_option Elab.async false
set_option linter.all false
set_option maxRecDepth 100000
/-! sorted(set(xs)) of a list of ints -/
set_option Elab.async false
set_option linter.all false
set_option maxRecDepth 100000
/-! list.count of texts; slices stored; dict(pairs), d.get(k, x) -/
set_option Elab.async false
set_option linter.all false
set_option Elab.async false
set_option linter.all false
set_option maxRecDepth 100000
set_option maxHeartbeats 2000000
/-! exceptions that are caught and kept as values -/
namespace Dl
open PySem PySem.Spec PyProof.Rows L2
section
variable {X : Cx} {pins : List (Addr × Obj)} {σ : L2.St} {H : Hp} {s : Shared}
/-- an object that the frame has met (an exception) is tracked from here on -/
theorem trackX {a : Addr} {oe : Obj} {vs : Array Value} {cls : Value} {d : Option Addr} (I : Inv X pins σ H s) (ha : s.heap.get? a = some oe) (hz : Zc cls d oe) (hd : oe.data = .fields vs) (na : H a = none)
    (nL : a ≠ X.env.locals) (h0 : X.s_0.heap.get? a = none) (hp : ∀ p ∈ X.pn ++ pins, p.1 ≠ a) : Inv X pins σ (upd H a (ExV cls d a)) s := by
  refine ⟨I.ok, I.os, I.bare, ⟨I.base.keep, I.base.slot, fun b o e n hx => ?_, I.base.there, fun b xs e => ?_, fun b o u e => ?_, fun b ps e => ?_⟩, I.loc, I.cell, ?_, fun x c e => ?_, fun p hp' => ?_, fun b u e => ?_, I.len⟩
  · have z : b ≠ a := fun z => by rw [z, h0] at e; cases e
    rw [upd_ne z]; exact I.base.free b o e n hx
  · have q := I.base.tups b xs e
    rw [upd_ne (ne_of_none q na)]; exact q
  · have q := I.base.frzs b o u e
    rw [upd_ne (ne_of_none q na)]; exact q
  · obtain ⟨m, q⟩ := I.base.tbls b ps e
    exact ⟨m, by rw [upd_ne (ne_of_none q na)]; exact q⟩
  · rw [upd_ne nL.symm]; exact I.free
  · obtain ⟨v, o, ho, hd'⟩ := I.cell x c e
    have z : c ≠ a := fun z => by
      rw [z, ha] at ho; cases ho
      rw [hd] at hd'; cases hd'
    rw [upd_ne z]; exact I.freeC x c e
  · obtain ⟨e, n, ne, nf, d'⟩ := I.pin p hp'
    exact ⟨e, by rw [upd_ne (hp p hp')]; exact n, ne, nf, d'⟩
  · by_cases hb : b = a
    · subst hb
      rw [upd_same] at e
      cases e
      exact ⟨⟨oe, vs, ha, hz, hd⟩, ⟨oe, ha⟩, fun _ _ ⟨o, v, q, r⟩ k => ⟨o, v, k o q, r⟩⟩
    · rw [upd_ne hb] at e
      exact (I.hok b u e).stay (fun c v _ q => q) (fun c q => by rw [upd_ne (ne_of_none q na)]; exact q) fun c xs q => by rw [upd_ne (ne_of_none q na)]; exact q
/-- the frame of an except suite whose exception is tracked -/
theorem inSuite {a : Addr} (I : Inv X pins σ H s) : Inv (X.suite a (X.pn ++ pins)) [] σ H s :=
  ⟨I.ok.suite _ _, I.os, I.bare, I.base, I.loc, I.cell, I.free, I.freeC, fun p hp => I.pin p (by rw [List.append_nil] at hp; exact hp), I.hok, I.len⟩
theorem outSuite {a : Addr} {pn' : List (Addr × Obj)} (I : Inv (X.suite a (X.pn ++ pins)) pn' σ H s) (ok : X.Ok) : Inv X pins σ H s :=
  ⟨ok, I.os, I.bare, I.base, I.loc, I.cell, I.free, I.freeC, fun p hp => I.pin p (List.mem_append_left _ hp), I.hok, I.len⟩
end
/-- the ends of an except suite: its name goes -/
def endsX (i : Nat) (D : Ends) : Ends := { nx := fun σ' H' => D.nx (σ'.set i none) H', rt := D.rt, bk := fun σ' H' => D.bk (σ'.set i none) H', ct := fun σ' H' => D.ct (σ'.set i none) H' }
/-- what 'except x as n' wishes of an exception: slot i is n's -/
def wKp (K : PySem.W.Frag) (c : Value) (i : Nat) (ts : TS) (Wout : WX) (D : Ends) : WX := fun cls d σ H =>
  ∃ b, PySem.W.exmOne K cls c = some b ∧ (b = true → ∀ a, H a = none → ts (endsX i D) (σ.set i (some (.ref a))) (upd H a (ExV cls d a))) ∧ (b = false → Wout cls d σ H)
def tTry (K : PySem.W.Frag) (c : Value) (i : Nat) (tb : WX → TS) (ts : TS) (Wout : WX) : TS := fun D σ H => tb (wKp K c i ts Wout D) D σ H
section
variable {X : Cx} {x n : Str} {c : Value} {i : Nat} {body suite : List Stmt} {b₀ : Stmt} {np pos pos' : Pos} {tb : WX → TS} {ts : TS} {Wout : WX}
/-- try: .. except x as n: .., the caught exception stays a value -/
theorem ps_try_kp (hs : X.stack = X.env :: X.outer) (hf : X.env.frame = some X.env.locals) (hex : X.ex = []) (hN : X.N.Nodup) (hi : X.N[i]? = some n) (hln : X.env.kindOf n = some .local) (hc : Names X x c) (tk : Takes X Wout)
    (hb : ∀ (W : WX) (pn : List (Addr × Obj)) (xe : Value → Shared → Prop), Takes (X.tr pn xe) W → PassesOwn (model X.prog X.w) X.A X.env xe → PSs (X.tr pn xe) body (tb W))
    (hsu : ∀ (a : Addr) (pn : List (Addr × Obj)), PSs (X.suite a pn) (b₀ :: suite) ts) :
    PS X (.Try body [.ExceptHandler (some (.Name x np)) (some n) (b₀ :: suite) pos'] [] [] pos) (tTry X.K c i tb ts Wout) := by
  refine ⟨fun pins s σ H D I h => ?_⟩
  have ok := I.ok
  have hfr : X.A.frames = some (X.env :: X.outer) := ok.frames.trans (by rw [hs])
  have hloc : Loc X.env.scope n := Or.inl hln
  refine wpAny_Try_except ?_
  refine wpAny_mono ((hb (wKp X.K c i ts Wout D) (X.pn ++ pins) (fun e s₁ => wpAny (model X.prog X.w) X.A (noteFrame e X.env) (fun _ s₂ => wpAny (model X.prog X.w) X.A (setFlight e none) (fun _ s₃ =>
    wpAny (model X.prog X.w) X.A (handleBy e X.env [.ExceptHandler (some (.Name x np)) (some n) (b₀ :: suite) pos']) (SP X pins D) X.xe s₃) X.xe s₂) X.xe s₁) (fun u s' xx => ?_) PassesOwn.looking).run [] s σ H D (I.toTry _) h) (fun f s1 hsp => ?_) (fun e s1 he => he)
  · obtain ⟨a, B, sI, pins', σ', H', cls, d, rfl, J', nb, up, sky, na, os, ag, b, hb1, hyes, hno⟩ := xx
    have J : Inv X pins σ' H' sI := J'.ofTry ok
    have skyE : Sky B (X.env :: X.outer) a (Zc cls d) X.env.locals s'.heap := hs ▸ sky
    show wpAny (model X.prog X.w) X.A (noteFrame (.ref a) X.env) _ _ _
    refine Sky.land Zc.steady hfr hf skyE fun h3 fl3 up3 => ?_
    have J3 : Inv X pins σ' H' { s' with heap := h3 } := J.landed nb fl3.1 (up.trans up3) os ag
    obtain ⟨oe3, vs3, he3, hz3, hd3⟩ := fl3.there
    have nfr : a ∉ frs (X.env :: X.outer) := fun hm => by
      obtain ⟨_, o', e', hnf⟩ := fl3.2.2.1.mem hm
      rw [he3] at e'; cases e'
      exact hnf _ hd3
    have ba : B.get? a = none := fl3.2.1
    have nL : a ≠ X.env.locals := fun z => nfr (List.mem_filterMap.mpr ⟨X.env, List.mem_cons_self, by rw [hf, z]⟩)
    have nI : sI.heap.get? a = none := by
      cases q : sI.heap.get? a with
      | none => rfl
      | some o =>
        have := nb a o q (hs ▸ nfr)
        rw [ba] at this; cases this
    have n0 : X.s_0.heap.get? a = none := by
      cases q : X.s_0.heap.get? a with
      | none => rfl
      | some o =>
        obtain ⟨o', z⟩ := J.base.there a o q (by rw [hex]; exact fun z => nomatch z)
        rw [nI] at z; cases z
    have np' : ∀ p ∈ X.pn ++ pins, p.1 ≠ a := fun p hp z => by
      have := (J.pin p hp).1
      rw [z, nI] at this; cases this
    have nF : a ∉ X.fs := fun hm => by
      obtain ⟨e, he, q⟩ := List.mem_filterMap.mp hm
      exact nfr (List.mem_filterMap.mpr ⟨e, List.mem_cons_of_mem _ he, q⟩)
    have S3 := J3.suite he3 hd3 na nL nF
    refine wpAny_handleBy_cons (codeAny_handlers_test ?_) (by intro q; cases q)
    have LT : PySem.W.Looks (model X.prog X.w) h3 (typeOf (.ref a)) cls := fun A Q E s k q => wpAny_typeOf_ref (k _ _ he3) (hz3.1.symm ▸ q)
    have LM := PySem.W.exm_one (M := model X.prog X.w) (J3.kIn) LT hb1
    have test : ∀ {Q : Value → Shared → Prop} {E : Value → Shared → Prop}, Q c { s' with heap := h3 } → wpAny (model X.prog X.w) (X.A.mark (some (.ref a))) (eval (.Name x np) X.env) Q E { s' with heap := h3 } := by
      intro Q E q
      obtain ⟨hg, hdbg, hm | ⟨hm, hv, hnn⟩⟩ := hc
      · refine ld_glob (X := X.suite a ((a, oe3) :: (X.pn ++ pins))) S3 hg hm q hdbg
      · refine ld_blt (X := X.suite a ((a, oe3) :: (X.pn ++ pins))) S3 hg hm hv q hnn hdbg
    refine test (LM.here ?_)
    cases b with
    | true =>
      refine codeAny_handlers_suite_as ?_
      refine HandSPX.lands_againZ fl3 fun h4 fl4 up4 => ?_
      have J4 : Inv X pins σ' H' { s' with heap := h4 } := J.landed nb fl4.1 ((up.trans up3).trans up4) os ag
      obtain ⟨oe4, vs4, he4, hz4, hd4⟩ := fl4.there
      have T4 := inSuite (a := a) (trackX J4 he4 hz4 hd4 na nL n0 np')
      refine store_ok (X := X.suite a (X.pn ++ pins)) (v := .ref a) T4 hN hi hloc rfl (fun s5 S5 => ?_) (.inr hln)
      refine wpAny_mono ((hsu a (X.pn ++ pins)).run [] s5 _ _ _ S5 (hyes rfl a na)) (fun f s6 hsp => ?_) (fun _ _ z => False.elim z)
      have end_ : ∀ {σ6 : L2.St} {H6 : Hp} {Q : Shared → Prop}, Inv (X.suite a (X.pn ++ pins)) [] σ6 H6 s6 → (∀ s7, Inv X pins (σ6.set i none) H6 s7 → Q s7) →
          wpAny (model X.prog X.w) X.A (do bindName X.env n .none; unbindBehindTheSuite X.env n pos') (fun _ s7 => Q s7) X.xe s6 := fun {σ6 H6 Q} S6 hq => gone_ok (outSuite S6 ok) hN hi hln hq
      cases f with
      | next =>
        obtain ⟨τ, H6, S6, q6⟩ := hsp
        exact end_ S6 fun s7 J7 => ⟨_, _, J7, q6⟩
      | brk =>
        obtain ⟨τ, H6, S6, q6⟩ := hsp
        exact end_ S6 fun s7 J7 => ⟨_, _, J7, q6⟩
      | cont =>
        obtain ⟨τ, H6, S6, q6⟩ := hsp
        exact end_ S6 fun s7 J7 => ⟨_, _, J7, q6⟩
      | ret u =>
        obtain ⟨w6, τ, H6, S6, r6, q6⟩ := hsp
        exact end_ S6 fun s7 J7 => ⟨_, _, _, J7, r6, q6⟩
    | false =>
      show wpAny _ X.A (handleBy (.ref a) X.env []) _ _ _
      refine wpAny_handleBy_nil ?_
      obtain ⟨k1, k2, k3, oe, vs, T, oT, tz, he, hz, hd, h1, hr⟩ := id fl3
      unfold PySem.passOn
      refine wpAny_bind (wpAny_field he hd h1 ?_)
      rw [if_neg (show ¬ ((Value.ref T == Value.none) = true) by simp)]
      have fin : wpAny (model X.prog X.w) X.A (setFlight (.ref a) X.env.frame) (fun _ s4 => wpAny (model X.prog X.w) X.A (throw (.ref a) : Sem Flow) (SP X pins D) X.xe s4) X.xe { s' with heap := h3 } := by
        rw [hf]
        refine HandSPX.setFlight_upZ fl3 fun h4 hh4 up4 => wpAny_throw (tk _ _ ?_)
        refine ⟨a, B, sI, pins, σ', H', cls, d, rfl, J, nb, (up.trans up3).trans up4, .inr (.inr (hs ▸ hh4)), na, os, ag, hno rfl⟩
      first
        | exact wpAny_bind (wpAny_pure (wpAny_bind fin))
        | exact wpAny_bind fin
  · cases f with
    | next =>
      obtain ⟨τ, H6, J6, q⟩ := hsp
      exact wpAny_execs_nil ⟨τ, H6, J6.ofTry ok, q⟩
    | brk =>
      obtain ⟨τ, H6, J6, q⟩ := hsp
      exact ⟨τ, H6, J6.ofTry ok, q⟩
    | cont =>
      obtain ⟨τ, H6, J6, q⟩ := hsp
      exact ⟨τ, H6, J6.ofTry ok, q⟩
    | ret u =>
      obtain ⟨w, τ, H6, J6, r, q⟩ := hsp
      exact ⟨w, τ, H6, J6.ofTry ok, r, q⟩
end
/-! ### calls in a try's body: what is wished of exceptions hangs on the slots -/
section
variable {X : Cx} {CX : CXT} {k : Nat} {f C : Addr} {fd : FuncData} {ps : List Str} {sp : Sp} {E : L2.St → XK} {x m : Str} {p pos apos : Pos} {e o : Expr} {es : List Expr} {ta : TE} {t : TA}
def tMethS (C : Addr) (m : Str) (sp : Sp) (E : L2.St → XK) (ta : TE) (t : TA) : TE := fun σ H Q => tMeth C m sp [] (E σ) ta t σ H Q
def tMakeS (C : Addr) (sp : Sp) (dvs : List V) (E : L2.St → XK) (t : TA) : TE := fun σ H Q => tMake C sp dvs (E σ) t σ H Q
theorem pe_methS {pl : Sem Bool} (he : PE X o ta) (c : Cls X.K C) (hm : Meth X.K C m f) (F : FnOk X.prog X.w X.K X.mg X.base CX k f fd ps sp) (hr : Room k X.A) (hb : Binds X.K fd ps []) (hx : ∀ σ, PassesAt CX X σ (E σ)) (ha : PA X (e :: es) t)
    (hst : starEach (e :: es) X.env = (false, eval e X.env) :: starEach es X.env := by rfl) (hpl : (backTo pos (starEach es X.env)).any (·.1) = false := by rfl)
    (ht : eval (.Call (.Attribute o m apos) (e :: es) [] pos) X.env = (do
      let ov ← eval o X.env; standAt apos.atName
      let (f, first) ← holding [ov] (getMethod ov m pl); callWith pos f first (backTo pos (starEach (e :: es) X.env)) (backToKw pos (keywordEach [] X.env))) := by rfl) :
    PE X (.Call (.Attribute o m apos) (e :: es) [] pos) (tMethS C m sp E ta t) := by
  refine ⟨fun pins s σ H Q I h => ?_⟩
  refine PySem.W.methodCall_KW (pl := pl) (thn (he.run pins s σ H _ I h) fun u s1 ⟨x, H1, I1, rx, a, dx, fs, ex, ea, l, q⟩ => ?_) ht
  cases ex
  cases (show u = Value.ref a from rx)
  refine getmeth_ok I1 ea c hm l ?_
  refine PySem.W.callWith_K (first := [.ref a]) (h₀ := X.base) I.ok.mod.kin hm.kp (thn (ha.run pos pins s1 σ H1 _ I1 q) fun us s2 ⟨vs, H2, I2, r, q2⟩ => ⟨I2.kIn, ?_⟩) hst hpl
  have q3 : sp (V.ref a :: vs) H2 Q (E σ) := by
    have z : sp (V.ref a :: (vs ++ [])) H2 Q (E σ) := q2
    rwa [List.append_nil] at z
  exact run_fnS (us := .ref a :: us) (vs := .ref a :: vs) (E := E) F hr hb (hx σ) I2 (.cons rfl r) q3
theorem run_makeS {dvs : List V} {ds : List Value} {pins : List (Addr × Obj)} {σ : L2.St} {H : Hp} {s : Shared} {Q : VK} {us : List Value} {vs : List V} (M : Mk X.K C f) (F : FnOk X.prog X.w X.K X.mg X.base CX k f fd ps sp) (hr : Room (k + 1) X.A) (hb : Binds X.K fd ps ds) (hd : Vals dvs ds)
    (hx : PassesAt CX X σ (E σ)) (I : Inv X pins σ H s) (r : Vals vs us)
    (h : ∀ x dx, H x = none → H dx = none → dx ≠ x → sp (.ref x :: (vs ++ dvs)) (upd (upd H dx (.own x)) x (.ins C dx [])) (fun v H2 => v = .non ∧ Q (.ref x) H2) (E σ)) :
    wpAny (model X.prog X.w) X.A (call (.ref C) us) (EP X pins σ Q) X.xe s := by
  have hq := h (s.heap.objs.size + 1) s.heap.objs.size (I.hok.fresh (Nat.le_succ _)) (I.hok.fresh (Nat.le_refl _)) (Nat.ne_of_lt (Nat.lt_succ_self _))
  have J := Inv.made (C := C) I
  have rr : Vals (V.ref (s.heap.objs.size + 1) :: (vs ++ dvs)) (Value.ref (s.heap.objs.size + 1) :: (us ++ ds)) := .cons rfl (r.append hd)
  have hl : (Value.ref (s.heap.objs.size + 1) :: us ++ ds).length = ps.length := ((F.len _ _ _ _ hq).symm.trans rr.length).symm
  refine wpAny_call (make_map (f := f) I.kIn M.makes M.init (beq_iff_eq.mp M.fn) (codeAny_mono (F.run _ X.stack _ _ ⟨Value.ref (s.heap.objs.size + 1) :: us, []⟩ (Value.ref (s.heap.objs.size + 1) :: (us ++ ds)) _ _ (E σ) (hr.make C us [])
    (J.env0.make C us []) (hb _ (Value.ref (s.heap.objs.size + 1) :: us) J.kIn hl) rr hq) fun r s' hq' => ?_))
  cases r with
  | error e => exact hx pins _ _ e s' J hq'
  | ok fl =>
    cases fl with
    | ret u =>
      obtain ⟨v, H', J3, rv, ev, q3⟩ := J.after hq'
      cases ev
      exact ⟨rv, ⟨V.ref (s.heap.objs.size + 1), H', J3, rfl, q3⟩⟩
    | next => exact False.elim hq'
    | brk => exact False.elim hq'
    | cont => exact False.elim hq'
theorem pe_makeS {dvs : List V} {ds : List Value} (M : Mk X.K C f) (F : FnOk X.prog X.w X.K X.mg X.base CX k f fd ps sp) (hr : Room (k + 1) X.A) (hg : Gl X x) (hm : X.mg x = some (.ref C)) (hb : Binds X.K fd ps ds) (hd : Vals dvs ds) (hx : ∀ σ, PassesAt CX X σ (E σ))
    (ha : PA X (e :: es) t) (hdb : (x == ("__debug__" : Str)) = false := by decide) (he : starEach (e :: es) X.env = (false, eval e X.env) :: starEach es X.env := by rfl) (hpl : (backTo pos (starEach es X.env)).any (·.1) = false := by rfl) :
    PE X (.Call (.Name x p) (e :: es) [] pos) (tMakeS C sp dvs E t) := by
  refine ⟨fun pins s σ H Q I h => ?_⟩
  refine wpAny_Call_Name_kw (ld_glob I hg hm ?_ hdb)
  refine PySem.W.callWith_K (h₀ := X.base) I.ok.mod.kin M.kp (thn (ha.run pos pins s σ H _ I h) fun us s1 ⟨vs, H1, I1, r, q⟩ => ⟨I1.kIn, ?_⟩) he hpl
  exact run_makeS (E := E) M F hr hb hd (hx σ) I1 r q
end
/-! ### isinstance of a caught exception, its fields -/
end Dl
namespace PySem.W
open PySem PySem.Spec PySem.Calls PyProof.Rows
section
variable {prog : Program} {w : World} {A : Around} {E : Value → Shared → Prop} {s : Shared} {K : Frag} {x D : Addr} {ox : Obj} {od : Option Obj}
theorem dl_findObj {C : Addr} {name : Str} {a g : Value} (hc : (clsIn K C).isSome = true) (ha : findIn K (.ref C) name = some (some a)) (hg : specialIn K a "__get__" = some (some g)) (ht : takesIn K a = some true) : findObj K C od name = some (.bind g a) := by
  obtain ⟨cd, hc⟩ := Option.isSome_iff_exists.mp hc
  unfold findObj
  rw [hc, Option.bind_some, ha, Option.bind_some]
  simp [hg, ht]
theorem dl_classE {Q : Option Value → Shared → Prop} (C : L2.ExcC K D) (X : K.In s.heap) (I : InstAt s.heap x ox D od) (h : Q (some (.ref D)) { s with toks := s.toks + 1 }) : wpAny (model prog w) A (getAttr? (.ref x) "__class__") Q E s := by
  have hf : findObj K D od "__class__" = some (.bind (.builtin "getset_descriptor.__get__") (.builtin "object.__class__")) := dl_findObj (by obtain ⟨cd, hc, _⟩ := any_some C.hd; rw [hc]; rfl) C.ha C.hn C.ht
  obtain ⟨hp, g, d, t, os⟩ := s
  have Ty := I.type (M := model prog w)
  have Lg := looks_findIn (M := model prog w) X C.hg
  have Lk := looks_findIn (M := model prog w) X C.hk
  have Lf := looks_find (M := model prog w) X I hf
  have sub : Looks (model prog w) hp (isInstance (.ref x) (.type "BaseException")) true := Ty.andThen (looks_subIn X C.hs)
  have n0 : (false && onTheHeap (Value.builtin "BaseException.__getattribute__")) = false := rfl
  have n2 : (Value.builtin "BaseException.__getattribute__" == Value.builtin "object.__getattribute__") = false := by decide +kernel
  have n1 : (onTheHeap (Value.ref D) && Value.builtin "BaseException.__getattribute__" == Value.builtin "object.__getattribute__") = false := by rw [n2]; rfl
  unfold getAttr? getAttrBy? getAttrBy
  refine wpAny_bind (wpAny_mkText (wpAny_bind (wpAny_attempt (wpAny_holding (wpAny_bind (Ty.at (wpAny_bind (Lg.at ?_))))))))
  show wpAny _ _ (if (onTheHeap (Value.ref D) && Value.builtin "BaseException.__getattribute__" == Value.builtin "object.__getattribute__") = true then _ else _) _ _ _
  rw [n1, if_neg Bool.false_ne_true]
  unfold getAttrByItsOwn hookBefore
  refine wpAny_bind ?_
  rw [if_pos (show onTheHeap (Value.ref D) = true by rfl)]
  refine Lk.at ?_
  refine wpAny_bind (wpAny_attempt (wpAny_holding ?_))
  unfold callGetattribute
  rw [n0, if_neg Bool.false_ne_true]
  unfold boundAndCalled
  rw [PySem.F.excAttr_ValueError.ga.bind (.ref x)]
  refine wpAny_bind (wpAny_pure ?_)
  show wpAny _ _ (call (.builtin "BaseException.__getattribute__") [.ref x, .str "__class__" t]) _ _ _
  refine wpAny_call (codeAny_call_builtin PySem.F.excAttr_ValueError.ga.plain PySem.F.entry_bexc_ga ?_)
  refine @check_slot (model prog w) _ _ ⟨hp, g, d, t + 1, os⟩ "BaseException.__getattribute__" "BaseException" "__getattribute__" (.ref x) [.str "__class__" t] [] _ (by decide +kernel) (by decide +kernel) sub (PySem.F.args_bexc_ga _ _) ?_
  unfold Builtin.«object.__getattribute__»
  refine wpAny_bind (wpAny_of_eq (a := ((Value.ref x : Value), [Value.str "__class__" t])) (by first | (simp only [slotArgs]; rfl) | rfl) ?_)
  refine wpAny_bind (wpAny_pure (wpAny_bind (Ty.at (wpAny_bind (Lf.at ?_)))))
  show wpAny _ _ (holding [Value.builtin "object.__class__"] (call (.builtin "getset_descriptor.__get__") [.builtin "object.__class__", .ref x, .ref D]) >>= ret) _ _ _
  refine wpAny_bind (wpAny_holding (wpAny_call (class_get (s := ⟨hp, g, d, t + 1, os⟩) (ox := ox) (od := od) X I C.hm ?_)))
  refine wpAny_pure ?_
  show wpAny _ _ (handedOut (.ref D)) _ _ _
  rw [handedOut_of (v := .ref D) (by rfl)]
  first
    | exact wpAny_pure h
    | exact wpAny_pure (wpAny_pure h)
    | exact wpAny_pure (wpAny_bind (wpAny_pure (wpAny_pure h)))
theorem dl_kitx (C : L2.ExcC K D) : KitX K (.ref x) (.ref D) (fun h => ∃ od, InstAt h x ox D od) where
  ty := fun _ _ _ ⟨_, I⟩ => I.type
  it := fun _ _ X _ => by
    obtain ⟨cdD, hcD, _⟩ := any_some C.hd
    unfold clsIn at hcD
    split at hcD
    · rename_i c' d' cd' sl' ho
      intro A' Q' E' s' k q
      unfold isType loadHead
      refine wpAny_bind (wpAny_loadPart (k _ _ (X _ _ ho)) (wpAny_pure q))
    · cases hcD
  ne := fun h tp dd its n sl X htp => by
    obtain ⟨cdD, hcD, _⟩ := any_some C.hd
    refine Bool.eq_false_iff.mpr fun q => ?_
    have e := Value.ref.inj (beq_iff_eq.mp q)
    cases e
    unfold clsIn at hcD
    split at hcD
    · rename_i c' d' cd' sl' ho
      have z := (X _ _ ho).symm.trans htp
      cases z
    · cases hcD
  ca := fun X ⟨_, I⟩ k => dl_classE C X I k
end
end PySem.W
namespace Dl
open PySem PySem.Spec PyProof.Rows L2
/-- isinstance(e, c), e a caught exception -/
def rIsX (K : PySem.W.Frag) : List V → Hp → VK → Prop := fun xs H Q => ∃ (a C : Addr) (d : Option Addr) (fs : List (Str × V)) (c : V) (cv : Value) (b : Bool), xs = [.ref a, c] ∧ H a = some (ExV (.ref C) d a) ∧ ExD H d fs ∧ ExcC K C ∧ (∀ u, RelV c u → u = cv) ∧ PySem.W.kitOne K (.ref C) cv = some b ∧ Q (.bl b) H
theorem exInst {X : Cx} {pins : List (Addr × Obj)} {σ : L2.St} {H : Hp} {s : Shared} {a C : Addr} {d : Option Addr} {fs : List (Str × V)} (I : Inv X pins σ H s) (ha : H a = some (ExV (.ref C) d a)) (hd : ExD H d fs) : ∃ oe od, PySem.W.InstAt s.heap a oe C od ∧ (∀ dx, d = some dx → ∃ mA o, s.heap.Ns1 dx mA ∧ (∀ f, RelO (fs.lookup f) (mA f)) ∧ od = some o ∧ ∀ n, PySem.W.lookIn n o = some (mA n)) := by
  obtain ⟨⟨oe, vs, hg, hz, hf⟩, _, _⟩ := I.hok a _ ha
  rcases hd with ⟨rfl, rfl⟩ | ⟨dx, rfl, hx⟩
  · refine ⟨oe, none, ⟨hg, hz.1, by unfold PySem.W.notCls; rw [hf] <;> rfl, by rw [hz.2]; trivial⟩, fun dx e => by cases e⟩
  · have ho : ObjOk X.prog X.w H s.heap dx (.xd fs) := I.hok dx _ hx
    obtain ⟨mA, hns, hr⟩ := ho
    obtain ⟨od, ho, hl⟩ := lookIn_ns hns
    refine ⟨oe, some od, ⟨hg, hz.1, by unfold PySem.W.notCls; rw [hf] <;> rfl, by rw [hz.2]; exact ho⟩, fun dx' e => ?_⟩
    cases e
    exact ⟨mA, od, hns, hr, rfl, hl⟩
theorem call_isX {X : Cx} : CallR X (.builtin "isinstance") (rIsX X.K) := by
  intro pins s σ H xs us Q I r h
  obtain ⟨a, C, d, fs, c, cv, b, rfl, ha, hd, hC, hcv, e, q⟩ := h
  cases r with
  | cons rx rr =>
    cases rr with
    | cons rt rr =>
      cases rr
      cases rx
      cases hcv _ rt
      obtain ⟨oe, od, J, _⟩ := exInst I ha hd
      exact PySem.W.kia_one (PySem.W.dl_kitx (ox := oe) hC) I.kIn ⟨od, J⟩ e (fun z => nomatch z) fun tk => ⟨.bl b, H, I.kept (t' := tk) fun _ _ z => z, rfl, q⟩
/-- e.n, e a caught exception -/
def tXfK (K : PySem.W.Frag) (n : Str) (te : TE) : TE := fun σ H Q => te σ H fun x H1 => ∃ (a C dx : Addr) (fs : List (Str × V)) (v : V), x = .ref a ∧ H1 a = some (ExV (.ref C) (some dx) a) ∧ H1 dx = some (.xd fs) ∧ XfC K C ∧ PySem.W.findIn K (.ref C) n = some none ∧ fs.lookup n = some v ∧ Q v H1
end Dl
set_option Elab.async false
set_option linter.all false
set_option maxRecDepth 100000
set_option maxHeartbeats 2000000
/-! exceptions over data: raised with fields, caught, looked at -/
namespace Dl
open PySem PySem.Spec PyProof.Rows L2
/-! ### raise C(e, ..), C's own __init__ -/
/-! ### try -/
abbrev PWT := Addr → List (Str × D) → En → Mu → Prop
/-- what a try's body may let out: class, fields, slots, things -/
def WAg (K : PySem.W.Frag) (B : Bs) (PW : PWT) (W : WX) : Prop := ∀ C fs dd σ ρ μ G H al, B.le G H al → RpS K G al σ ρ → As K G H al μ → XRep K G al dd fs → PW C fs ρ μ → W (.ref C) dd σ H
def endsD (i : Nat) (P : DEnds) : DEnds := { nx := fun ρ μ => P.nx (ρ.set i none) μ, rt := P.rt, bk := fun ρ μ => P.bk (ρ.set i none) μ, ct := fun ρ μ => P.ct (ρ.set i none) μ }
section
variable {K : PySem.W.Frag} {B : Bs} {ρ : En} {μ : Mu} {te ta : TE} {ts : TA} {P : D → Mu → Prop} {PW : PWT} {W : WX} {C : CT} {dvs : List V} {dds : List D}
theorem ds_try {c : Value} {i : Nat} {tb : WX → TS} {su : TS} {Wout : WX} {P : DEnds} (hb : ∀ B', (∀ G H al, Bs.le B' G H al → B.le G H al) → ∀ W, WAg K B' (fun C fs ρ1 μ1 => PySem.W.exmOne K (.ref C) c = some true ∧ DS K B' su (ρ1.set i (some (.exc C fs))) μ1 (endsD i P)) W → DS K B' (tb W) ρ μ P) : DS K B (tTry K c i tb su Wout) ρ μ P := fun σ G H al hB hσ hA De hD => by
  refine hb ⟨G, H, al⟩ (fun _ _ _ n => hB.trans n) _ ?_ σ G H al .refl hσ hA De hD
  intro C fs dd σ1 ρ1 μ1 G1 H1 al1 n1 hσ1 A1 xr ⟨eb, y⟩
  refine ⟨true, eb, fun _ a na => ?_, fun z => by cases z⟩
  obtain ⟨A2, n2⟩ := A1.frz (o := ExV (.ref C) dd a) na
  have nn : Nx G H al _ _ al1 := n1.trans n2
  have rx : Rp K (upd G1 a (ExV (.ref C) dd a)) al1 (.ref a) (.exc C fs) := by
    rcases xr with ⟨rfl, rfl⟩ | ⟨d, vs, rfl, hd, rf⟩
    · exact .exc upd_same (.inl ⟨rfl, rfl⟩) .nil
    · exact .exc upd_same (.inr ⟨d, rfl, n2.g _ _ hd⟩) (rf.nx n2)
  refine y (σ1.set i (some (.ref a))) _ _ al1 nn ((hσ1.nx n2).set i rx) A2 (endsX i De) ?_
  have hD2 := hD.nx' nn
  exact ⟨fun σ' ρ' μ' G' H' al' n hσ A p => hD2.nx _ _ μ' G' H' al' n (hσ.forget i none) A p, hD2.rt, fun σ' ρ' μ' G' H' al' n hσ A p => hD2.bk _ _ μ' G' H' al' n (hσ.forget i none) A p, fun σ' ρ' μ' G' H' al' n hσ A p => hD2.ct _ _ μ' G' H' al' n (hσ.forget i none) A p⟩
theorem wag_x {G1 H1 G H : Hp} {al1 al : List Addr} {σ : L2.St} (hW : WAg K B PW W) (hB : B.le G H al) (hσ : RpS K G al σ ρ) (n1 : Nx G H al G1 H1 al1) : XAg K ⟨G1, H1, al1⟩ (fun C fs μ2 => PW C fs ρ μ2) (WE W σ) := fun C fs dd μ' G' H' al' n' A xr p => hW C fs dd σ ρ μ' G' H' al' ((hB.trans n1).trans n') ((hσ.nx n1).nx n') A xr p
theorem de_methS {Cc : Addr} {m : Str} (hW : WAg K B PW W) (h : DE K B te ρ μ fun x μ1 => ∃ gs, (x = .obj Cc gs ∨ ∃ k, x = .own k ∧ μ1[k]? = some (.ins Cc gs)) ∧ gs.lookup m = none ∧ DA K B ts ρ μ1 fun ds μ2 => C (x :: ds) μ2 P fun Cx fs μ2 => PW Cx fs ρ μ2) : DE K B (tMethS Cc m (spD K C) (WE W) te ts) ρ μ P := fun σ G H al hB hσ hA Q hQ =>
  h σ G H al hB hσ hA _ fun v x μ1 G1 H1 al1 n1 A1 r1 p1 => by
    obtain ⟨gs, hx, hl, p⟩ := p1
    have key : ∃ a dx fs, v = .ref a ∧ H1 a = some (.ins Cc dx fs) ∧ fs.lookup m = none := by
      rcases hx with rfl | ⟨k, rfl, hk⟩
      · cases r1 with | obj e rf => exact ⟨_, _, _, rfl, A1.sub _ _ e, rf.none hl⟩
      · obtain ⟨a, ha, ga, dx, fs, hv, rf⟩ := A1.get hk
        cases r1 with | own e => rw [ha] at e; cases e; exact ⟨_, _, _, rfl, hv, rf.none hl⟩
    obtain ⟨a, dx, fs, e, hv, hm⟩ := key
    refine ⟨a, dx, fs, e, hv, hm, p σ G1 H1 al1 (hB.trans n1) (hσ.nx n1) A1 _ fun vs ds μ2 G2 H2 al2 n2 A2 r2 p2 => ?_⟩
    rw [List.append_nil]
    exact ⟨G2, al2, x :: ds, μ2, P, _, A2, .cons (r1.nx n2) r2, p2, hQ.nx (n1.trans n2), wag_x hW hB hσ (n1.trans n2)⟩
theorem de_makeS {Cc : Addr} (hW : WAg K B PW W) (hd : ∀ G al, Rps K G al dvs dds) (h : DA K B ts ρ μ fun ds μ1 => C (.own μ1.length :: (ds ++ dds)) (μ1 ++ [.ins Cc []]) (fun d μ2 => d = .non ∧ ∃ gs, μ2 = μ1 ++ [.ins Cc gs] ∧ clF gs μ1.length = true ∧ P (.obj Cc gs) μ1) (RetX μ1.length fun Cx fs μ2 => PW Cx fs ρ μ2)) : DE K B (tMakeS Cc (spD K C) dvs (WE W) ts) ρ μ P := fun σ G H al hB hσ hA Q hQ =>
  de_make (B := ⟨G, H, al⟩) (PX := fun Cx fs μ2 => PW Cx fs ρ μ2) (E := WE W σ) (wag_x hW hB hσ .refl) hd (fun σ' G' H' al' hB' hσ' hA' Q' hQ' => h σ' G' H' al' (hB.trans hB') hσ' hA' Q' hQ') σ G H al .refl hσ hA Q hQ
/-! ### isinstance, fields -/
theorem rc_isX {Cc : Addr} {gs : List (Str × D)} {c : D} {cv : Value} {b : Bool} (hC : ExcC K Cc) (hc : ClD c cv) (hk : PySem.W.kitOne K (.ref Cc) cv = some b) (h : P (.bl b) μ) : RC K (rIsX K) [.exc Cc gs, c] μ P := fun G H al vs A r Q hQ => by
  obtain ⟨v, w, rfl, r1, r2⟩ := rps2 r
  cases r1 with
  | exc e hd rf =>
    refine ⟨_, Cc, _, _, w, cv, b, rfl, A.sub _ _ e, hd.mono A.sub, hC, ?_, hk, hQ.now A (.bl _) h⟩
    intro u ru
    cases hc with
    | ty n => cases r2; exact ru
    | loc C => cases r2; exact ru
theorem de_xf {n : Str} (h : DE K B te ρ μ fun x μ1 => ∃ Cc gs d, x = .exc Cc gs ∧ XfC K Cc ∧ PySem.W.findIn K (.ref Cc) n = some none ∧ gs.lookup n = some d ∧ P d μ1) : DE K B (tXfK K n te) ρ μ P := fun σ G H al hB hσ hA Q hQ =>
  h σ G H al hB hσ hA _ fun v x μ1 G1 H1 al1 n1 A1 r1 p1 => by
    obtain ⟨Cc, gs, d, rfl, hx, hn, hl, p⟩ := p1
    cases r1 with
    | exc e hd rf =>
      obtain ⟨w, lw, rw'⟩ := rf.look hl
      rcases hd with ⟨rfl, rfl⟩ | ⟨dx, rfl, hd⟩
      · cases lw
      · exact ⟨_, Cc, dx, _, w, rfl, A1.sub _ _ e, A1.sub _ _ hd, hx, hn, lw, hQ _ _ μ1 _ _ _ n1 A1 rw' p⟩
end
/-! ### what the text says of the refusals -/
/-- the refusals of the program -/
def excNames : List Str := ["BadBook", "BadCalendar", "BadFeast", "BadRow", "BadHouse", "BadNumber", "NoDay", "NoRow", "NoPiece", "TooTight", "NeverDone", "TooFar", "NoDeed", "BadText"]
def excB1 (K : PySem.W.Frag) (x : Str) : Bool := He.eqO (PySem.W.findIn K (.ref (He.ga K x)) "__getattribute__") (some (some (.builtin "BaseException.__getattribute__"))) && (He.eqO (PySem.W.findIn K (.ref (He.ga K x)) "__getattr__") (some none) &&
  (decide (PySem.W.subIn K (.ref (He.ga K x)) (.type "BaseException") = some true) && (PySem.W.hasDictIn K (He.ga K x) && (He.eqO (PySem.W.findIn K (.ref (He.ga K x)) "__class__") (some (some (.builtin "object.__class__"))) &&
  (He.eqO (PySem.W.specialIn K (.builtin "object.__class__") "__get__") (some (some (.builtin "getset_descriptor.__get__"))) && (decide (PySem.W.takesIn K (.builtin "object.__class__") = some true) && decide (PySem.W.mroIn K (He.ga K x) (.type "object") = some true)))))))
theorem excB1_ok {K : PySem.W.Frag} {x : Str} (h : excB1 K x = true) : ExcC K (He.ga K x) := by
  unfold excB1 at h
  obtain ⟨h1, h⟩ := He.ba h
  obtain ⟨h2, h⟩ := He.ba h
  obtain ⟨h3, h⟩ := He.ba h
  obtain ⟨h4, h⟩ := He.ba h
  obtain ⟨h5, h⟩ := He.ba h
  obtain ⟨h6, h⟩ := He.ba h
  obtain ⟨h7, h8⟩ := He.ba h
  exact ⟨He.eqO_ok h1, He.eqO_ok h2, of_decide_eq_true h3, h4, He.eqO_ok h5, He.eqO_ok h6, of_decide_eq_true h7, of_decide_eq_true h8⟩
/-- of each of some refusals, and of each two -/
structure KExc (K : PySem.W.Frag) (xs : List Str) : Prop where
  ec : ∀ x ∈ xs, ExcC K (He.ga K x)
  re : ∀ x ∈ xs, PySem.W.exmOne K (.ref (He.ga K x)) (.ref (He.ga K "ReadError")) = some true
  ve : ∀ x ∈ xs, PySem.W.kitOne K (.ref (He.ga K x)) (.type "ValueError") = some true
  is : ∀ x ∈ xs, ∀ y ∈ excNames, PySem.W.kitOne K (.ref (He.ga K x)) (.ref (He.ga K y)) = some (decide (x = y))
  ge : ∀ x ∈ xs, PySem.W.kitOne K (.ref (He.ga K x)) (.ref (He.ga K "ReadError")) = some true
def kexcB (xs : List Str) (K : PySem.W.Frag) : Bool := xs.all fun x => excB1 K x && (decide (PySem.W.exmOne K (.ref (He.ga K x)) (.ref (He.ga K "ReadError")) = some true) && (decide (PySem.W.kitOne K (.ref (He.ga K x)) (.type "ValueError") = some true) &&
  ((excNames.all fun y => decide (PySem.W.kitOne K (.ref (He.ga K x)) (.ref (He.ga K y)) = some (decide (x = y)))) && decide (PySem.W.kitOne K (.ref (He.ga K x)) (.ref (He.ga K "ReadError")) = some true))))
theorem kexcB_ok {xs : List Str} {K : PySem.W.Frag} (h : kexcB xs K = true) : KExc K xs := by
  unfold kexcB at h
  rw [List.all_eq_true] at h
  refine ⟨fun x hx => ?_, fun x hx => ?_, fun x hx => ?_, fun x hx y hy => ?_, fun x hx => ?_⟩
  all_goals
    obtain ⟨h1, h2⟩ := He.ba (h x hx)
    obtain ⟨h3, h4⟩ := He.ba h2
    obtain ⟨h5, h6⟩ := He.ba h4
    obtain ⟨h7, h8⟩ := He.ba h6
  · exact excB1_ok h1
  · exact of_decide_eq_true h3
  · exact of_decide_eq_true h5
  · exact of_decide_eq_true (List.all_eq_true.mp h7 y hy)
  · exact of_decide_eq_true h8
/-- fields of a refusal -/
structure KXf (K : PySem.W.Frag) (x : Str) (fs : List Str) : Prop where
  xf : XfC K (He.ga K x)
  no : ∀ f ∈ fs, PySem.W.findIn K (.ref (He.ga K x)) f = some none
  ox : OexC K (He.ga K x)
end Dl
set_option Elab.async false
set_option linter.all false
set_option maxRecDepth 100000
/-! small rules: exceptions and None, == of texts -/
namespace Dl
open PySem L2 PyProof.Rows
section
variable {K : PySem.W.Frag} {B : Bs} {ρ : En} {μ : Mu} {te : TE} {P : D → Mu → Prop}
theorem np_exc {Q : Bool → Prop} {C : Addr} {gs : List (Str × D)} (h : Q false) : IsNP (.exc C gs) Q := np_f (by simp) h
theorem ro_eqS {i j : Str} (h1 : PyData.strOk i = true) (h2 : PyData.strOk j = true) (h : P (.bl (decide (i = j))) μ) : RO K (rEqD K) (.str i) (.str j) μ P := ro_eqD (n := 0) (m := 0) (.id _) (.id _) h1 h2 (by rw [eqvD_str]; exact h)
theorem ro_neS {i j : Str} (h1 : PyData.strOk i = true) (h2 : PyData.strOk j = true) (h : P (.bl (!decide (i = j))) μ) : RO K (rNeD K) (.str i) (.str j) μ P := ro_neD (n := 0) (m := 0) (.id _) (.id _) h1 h2 (by rw [eqvD_str]; exact h)
theorem ro_eqSS {i : Str} (h1 : PyData.strOk i = true) (h : P (.bl true) μ) : RO K (rEqD K) (.str i) (.str i) μ P := ro_eqS h1 h1 (by simpa using h)
theorem ro_neSS {i : Str} (h1 : PyData.strOk i = true) (h : P (.bl false) μ) : RO K (rNeD K) (.str i) (.str i) μ P := ro_neS h1 h1 (by simpa using h)
theorem ro_eqSd {i j : Str} (h1 : PyData.strOk i = true) (h2 : PyData.strOk j = true) (hn : i ≠ j) (h : P (.bl false) μ) : RO K (rEqD K) (.str i) (.str j) μ P := ro_eqS h1 h2 (by simpa [hn] using h)
theorem ro_neSd {i j : Str} (h1 : PyData.strOk i = true) (h2 : PyData.strOk j = true) (hn : i ≠ j) (h : P (.bl true) μ) : RO K (rNeD K) (.str i) (.str j) μ P := ro_neS h1 h2 (by simpa [hn] using h)
/-- fields of a caught exception -/
def XfP (K : PySem.W.Frag) (n : Str) (x : D) (Q : D → Prop) : Prop := ∃ Cc gs d, x = .exc Cc gs ∧ XfC K Cc ∧ PySem.W.findIn K (.ref Cc) n = some none ∧ gs.lookup n = some d ∧ Q d
theorem de_xfZ {n : Str} (h : DE K B te ρ μ fun x μ1 => XfP K n x fun d => P d μ1) : DE K B (tXfK K n te) ρ μ P := de_xf h
theorem xf_i {n x : Str} {fs : List Str} {gs : List (Str × D)} {d : D} {Q : D → Prop} (k : KXf K x fs) (hn : n ∈ fs) (hl : gs.lookup n = some d) (h : Q d) : XfP K n (.exc (He.ga K x) gs) Q := ⟨_, _, _, rfl, k.xf, k.no _ hn, hl, h⟩
end
end Dl
set_option Elab.async false
set_option linter.all false
set_option maxRecDepth 100000
/-! range downwards -/
set_option Elab.async false
set_option linter.all false
set_option maxRecDepth 100000
/-! tuple(x), a number in a tuple, list(dict) -/
namespace Dl
open PySem L2 PyProof.Rows
section
variable {K : PySem.W.Frag} {B : Bs} {ρ : En} {μ : Mu} {te : TE} {P : D → Mu → Prop}
theorem de_tupOf (h : DE K B te ρ μ fun x μ1 => ∃ ds, Ls μ1 x ds ∧ P (.tup ds) μ1) : DE K B (tThen te (kTup K)) ρ μ P := fun σ G H al hB hσ hA Q hQ =>
  h σ G H al hB hσ hA _ fun v d μ1 G1 H1 al1 n1 A1 r1 p1 => by
    obtain ⟨ds, hl, p⟩ := p1
    obtain ⟨a, ws, rfl, s, rs⟩ := hl.get A1 r1
    refine .inl ⟨a, ws, rfl, s, fun q hq => ?_⟩
    obtain ⟨A2, n2⟩ := A1.frz (o := .tup ws) hq
    exact hQ _ _ μ1 _ _ al1 (n1.trans n2) A2 (.tup upd_same (rs.nx n2)) p
end
end Dl
set_option Elab.async false
set_option linter.all false
set_option maxRecDepth 100000
set_option maxHeartbeats 2000000
/-! lambdas handed to a def -/
set_option Elab.async false
set_option linter.all false
set_option maxRecDepth 100000
set_option maxHeartbeats 2000000
/-! lambdas over data; the head and the end with tables -/
set_option Elab.async false
set_option linter.all false
set_option maxRecDepth 100000
/-! str(i) -/
set_option Elab.async false
set_option linter.all false
set_option maxRecDepth 100000
/-! x in l, items of any depth -/
set_option Elab.async false
set_option linter.all false
set_option maxRecDepth 100000
/-! the head's facts over a told list of objects -/
namespace Dl
open PySem L2 PyProof.Rows
def obsLG (as : List Addr) (fa : List He.Fa) (fn : List He.DefD) (ex : List (PySem.W.Frag → Bool)) (g : Addr → Option Obj) : AlX := (He.obsD fa fn (He.frG g as), exAll ex (He.frG g as))
def hookL (as : List Addr) (fa : List He.Fa) (fn : List He.DefD) (ex : List (PySem.W.Frag → Bool)) : PySem.W.Hook where
  α := AlX
  obs := fun s => obsLG as fa fn ex s.heap.get?
  val := fun _ => (He.valD fn, true)
  says := fun _ h => ∃ K : PySem.W.Frag, K.In h ∧ He.SaysD fa fn K ∧ exAll ex K = true
  of := fun _ _ e => ⟨_, He.frG_in, congrArg Prod.fst e, congrArg Prod.snd e⟩
  keeps := fun _ _ _ ⟨K, hK, c⟩ k => ⟨K, PySem.W.Frag.In.keeps hK k, c⟩
theorem obsLG_eq {as : List Addr} {fa : List He.Fa} {fn : List He.DefD} {ex : List (PySem.W.Frag → Bool)} {g : Addr → Option Obj} {s : Shared} (h : ∀ a, g a = s.heap.get? a) : obsLG as fa fn ex g = (hookL as fa fn ex).obs s := by
  have e : g = s.heap.get? := funext h
  rw [e] <;> rfl
/-! with tables -/
/-! ### the run, looked at thrice -/
/-! ### a slice as a target; room -/
end Dl
set_option Elab.async false
set_option linter.all false
set_option maxRecDepth 100000
/-! a dict that is walked stands locked for that time -/
namespace Dl
open PySem L2
/-- G2 is G1 but for locks of dicts -/
def Lk (G G' : Hp) : Prop := ∀ b o, G b = some o → G' b = some o ∨ ((∃ kvs, o = .dK kvs ∨ ∃ o', o = .frz o' (.dK kvs)) ∧ ∀ kvs, Rd G b (.dK kvs) → Rd G' b (.dK kvs))
section
variable {K : PySem.W.Frag} {G G' : Hp} {al al' : List Addr}
theorem Lk.plain (s : Lk G G') {b : Addr} {o : HO} (h : G b = some o) (n1 : ∀ kvs, o ≠ .dK kvs) (n2 : ∀ o' kvs, o ≠ .frz o' (.dK kvs)) : G' b = some o := by
  rcases s b o h with z | ⟨⟨kvs, z | ⟨o', z⟩⟩, _⟩
  · exact z
  · exact absurd z (n1 kvs)
  · exact absurd z (n2 o' kvs)
end
end Dl
set_option Elab.async false
set_option linter.all false
set_option maxRecDepth 100000
/-! Dl37: == and != of things of own classes, any answer -/
namespace Dl
open PySem L2 PyProof.Rows
section
variable {K : PySem.W.Frag} {μ : Mu} {P : D → Mu → Prop} {x y : D} {C : Addr} {gs : List (Str × D)} {tb : Value} {Ct : CT} {E : XK}
/-- a thing of the class at C -/
def InO (μ : Mu) (C : Addr) (x : D) : Prop := ∃ gs, x = .obj C gs ∨ ∃ k, x = .own k ∧ μ[k]? = some (.ins C gs)
theorem InO.get {G H : Hp} {al : List Addr} {v : V} (h : InO μ C x) (A : As K G H al μ) (r : Rp K G al v x) : ∃ a dx fs, v = .ref a ∧ H a = some (.ins C dx fs) := by
  obtain ⟨gs, rfl | ⟨k, rfl, hk⟩⟩ := h
  · cases r with
    | obj e rf => exact ⟨_, _, _, rfl, A.sub _ _ e⟩
  · obtain ⟨a, ha, ok⟩ := A.get hk
    cases r with
    | own e =>
      rw [ha] at e
      cases e
      obtain ⟨ga, dx, fs, hv, rf⟩ := ok
      exact ⟨_, _, _, rfl, hv⟩
end
end Dl
set_option Elab.async false
set_option linter.all false
set_option maxRecDepth 100000
/-! the top's run in pieces, the state behind each told -/
namespace Dl
open PySem PySem.W PySem.Calls PyProof.Rows HandSHeadRun
section
variable (st : SharedT → Thread → Option (SharedT × Thread)) (n0 : Nat) (ann : Option Value)
/-- so many steps, none of them the last one -/
def stepsF : Nat → SharedT → Thread → Option (SharedT × Thread)
  | 0, s, t => some (s, t)
  | m + 1, s, t => match through t with
    | true => none
    | false => match stepOk n0 ann t with
      | false => none
      | true => match st s t with
        | none => none
        | some (s2, t2) => frS s2 fun s2 => stepsF m s2 t2
/-- to the end of a piece of the text -/
def pieceF (b : Nat) : Nat → SharedT → Thread → Option (Flow × SharedT × Code × Pos)
  | 0, _, _ => none
  | m + 1, s, t => match endAt b t with
    | some f => some (f, s, t.code, t.pos)
    | none => match stepOk n0 ann t with
      | false => none
      | true => match st s t with
        | none => none
        | some (s2, t2) => frS s2 fun s2 => pieceF b m s2 t2
end
section
variable {tb : String → Option Builtin} {p : Program} {w : World} {n0 : Nat} {ann : Option Value}
theorem stepsF_ok : ∀ {m : Nat} {s s' : SharedT} {t t' : Thread}, stepsF (stepT (denote tb) p w) n0 ann m s t = some (s', t') → topGo tb p w n0 ann m s.abs t = some (s'.abs, t')
  | 0, _, _, _, _, h => by cases h; rfl
  | m + 1, s, s', t, t', h => by
    unfold stepsF at h
    unfold topGo
    cases e1 : through t with
    | true => rw [e1] at h; cases h
    | false =>
      cases e2 : stepOk n0 ann t with
      | false => rw [e1, e2] at h; cases h
      | true =>
        cases e3 : stepT (denote tb) p w s t with
        | none => rw [e1, e2, e3] at h; cases h
        | some r =>
          rw [e1, e2, e3] at h
          have h2 : (frS r.1 fun s2 => stepsF (stepT (denote tb) p w) n0 ann m s2 r.2) = some (s', t') := h
          rw [frS_eq] at h2
          have e4 := stepT_spec (s' := r.1) (t' := r.2) e3
          simp only [e4]
          exact stepsF_ok h2
theorem pieceF_ok {b : Nat} : ∀ {m : Nat} {s s' : SharedT} {t : Thread} {f : Flow} {c : Code} {q : Pos}, pieceF (stepT (denote tb) p w) n0 ann b m s t = some (f, s', c, q) → segRun tb p w n0 ann b m s.abs t = some (f, s'.abs, c, q)
  | 0, _, _, _, _, _, _, h => by cases h
  | m + 1, s, s', t, f, c, q, h => by
    unfold pieceF at h
    unfold segRun
    cases e1 : endAt b t with
    | some g => rw [e1] at h; cases h; rfl
    | none =>
      cases e2 : stepOk n0 ann t with
      | false => rw [e1, e2] at h; cases h
      | true =>
        cases e3 : stepT (denote tb) p w s t with
        | none => rw [e1, e2, e3] at h; cases h
        | some r =>
          rw [e1, e2, e3] at h
          have h2 : (frS r.1 fun s2 => pieceF (stepT (denote tb) p w) n0 ann b m s2 r.2) = some (f, s', c, q) := h
          rw [frS_eq] at h2
          have e4 := stepT_spec (s' := r.1) (t' := r.2) e3
          simp only [e4]
          exact pieceF_ok h2
end
/-- the step, by the library's twins -/
noncomputable abbrev stQ (p : Program) (w : World) : SharedT → Thread → Option (SharedT × Thread) := stepQ (denQ tabQ) p w
theorem stQ_eq (p : Program) (w : World) : stepT (denote treeTable) p w = stQ p w := by
  unfold stQ
  rw [stepQ_eq, denQ_eq, tabQ_eq]
abbrev cdOf (p : Program) (env : Env) : Code := .body (behindTheImports p) env
section
variable {p : Program} {w : World} {n0 : Nat} {ann : Option Value} {env : Env} {qp pos pos' : Pos} {S S' r : SharedT}
theorem cp_piece {a b m N : Nat} (h : pieceF (stQ p w) n0 ann 1 m S (piecesOf (((behindTheImports p).drop a).take b) env (cdOf p env) pos [topFrame qp]) = some (.next, S', cdOf p env, pos'))
    (k : topRun treeTable p w n0 ann N S'.abs (restOf ((behindTheImports p).drop (a + b)) env (cdOf p env) pos' [topFrame qp]) = some r.abs) :
    topRun treeTable p w n0 ann (m + N) S.abs (restOf ((behindTheImports p).drop a) env (cdOf p env) pos [topFrame qp]) = some r.abs := by
  rw [← stQ_eq] at h
  have z := piece_app (pieceF_ok h) (rest := (behindTheImports p).drop (a + b)) k
  rw [← List.drop_drop, List.take_append_drop] at z
  exact z
theorem cp_last {a m : Nat} (e : (behindTheImports p).drop a = []) (h : goF (stQ p w) n0 ann m S ⟨doneF .next, cdOf p env, pos, [topFrame qp]⟩ = some r) :
    topRun treeTable p w n0 ann m S.abs (restOf ((behindTheImports p).drop a) env (cdOf p env) pos [topFrame qp]) = some r.abs := by
  rw [← stQ_eq] at h
  rw [e]
  exact piece_nil (goF_ok h)
theorem cp_block {m N : Nat} (h : pieceF (stQ p w) n0 ann 1 m S (blockOf (behindTheImports p) env (cdOf p env) pos [topFrame qp]) = some (.next, S', cdOf p env, pos'))
    (k : topRun treeTable p w n0 ann N S'.abs (restOf ((behindTheImports p).drop 0) env (cdOf p env) pos' [topFrame qp]) = some r.abs) :
    topRun treeTable p w n0 ann (m + N) S.abs ⟨denote treeTable (cdOf p env), cdOf p env, pos, [topFrame qp]⟩ = some r.abs := by
  rw [← stQ_eq] at h
  exact piece_block (pieceF_ok h) k
theorem cp_pre {m N : Nat} {t : Thread} (h : stepsF (stQ p w) n0 ann m S t = some (S', ⟨denQ tabQ (cdOf p env), cdOf p env, pos, [topFrame qp]⟩))
    (k : topRun treeTable p w n0 ann N S'.abs ⟨denote treeTable (cdOf p env), cdOf p env, pos, [topFrame qp]⟩ = some r.abs) : topRun treeTable p w n0 ann (m + N) S.abs t = some r.abs := by
  rw [← stQ_eq] at h
  have e : denQ tabQ (cdOf p env) = denote treeTable (cdOf p env) := by rw [denQ_eq, tabQ_eq]
  rw [e] at h
  exact go_top (stepsF_ok h) k
end
/-- the top, told by its end -/
structure TopEnd (r : OpenRow) (q : Program) (loose : List PySem.Str) (H : Hook) (ob : SharedT → H.α) (M : Nat) (w : World) (os : OsState) (s : SharedT) : Prop where
  run : topRun treeTable r.prog w (boot_heap w.params).objs.size (bootAnn w) M ⟨boot_heap w.params, #[], boot_drawn, boot_toks, os⟩ (topStub r.prog) = some s.abs
  l1 : looksF r.prog (boot_heap w.params) s.abs = true
  l2 : seenQ q loose (importedModules r.prog.main.body) (fun s => xlAt q [] s && recOk r.toRowW.records s) s.abs = openGood q loose
  l3 : ob s = H.val w
theorem cp_boot {p : Program} {w : World} {os : OsState} {T : BT} {n N : Nat} {r : SharedT} (e : putAll (boot_heap w.params).objs.toList .nil 0 = some (T, n))
    (k : topRun treeTable p w n (bootAnn w) N (bootT w os (T, n)).abs (topStub p) = some r.abs) :
    topRun treeTable p w (boot_heap w.params).objs.size (bootAnn w) N ⟨boot_heap w.params, #[], boot_drawn, boot_toks, os⟩ (topStub p) = some r.abs := by
  have eh := putAll_heap e
  have en : n = (boot_heap w.params).objs.size := by
    rw [← eh]
    exact (absHeap_size T n _).symm
  subst en
  have eb : (bootT w os (T, (boot_heap w.params).objs.size)).abs = ⟨boot_heap w.params, #[], boot_drawn, boot_toks, os⟩ := by
    unfold bootT SharedT.abs
    rw [eh]
  rw [eb] at k
  exact k
theorem cp_mono {p : Program} {w : World} {n0 : Nat} {ann : Option Value} {N M : Nat} {s r : Shared} {t : Thread} (le : Nat.ble N M = true) (k : topRun treeTable p w n0 ann N s t = some r) : topRun treeTable p w n0 ann M s t = some r := by
  have z := topRun_mono (M - N) N s t r k
  have := Nat.le_of_ble_eq_true le
  rw [Nat.add_sub_cancel' this] at z
  exact z
theorem left_cp {p q : Program} {loose : List PySem.Str} {Xt : Shared → Bool} {α : Type} {Yf : Shared → α} {Ya : World → α} {N M : Nat}
    (e : opening p = plainProg p.main.scope.names) (hN : Nat.ble 600 N = true) (f : ∀ s, fenceModules? p s = some s) (le : Nat.ble M N = true)
    (run : ∀ (w : World) (os : OsState), ∃ s : SharedT, topRun treeTable p w (boot_heap w.params).objs.size (bootAnn w) M ⟨boot_heap w.params, #[], boot_drawn, boot_toks, os⟩ (topStub p) = some s.abs ∧ looksF p (boot_heap w.params) s.abs = true ∧ openSeen q loose (importedModules p.main.body) Xt true s.abs = openGood q loose ∧ Yf s.abs = Ya w) : LeftO p q loose Xt Yf Ya N true := by
  intro w
  obtain ⟨⟨h, gs, d, k, os⟩, a, a'⟩ := Option.map_eq_some_iff.mp (boot_open e hN f w)
  have a4 : h = boot_heap w.params ∧ gs = Array.mk [] ∧ d = boot_drawn ∧ k = boot_toks := by simpa using a'
  obtain ⟨rfl, rfl, rfl, rfl⟩ := a4
  obtain ⟨s, r, z1, z2, z3⟩ := run w os
  have r2 := cp_mono le r
  have top : topFrom treeTable p w N ⟨boot_heap w.params, Array.mk [], boot_drawn, boot_toks, os⟩ = some s.abs := by
    unfold topFrom
    dsimp only
    rw [boot_ns]
    have r3 : topRun treeTable p w (boot_heap w.params).objs.size ((boot_heap w.params).nsMap mainGlobals "__annotations__") N ⟨boot_heap w.params, Array.mk [], boot_drawn, boot_toks, os⟩ (topStub p) = some s.abs := r2
    have z4 : (staticsOk (importedModules p.main.body) (boot_heap w.params) s.abs.heap && namesBound p s.abs.heap && gensDone s.abs && laidKept (boot_heap w.params) s.abs.heap) = true := z1
    have r4 : ∀ k : Shared → Option Shared, (topRun treeTable p w (boot_heap w.params).objs.size ((boot_heap w.params).nsMap mainGlobals "__annotations__") N ⟨boot_heap w.params, Array.mk [], boot_drawn, boot_toks, os⟩ (topStub p)).bind k = k s.abs := fun k => by rw [r3]; rfl
    refine (r4 _).trans ?_
    rw [z4]
  unfold openEnds
  rw [a]
  show (topFrom treeTable p w N _).map _ = _
  rw [top]
  exact congrArg some (Prod.ext z2 z3)
theorem head_cp {r : OpenRow} {q : Program} {H : Hook} {ob : SharedT → H.α} {M : Nat} {loose : List PySem.Str} {d : DefRec} {kwd : List (PySem.Str × PySem.Expr)} (ho : ∀ s : SharedT, ob s = H.obs s.abs)
    (e : opening r.prog = plainProg r.prog.main.scope.names) (f : ∀ s, fenceModules? r.prog s = some s) (run : ∀ w os, ∃ s, TopEnd r q loose H ob M w os s)
    (hdef : defOf q r.name = some (d, kwd)) (hp : r.prog.theDef r.name = some (d.params, d.body, d.scope)) (hk : kwWritten? d.params.kwonlyargs d.params.kw_defaults = some kwd)
    (hwr : (!r.writes || r.records.isEmpty) = true) (k1 : r.wellSaid = true) (ok : (chainsOk q && opensWell r.prog && (frees r.toRowW && r.within.isEmpty)) = true) (hb : r.prog.bare) (hw : r.toRowW.promised)
    (call : WalkO q loose (XL q []) H.says r.toRowW d kwd fun f vs => PySem.call f vs) : r.Holds := by
  have left : LeftO r.prog q loose (fun s => xlAt q [] s && recOk r.toRowW.records s) H.obs H.val (M + 600) true := by
    refine left_cp (M := M) e (Nat.ble_eq_true_of_le (by omega)) f (Nat.ble_eq_true_of_le (by omega)) fun w os => ?_
    obtain ⟨s, z⟩ := run w os
    refine ⟨s, z.run, z.l1, ?_, (ho s).symm.trans z.l3⟩
    rw [seenQ_eq]
    exact z.l2
  exact holds_open (r := r) (q := q) (loose := loose) (XP := XL q []) (YP := H.says) (d := d) (kwd := kwd) left H.of H.keeps (fun s z => xl_of s (Bool.and_eq_true_iff.mp z).1) XL.keeps hdef hp hk (fun s z => recFacts_of (Bool.and_eq_true_iff.mp z).2) hwr k1 ok hb hw call
end Dl
namespace Dl
open PySem PySem.W L2
/-! words for the states -/
abbrev vi (i : Int) (t : Nat) : Value := .int i t
abbrev vs (x : String) (t : Nat) : Value := .str (Str.ofString x) t
abbrev vr (a : Nat) : Value := .ref a
abbrev vt (x : String) : Value := .type x
abbrev vb (x : String) : Value := .builtin x
abbrev vn : Value := .none
abbrev ob_tu (l : List Value) : Obj := ⟨.type "tuple", none, .seq l.toArray 0, #[]⟩
abbrev ob_co (l : List Value) : Obj := ⟨.type "code", none, .fields l.toArray, #[]⟩
abbrev ob_fi (c : Value) (l : List Value) : Obj := ⟨c, none, .fields l.toArray, #[]⟩
abbrev en (P : Params) (x : String) (t : Nat) (v : Value) : DictEntry := ⟨PyData.keyHash P (Str.ofString x), .str (Str.ofString x) t, v⟩
abbrev ob_di (l : List DictEntry) (n : Nat) : Obj := ⟨.type "dict", none, .dict l.toArray n, #[]⟩
abbrev ob_fu (c : Value) (s : Stmt) (x q : String) (g : Addr) (df kd dc md : Value) (an : Option Addr) (cd ct : Value) : Obj :=
  ⟨c, none, .func { name := Str.ofString x, qualname := Str.ofString q, params := defArgs s, body := .stmts (defBody s), scope := defScope s, globals := g, closure := [], defaults := df, kwdefaults := kd, doc := dc, pyModule := md, annotations := an, code := cd, closureTuple := ct, builtins := 0 }, #[]⟩
abbrev bn (o : Obj) (l r : BT) : BT := .node o l r
abbrev bz : BT := .nil
noncomputable abbrev stA' (T : Params → BT) (n toks : Nat) (w : World) (os : OsState) : SharedT := ⟨T w.params, n, (boot_heap w.params).life, #[], boot_drawn, toks, os⟩
end Dl
set_option Elab.async false
set_option linter.all false
set_option maxRecDepth 100000
/-! l.count(x), l.index(x) over data -/
namespace L2
open PySem PySem.Spec PyProof.Rows
end L2
set_option Elab.async false
set_option linter.all false
set_option maxRecDepth 100000
namespace Dl
open PySem L2 PyProof.Rows
/-! ### looked at as it is now, however deep -/
inductive Al2 (R : D → D → Prop) : List D → List D → Prop
  | nil : Al2 R [] []
  | cons {x d : D} {xs ds : List D} : R x d → Al2 R xs ds → Al2 R (x :: xs) (d :: ds)
theorem Al2.refl {R : D → D → Prop} (h : ∀ x, R x x) : ∀ xs : List D, Al2 R xs xs
  | [] => .nil
  | x :: xs => .cons (h x) (Al2.refl h xs)
theorem Al2.app {R : D → D → Prop} : ∀ {xs ds ys es : List D}, Al2 R xs ds → Al2 R ys es → Al2 R (xs ++ ys) (ds ++ es)
  | _, _, _, _, .nil, h => h
  | _, _, _, _, .cons a b, h => .cons a (b.app h)
/-- to a depth -/
def FzN (μ : Mu) : Nat → D → D → Prop
  | 0, x, d => x = d
  | n + 1, x, d => x = d ∨ (∃ k xs ds, x = .own k ∧ d = .lst ds ∧ μ[k]? = some (.lst xs) ∧ Al2 (FzN μ n) xs ds) ∨ (∃ xs ds, x = .tup xs ∧ d = .tup ds ∧ Al2 (FzN μ n) xs ds) ∨ (∃ xs ds, x = .lst xs ∧ d = .lst ds ∧ Al2 (FzN μ n) xs ds)
theorem FzN.id {μ : Mu} : ∀ {n : Nat} (d : D), FzN μ n d d
  | 0, _ => rfl
  | _ + 1, _ => .inl rfl
theorem al2_dp {K : PySem.W.Frag} {G H : Hp} {al : List Addr} {R : D → D → Prop} (h : ∀ {v : V} {x d : D} {n : Nat}, R x d → d.shp n = true → Rp K G al v x → Dp K H v d.py) : ∀ {vs : List V} {xs ds : List D} {n : Nat}, Al2 R xs ds → shpL ds n = true → Rps K G al vs xs → DpAll K H vs (pyL ds)
  | _, _, _, _, .nil, _, .nil => by unfold pyL; exact .nil
  | _, _, _, n, .cons a b, hs, .cons r t => by
    unfold pyL; unfold shpL at hs; simp at hs
    exact .cons (h a hs.1 r) (al2_dp h b hs.2 t)
theorem FzN.dp {K : PySem.W.Frag} {G H : Hp} {al : List Addr} {μ : Mu} (A : As K G H al μ) : ∀ {q : Nat} {v : V} {x d : D} {n : Nat}, FzN μ q x d → d.shp n = true → Rp K G al v x → Dp K H v d.py
  | 0, _, _, _, _, h, hs, r => by
    cases h
    exact dp_of A.sub hs r
  | q + 1, v, x, d, n, h, hs, r => by
    rcases h with rfl | ⟨k, xs, ds, rfl, rfl, hk, hl⟩ | ⟨xs, ds, rfl, rfl, hl⟩ | ⟨xs, ds, rfl, rfl, hl⟩
    · exact dp_of A.sub hs r
    · obtain ⟨a, ha, ga, ws, hv, rw'⟩ := A.get hk
      cases r with
      | own e =>
        rw [ha] at e; cases e
        unfold D.py; unfold D.shp at hs; simp at hs
        exact .lst (.inl (.inl hv)) (al2_dp (fun a b c => FzN.dp A a b c) hl hs.2 rw')
    · cases r with
      | tup e r =>
        unfold D.py; unfold D.shp at hs; simp at hs
        exact .tup (.inl (.inl (A.sub _ _ e))) (al2_dp (fun a b c => FzN.dp A a b c) hl hs.2 r)
    · cases r with
      | lst e r =>
        unfold D.py; unfold D.shp at hs; simp at hs
        exact .lst (.inl (.inl (A.sub _ _ e))) (al2_dp (fun a b c => FzN.dp A a b c) hl hs.2 r)
end Dl
set_option Elab.async false
set_option linter.all false
set_option maxRecDepth 100000
namespace L2
open PySem
end L2
namespace Dl
open PySem L2 PyProof.Rows
theorem rs_anyS {K : PySem.W.Frag} {μ : Mu} {P : D → Mu → Prop} {z : Str} {lo hi : Option Int} (hz : z.length ≤ 100000) (h : P (.str (cutS z lo hi)) μ) : RS K (rSlA K) (.str z) lo hi μ P := fun G H al v A r Q hQ => by
  cases r
  exact .inr (.inl ⟨z, rfl, Nat.le_trans hz (by decide), hQ.now A (.str _) h⟩)
end Dl
set_option Elab.async false
set_option linter.all false
set_option maxRecDepth 100000
/-! dicts with tuple keys -/
namespace Dl
open PySem PySem.Spec PyProof.Rows L2
/-! ### .. over data -/
/-! ### a dict with tuple keys stands locked while it is walked -/
section
variable {K : PySem.W.Frag} {G G' : Hp} {al al' : List Addr} {a : Addr}
def Un (G G' : Hp) (a : Addr) : Prop := (∃ o kvs, G a = some (.frz o (.dT kvs))) ∧ ∀ b, b ≠ a → G' b = G b
theorem Un.plain (s : Un G G' a) {b : Addr} {o : HO} (h : G b = some o) (n : ∀ o' kvs, o ≠ .frz o' (.dT kvs)) : G' b = some o := by
  obtain ⟨⟨o1, kvs, e⟩, u⟩ := s
  rw [u b fun z => by rw [z, e] at h; cases h; exact n _ _ rfl]
  exact h
end
end Dl
/-! d.get(None), d.pop(k), dict(d): dicts with tuple keys -/
/-! dicts with tuple keys, as data -/
namespace Dl
open PySem L2
section
variable {K : PySem.W.Frag} {G H : Hp} {al : List Addr}
theorem Rps.app {us vs : List V} {ds es : List D} (h : Rps K G al us ds) (h' : Rps K G al vs es) : Rps K G al (us ++ vs) (ds ++ es) := by
  induction ds generalizing us with
  | nil => cases h; exact h'
  | cons d ds ih => cases h with | cons r t => exact .cons r (ih t)
end
end Dl
/-! zip of two lists or two tuples; isinstance(x, (list, tuple)) -/
set_option Elab.async false
set_option linter.all false
set_option maxRecDepth 100000
/-! a tuple of texts that stands in a module -/
set_option Elab.async false
set_option linter.all false
set_option maxRecDepth 100000
/-! dicts with tuple keys: their keys walked -/
namespace Dl
open PySem PySem.Spec PyProof.Rows L2
theorem Al2.len {R : D → D → Prop} : ∀ {xs ds : List D}, Al2 R xs ds → xs.length = ds.length
  | _, _, .nil => rfl
  | _, _, .cons _ t => by simp [t.len]
theorem Al2.get {R : D → D → Prop} : ∀ {xs ds : List D}, Al2 R xs ds → ∀ {i : Nat} {x : D}, xs[i]? = some x → ∃ d, ds[i]? = some d ∧ R x d
  | _, _, .cons a t, 0, x, h => by cases h; exact ⟨_, rfl, a⟩
  | _, _, .cons a t, i + 1, x, h => t.get (by simpa using h)
end Dl
set_option Elab.async false
set_option linter.all false
set_option maxRecDepth 100000
/-! sorted(..) of data -/
namespace L2
open PySem PySem.Spec PyProof.Rows PySem.Calls
end L2
set_option Elab.async false
set_option linter.all false
set_option maxRecDepth 100000
/-! a method called with its two arguments by name, the other way about, in a try's body -/
set_option Elab.async false
set_option linter.all false
set_option maxRecDepth 100000
/-! try: .. with except clauses that keep no name -/
namespace L2
open PySem PySem.Spec PyProof.Rows
inductive HdsM (X : Cx) : List ExceptHandler → List (Value × TS) → Prop
  | nil : HdsM X [] []
  | cons {x : Str} {c : Value} {ts : TS} {b₀ : Stmt} {suite : List Stmt} {np pos' : Pos} {hds : List ExceptHandler} {l : List (Value × TS)} (hc : Names X x c)
      (hsu : ∀ (a : Addr) (pn : List (Addr × Obj)), PSs (X.suite a pn) (b₀ :: suite) ts) (r : HdsM X hds l) :
      HdsM X (.ExceptHandler (some (.Name x np)) none (b₀ :: suite) pos' :: hds) ((c, ts) :: l)
def many3 (l : List (Value × TS)) : List (Value × (Addr → Value → Option Addr → TS)) := l.map fun p => (p.1, fun _ _ _ => p.2)
theorem HdsM.ok {X : Cx} : ∀ {hds : List ExceptHandler} {l : List (Value × TS)}, HdsM X hds l → HdsOk X hds (many3 l)
  | _, _, .nil => .nil
  | _, _, .cons hc hsu r => .cons hc (fun a oe cls d pn _ _ => hsu a ((a, oe) :: pn)) r.ok
end L2
set_option Elab.async false
set_option linter.all false
set_option maxRecDepth 100000
/-! xs.insert(i, y) -/
set_option Elab.async false
set_option linter.all false
set_option maxRecDepth 100000
/-! dicts with tuple keys: sorted(d), d.pop(k) -/
namespace L2
open PySem PySem.Spec PyProof.Rows PySem.Calls
end L2
namespace L2.DX
open PySem PySem.Spec PyProof.Rows L2
end L2.DX
set_option Elab.async false
set_option linter.all false
set_option maxRecDepth 100000
/-! for k in reversed(range(n)) -/
set_option Elab.async false
set_option linter.all false
set_option maxRecDepth 100000
/-! texts: split, int(text), str of both, steps of two -/
namespace L2
open PySem
end L2
set_option Elab.async false
set_option linter.all false
set_option maxRecDepth 100000
/-! [G a for a in xs] told by what the data are of -/
set_option Elab.async false
set_option linter.all false
set_option maxRecDepth 100000
/-! len(x) of a thing whose class has its own __len__ -/
namespace L2
open PySem Builtin
end L2
set_option Elab.async false
set_option linter.all false
set_option maxRecDepth 100000
/-! text * int -/
namespace L2
open PySem PySem.Spec PyProof.Rows
end L2
set_option Elab.async false
set_option linter.all false
set_option maxRecDepth 100000
/-! a dict display that is frozen at once -/
namespace Dl
open PySem L2 PyProof.Rows
section
variable {K : PySem.W.Frag} {B : Bs} {ρ : En} {μ : Mu} {P : D → Mu → Prop}
theorem de_dispF {trs : List (TE × TE)} (h : DPs K B trs ρ (μ ++ [.dK []]) fun ps μ1 => ∃ gs : List (Key × D), ps = gs.map (fun kv => (keyD kv.1, kv.2)) ∧ gs.length ≤ 15 ∧ μ1[μ.length]? = some (.dK []) ∧ P (.dct (mergeKD [] gs)) (μ1.set μ.length .dead)) : DE K B (tDisp trs) ρ μ P := fun σ G H al hB hσ hA Q hQ ad hp => by
  obtain ⟨A1, n1⟩ := hA.own (o := .dK []) (m := .dK []) hp ⟨hA.sub.free hp, [], upd_same, .nil⟩
  refine dps_run h σ _ _ _ (hB.trans n1) (hσ.nx n1) A1 _ fun ps qs μ2 G2 H2 al2 n2 A2 r2 p2 => ?_
  obtain ⟨gs, rfl, hl, hk, p⟩ := p2
  obtain ⟨kvs, rfl, rk⟩ := rpp_keys r2
  obtain ⟨a, ha, ga, kv0, hv, r0⟩ := A2.get hk
  have ea : a = _ := Option.some.inj (ha.symm.trans (n2.p.get (show (al ++ [ad])[μ.length]? = some ad by rw [← hA.len]; simp)))
  subst ea
  cases r0
  obtain ⟨A3, n3⟩ := A2.put (o := .dK (mergeK [] kvs)) (m' := .dK (mergeKD [] gs)) ha hk (by simp) ⟨ga, _, upd_same, rk.merge .nil⟩
  have hlt : μ.length < μ2.length := (List.getElem?_eq_some_iff.mp hk).1
  have hk3 : (μ2.set μ.length (.dK (mergeKD [] gs)))[μ.length]? = some (.dK (mergeKD [] gs)) := List.getElem?_set_self hlt
  obtain ⟨a3, ha3, ga3, kv3, hv3, r3⟩ := A3.get hk3
  obtain ⟨A4, n4⟩ := A3.freeze ha3 hv3 ga3
  have ea3 : a3 = _ := Option.some.inj (ha3.symm.trans (n3.p.get ha))
  subst ea3
  rw [List.set_set] at A4
  exact ⟨hv, kvs, rfl, by rw [rk.length]; exact hl, hQ _ _ _ _ _ _ (((n1.trans n2).trans n3).trans n4) A4 (.dct (.inl upd_same) (r3.mono n4.g n4.p)) p⟩
end
end Dl
set_option Elab.async false
set_option linter.all false
set_option maxRecDepth 100000
namespace Dl
open PySem L2 PyProof.Rows
def topS (i : Nat) : Stmt := PySem.Challenge.pw_readround_k18_feasts_refused.main.body.getD i (.Pass ⟨0, 0, 0, 0⟩)
abbrev R : PySem.W.OpenRow := PySem.W.OpenLaw.row PySem.Challenge.rw_readround_k18_feasts_refused
noncomputable section
open PySem.W PySem.Calls HandSHeadRun
noncomputable def env0 : Env := { scope := R.prog.main.scope, locals := mainNs, globals := mainNs, cells := [], code := (vr 13), frame := some 14 }
def o11 : Obj := ob_tu []
def o12 : Obj := ob_fi vn []
def o13 : Obj := ob_co [(vs "<module>" 182), (vs "<module>" 183), (vs "/claim/cut.py" 184), (vi 1 0), (vi 0 0), (vi 0 0), (vi 0 0), (vi 0 0), (vr 11), (.bool false), (vi 181 0), (vr 12), vn, vn, vn, vn, (vi 185 0), (vi 1 0), (vs "/claim/cut.py" 186)]
def o14 : Obj := ⟨(vt "frame"), none, .plain, #[some (vr 13), some (vr 3), some (vr 3), none, some (vs "__main__" 164), none, some (vr 0)]⟩
def o3 (P : Params) : Obj := ob_di [en P "__name__" 165 (vs "readround.errors" 194), en P "__doc__" 166 vn, en P "__package__" 167 vn, en P "__loader__" 168 (vb "__main__.__loader__#opaque"), en P "__spec__" 169 vn, en P "__annotations__" 170 (vr 6), en P "__builtins__" 171 (vr 4), en P "__file__" 173 (vs "/claim/cut.py" 172), en P "__cached__" 174 vn, en P "_wall" 193 (vr 21), en P "ReadError" 213 (vr 31), en P "BadBook" 229 (vr 44), en P "BadCalendar" 245 (vr 56), en P "BadFeast" 261 (vr 68), en P "BadRow" 277 (vr 80), en P "BadHouse" 293 (vr 92), en P "BadNumber" 309 (vr 104)] 17
def o12_1 : Obj := ob_fi vn [(vi 1 0), (vi 0 0), (vr 20), (vi 5 0), (vi 0 0), (vr 27), (vi 7 0), (vi 0 0), (vr 40), (vi 9 0), (vi 0 0), (vr 52), (vi 11 0), (vi 0 0), (vr 64), (vi 13 0), (vi 0 0), (vr 76), (vi 15 0), (vi 0 0), (vr 88), (vi 17 0), (vi 0 0), (vr 100)]
def o15 : Obj := ob_tu []
def o16 : Obj := ob_fi vn []
def o17 : Obj := ob_tu [(vs "k" 190)]
def o18 : Obj := ob_tu []
def o19 : Obj := ob_fu vn (topS 0) "_wall" "_wall" 0 vn vn vn vn none vn vn
def o20 : Obj := ob_co [(vs "_wall" 187), (vs "_wall" 188), (vs "/claim/cut.py" 189), (vi 1 0), (vi 1 0), (vi 0 0), (vi 0 0), (vi 3 0), (vr 15), (.bool true), (vi 181 0), (vr 16), vn, (vr 17), (vr 18), (vr 19), (vi 191 0), (vi 1 0), (vs "/claim/cut.py" 192)]
def o21 : Obj := ob_fu (vt "function") (topS 0) "_wall" "_wall" 3 vn vn vn (vs "__main__" 164) none (vr 20) vn
def o22 : Obj := ob_tu [(vt "ValueError")]
def o23 : Obj := ob_fi (vt "builtin_function_or_method") [(vb "type.__prepare__"), (vt "type")]
def o24 (P : Params) : Obj := ob_di [en P "__module__" 203 (vs "readround.errors" 194), en P "__qualname__" 205 (vs "ReadError" 204), en P "__firstlineno__" 207 (vi 5 206), en P "__static_attributes__" 208 (vr 29)] 4
def o25 : Obj := ob_tu []
def o26 : Obj := ob_fi vn []
def o27 : Obj := ob_co [(vs "ReadError" 198), (vs "ReadError" 199), (vs "/claim/cut.py" 200), (vi 5 0), (vi 0 0), (vi 0 0), (vi 0 0), (vi 0 0), (vr 25), (.bool false), (vi 181 0), (vr 26), vn, vn, vn, vn, (vi 201 0), (vi 5 0), (vs "/claim/cut.py" 202)]
def o28 : Obj := ⟨(vt "frame"), none, .plain, #[some (vr 27), some (vr 3), some (vr 24), none, some (vs "readround.errors" 194), none, some (vr 0)]⟩
def o29 : Obj := ob_tu []
def o30 (P : Params) : Obj := ob_di [en P "__module__" 203 (vs "readround.errors" 194), en P "__firstlineno__" 207 (vi 5 206), en P "__static_attributes__" 208 (vr 29), en P "__weakref__" 210 (vr 32), en P "__doc__" 211 vn] 3
def o31 : Obj := ⟨(vt "type"), none, .cls (ClassData.mk (Str.ofString "ReadError") [(vt "ValueError")] [(vr 31), (vt "ValueError"), (vt "Exception"), (vt "BaseException"), (vt "object")] 30 (Str.ofString "ReadError") true [] [(vr 44), (vr 56), (vr 68), (vr 80), (vr 92), (vr 104)] false none false), #[some (vr 22), none, some (vs "ReadError" 196), some (vs "ReadError" 204), some (vb "ValueError.__new__"), some (.bool true)]⟩
def o32 : Obj := ob_fi (vt "getset_descriptor") [(vs "__weakref__" 209), (vr 31), (vb "ExceptionGroup.__weakref__"), vn]
def o33 : Obj := ob_fi (vt "super") [(vr 31), (vr 31), (vr 31)]
def o34 : Obj := ob_fi (vt "builtin_function_or_method") [(vb "object.__init_subclass__"), (vr 31)]
def o35 : Obj := ob_tu [(vr 31)]
def o36 : Obj := ob_fi (vt "builtin_function_or_method") [(vb "type.__prepare__"), (vt "type")]
def o37 (P : Params) : Obj := ob_di [en P "__module__" 221 (vs "readround.errors" 194), en P "__qualname__" 223 (vs "BadBook" 222), en P "__firstlineno__" 225 (vi 7 224), en P "__static_attributes__" 226 (vr 42)] 4
def o38 : Obj := ob_tu []
def o39 : Obj := ob_fi vn []
def o40 : Obj := ob_co [(vs "BadBook" 216), (vs "BadBook" 217), (vs "/claim/cut.py" 218), (vi 7 0), (vi 0 0), (vi 0 0), (vi 0 0), (vi 0 0), (vr 38), (.bool false), (vi 181 0), (vr 39), vn, vn, vn, vn, (vi 219 0), (vi 7 0), (vs "/claim/cut.py" 220)]
def o41 : Obj := ⟨(vt "frame"), none, .plain, #[some (vr 40), some (vr 3), some (vr 37), none, some (vs "readround.errors" 194), none, some (vr 0)]⟩
def o42 : Obj := ob_tu []
def o43 (P : Params) : Obj := ob_di [en P "__module__" 221 (vs "readround.errors" 194), en P "__firstlineno__" 225 (vi 7 224), en P "__static_attributes__" 226 (vr 42), en P "__doc__" 227 vn] 2
def o44 : Obj := ⟨(vt "type"), none, .cls (ClassData.mk (Str.ofString "BadBook") [(vr 31)] [(vr 44), (vr 31), (vt "ValueError"), (vt "Exception"), (vt "BaseException"), (vt "object")] 43 (Str.ofString "BadBook") true [] [] false none false), #[some (vr 35), none, some (vs "BadBook" 214), some (vs "BadBook" 222), some (vb "ValueError.__new__"), some (.bool true)]⟩
def o45 : Obj := ob_fi (vt "super") [(vr 44), (vr 44), (vr 44)]
def o46 : Obj := ob_fi (vt "builtin_function_or_method") [(vb "object.__init_subclass__"), (vr 44)]
def o47 : Obj := ob_tu [(vr 31)]
def o48 : Obj := ob_fi (vt "builtin_function_or_method") [(vb "type.__prepare__"), (vt "type")]
def o49 (P : Params) : Obj := ob_di [en P "__module__" 237 (vs "readround.errors" 194), en P "__qualname__" 239 (vs "BadCalendar" 238), en P "__firstlineno__" 241 (vi 9 240), en P "__static_attributes__" 242 (vr 54)] 4
def o50 : Obj := ob_tu []
def o51 : Obj := ob_fi vn []
def o52 : Obj := ob_co [(vs "BadCalendar" 232), (vs "BadCalendar" 233), (vs "/claim/cut.py" 234), (vi 9 0), (vi 0 0), (vi 0 0), (vi 0 0), (vi 0 0), (vr 50), (.bool false), (vi 181 0), (vr 51), vn, vn, vn, vn, (vi 235 0), (vi 9 0), (vs "/claim/cut.py" 236)]
def o53 : Obj := ⟨(vt "frame"), none, .plain, #[some (vr 52), some (vr 3), some (vr 49), none, some (vs "readround.errors" 194), none, some (vr 0)]⟩
def o54 : Obj := ob_tu []
def o55 (P : Params) : Obj := ob_di [en P "__module__" 237 (vs "readround.errors" 194), en P "__firstlineno__" 241 (vi 9 240), en P "__static_attributes__" 242 (vr 54), en P "__doc__" 243 vn] 2
def o56 : Obj := ⟨(vt "type"), none, .cls (ClassData.mk (Str.ofString "BadCalendar") [(vr 31)] [(vr 56), (vr 31), (vt "ValueError"), (vt "Exception"), (vt "BaseException"), (vt "object")] 55 (Str.ofString "BadCalendar") true [] [] false none false), #[some (vr 47), none, some (vs "BadCalendar" 230), some (vs "BadCalendar" 238), some (vb "ValueError.__new__"), some (.bool true)]⟩
def o57 : Obj := ob_fi (vt "super") [(vr 56), (vr 56), (vr 56)]
def o58 : Obj := ob_fi (vt "builtin_function_or_method") [(vb "object.__init_subclass__"), (vr 56)]
def o59 : Obj := ob_tu [(vr 31)]
def o60 : Obj := ob_fi (vt "builtin_function_or_method") [(vb "type.__prepare__"), (vt "type")]
def o61 (P : Params) : Obj := ob_di [en P "__module__" 253 (vs "readround.errors" 194), en P "__qualname__" 255 (vs "BadFeast" 254), en P "__firstlineno__" 257 (vi 11 256), en P "__static_attributes__" 258 (vr 66)] 4
def o62 : Obj := ob_tu []
def o63 : Obj := ob_fi vn []
def o64 : Obj := ob_co [(vs "BadFeast" 248), (vs "BadFeast" 249), (vs "/claim/cut.py" 250), (vi 11 0), (vi 0 0), (vi 0 0), (vi 0 0), (vi 0 0), (vr 62), (.bool false), (vi 181 0), (vr 63), vn, vn, vn, vn, (vi 251 0), (vi 11 0), (vs "/claim/cut.py" 252)]
def o65 : Obj := ⟨(vt "frame"), none, .plain, #[some (vr 64), some (vr 3), some (vr 61), none, some (vs "readround.errors" 194), none, some (vr 0)]⟩
def o66 : Obj := ob_tu []
def o67 (P : Params) : Obj := ob_di [en P "__module__" 253 (vs "readround.errors" 194), en P "__firstlineno__" 257 (vi 11 256), en P "__static_attributes__" 258 (vr 66), en P "__doc__" 259 vn] 2
def o68 : Obj := ⟨(vt "type"), none, .cls (ClassData.mk (Str.ofString "BadFeast") [(vr 31)] [(vr 68), (vr 31), (vt "ValueError"), (vt "Exception"), (vt "BaseException"), (vt "object")] 67 (Str.ofString "BadFeast") true [] [] false none false), #[some (vr 59), none, some (vs "BadFeast" 246), some (vs "BadFeast" 254), some (vb "ValueError.__new__"), some (.bool true)]⟩
def o69 : Obj := ob_fi (vt "super") [(vr 68), (vr 68), (vr 68)]
def o70 : Obj := ob_fi (vt "builtin_function_or_method") [(vb "object.__init_subclass__"), (vr 68)]
def o71 : Obj := ob_tu [(vr 31)]
def o72 : Obj := ob_fi (vt "builtin_function_or_method") [(vb "type.__prepare__"), (vt "type")]
def o73 (P : Params) : Obj := ob_di [en P "__module__" 269 (vs "readround.errors" 194), en P "__qualname__" 271 (vs "BadRow" 270), en P "__firstlineno__" 273 (vi 13 272), en P "__static_attributes__" 274 (vr 78)] 4
def o74 : Obj := ob_tu []
def o75 : Obj := ob_fi vn []
def o76 : Obj := ob_co [(vs "BadRow" 264), (vs "BadRow" 265), (vs "/claim/cut.py" 266), (vi 13 0), (vi 0 0), (vi 0 0), (vi 0 0), (vi 0 0), (vr 74), (.bool false), (vi 181 0), (vr 75), vn, vn, vn, vn, (vi 267 0), (vi 13 0), (vs "/claim/cut.py" 268)]
def o77 : Obj := ⟨(vt "frame"), none, .plain, #[some (vr 76), some (vr 3), some (vr 73), none, some (vs "readround.errors" 194), none, some (vr 0)]⟩
def o78 : Obj := ob_tu []
def o79 (P : Params) : Obj := ob_di [en P "__module__" 269 (vs "readround.errors" 194), en P "__firstlineno__" 273 (vi 13 272), en P "__static_attributes__" 274 (vr 78), en P "__doc__" 275 vn] 2
def o80 : Obj := ⟨(vt "type"), none, .cls (ClassData.mk (Str.ofString "BadRow") [(vr 31)] [(vr 80), (vr 31), (vt "ValueError"), (vt "Exception"), (vt "BaseException"), (vt "object")] 79 (Str.ofString "BadRow") true [] [] false none false), #[some (vr 71), none, some (vs "BadRow" 262), some (vs "BadRow" 270), some (vb "ValueError.__new__"), some (.bool true)]⟩
def o81 : Obj := ob_fi (vt "super") [(vr 80), (vr 80), (vr 80)]
def o82 : Obj := ob_fi (vt "builtin_function_or_method") [(vb "object.__init_subclass__"), (vr 80)]
def o83 : Obj := ob_tu [(vr 31)]
def o84 : Obj := ob_fi (vt "builtin_function_or_method") [(vb "type.__prepare__"), (vt "type")]
def o85 (P : Params) : Obj := ob_di [en P "__module__" 285 (vs "readround.errors" 194), en P "__qualname__" 287 (vs "BadHouse" 286), en P "__firstlineno__" 289 (vi 15 288), en P "__static_attributes__" 290 (vr 90)] 4
def o86 : Obj := ob_tu []
def o87 : Obj := ob_fi vn []
def o88 : Obj := ob_co [(vs "BadHouse" 280), (vs "BadHouse" 281), (vs "/claim/cut.py" 282), (vi 15 0), (vi 0 0), (vi 0 0), (vi 0 0), (vi 0 0), (vr 86), (.bool false), (vi 181 0), (vr 87), vn, vn, vn, vn, (vi 283 0), (vi 15 0), (vs "/claim/cut.py" 284)]
def o89 : Obj := ⟨(vt "frame"), none, .plain, #[some (vr 88), some (vr 3), some (vr 85), none, some (vs "readround.errors" 194), none, some (vr 0)]⟩
def o90 : Obj := ob_tu []
def o91 (P : Params) : Obj := ob_di [en P "__module__" 285 (vs "readround.errors" 194), en P "__firstlineno__" 289 (vi 15 288), en P "__static_attributes__" 290 (vr 90), en P "__doc__" 291 vn] 2
def o92 : Obj := ⟨(vt "type"), none, .cls (ClassData.mk (Str.ofString "BadHouse") [(vr 31)] [(vr 92), (vr 31), (vt "ValueError"), (vt "Exception"), (vt "BaseException"), (vt "object")] 91 (Str.ofString "BadHouse") true [] [] false none false), #[some (vr 83), none, some (vs "BadHouse" 278), some (vs "BadHouse" 286), some (vb "ValueError.__new__"), some (.bool true)]⟩
def o93 : Obj := ob_fi (vt "super") [(vr 92), (vr 92), (vr 92)]
def o94 : Obj := ob_fi (vt "builtin_function_or_method") [(vb "object.__init_subclass__"), (vr 92)]
def o95 : Obj := ob_tu [(vr 31)]
def o96 : Obj := ob_fi (vt "builtin_function_or_method") [(vb "type.__prepare__"), (vt "type")]
def o97 (P : Params) : Obj := ob_di [en P "__module__" 301 (vs "readround.errors" 194), en P "__qualname__" 303 (vs "BadNumber" 302), en P "__firstlineno__" 305 (vi 17 304), en P "__static_attributes__" 306 (vr 102)] 4
def o98 : Obj := ob_tu []
def o99 : Obj := ob_fi vn []
def o100 : Obj := ob_co [(vs "BadNumber" 296), (vs "BadNumber" 297), (vs "/claim/cut.py" 298), (vi 17 0), (vi 0 0), (vi 0 0), (vi 0 0), (vi 0 0), (vr 98), (.bool false), (vi 181 0), (vr 99), vn, vn, vn, vn, (vi 299 0), (vi 17 0), (vs "/claim/cut.py" 300)]
def o101 : Obj := ⟨(vt "frame"), none, .plain, #[some (vr 100), some (vr 3), some (vr 97), none, some (vs "readround.errors" 194), none, some (vr 0)]⟩
def o102 : Obj := ob_tu []
def o103 (P : Params) : Obj := ob_di [en P "__module__" 301 (vs "readround.errors" 194), en P "__firstlineno__" 305 (vi 17 304), en P "__static_attributes__" 306 (vr 102), en P "__doc__" 307 vn] 2
def o104 : Obj := ⟨(vt "type"), none, .cls (ClassData.mk (Str.ofString "BadNumber") [(vr 31)] [(vr 104), (vr 31), (vt "ValueError"), (vt "Exception"), (vt "BaseException"), (vt "object")] 103 (Str.ofString "BadNumber") true [] [] false none false), #[some (vr 95), none, some (vs "BadNumber" 294), some (vs "BadNumber" 302), some (vb "ValueError.__new__"), some (.bool true)]⟩
def o105 : Obj := ob_fi (vt "super") [(vr 104), (vr 104), (vr 104)]
def o106 : Obj := ob_fi (vt "builtin_function_or_method") [(vb "object.__init_subclass__"), (vr 104)]
def o3_1 (P : Params) : Obj := ob_di [en P "__name__" 165 (vs "readround.errors" 194), en P "__doc__" 166 vn, en P "__package__" 167 vn, en P "__loader__" 168 (vb "__main__.__loader__#opaque"), en P "__spec__" 169 vn, en P "__annotations__" 170 (vr 6), en P "__builtins__" 171 (vr 4), en P "__file__" 173 (vs "/claim/cut.py" 172), en P "__cached__" 174 vn, en P "_wall" 193 (vr 21), en P "ReadError" 213 (vr 31), en P "BadBook" 229 (vr 44), en P "BadCalendar" 245 (vr 56), en P "BadFeast" 261 (vr 68), en P "BadRow" 277 (vr 80), en P "BadHouse" 293 (vr 92), en P "BadNumber" 309 (vr 104), en P "NoDay" 325 (vr 116), en P "NoRow" 341 (vr 128), en P "NoPiece" 357 (vr 140), en P "TooTight" 382 (vr 159), en P "NeverDone" 411 (vr 178), en P "TooFar" 427 (vr 190), en P "NoDeed" 443 (vr 202)] 24
def o12_2 : Obj := ob_fi vn [(vi 1 0), (vi 0 0), (vr 20), (vi 5 0), (vi 0 0), (vr 27), (vi 7 0), (vi 0 0), (vr 40), (vi 9 0), (vi 0 0), (vr 52), (vi 11 0), (vi 0 0), (vr 64), (vi 13 0), (vi 0 0), (vr 76), (vi 15 0), (vi 0 0), (vr 88), (vi 17 0), (vi 0 0), (vr 100), (vi 19 0), (vi 0 0), (vr 112), (vi 21 0), (vi 0 0), (vr 124), (vi 23 0), (vi 0 0), (vr 136), (vi 25 0), (vi 0 0), (vr 148), (vi 30 0), (vi 0 0), (vr 167), (vi 37 0), (vi 0 0), (vr 186), (vi 39 0), (vi 0 0), (vr 198)]
def o31_1 : Obj := ⟨(vt "type"), none, .cls (ClassData.mk (Str.ofString "ReadError") [(vt "ValueError")] [(vr 31), (vt "ValueError"), (vt "Exception"), (vt "BaseException"), (vt "object")] 30 (Str.ofString "ReadError") true [] [(vr 44), (vr 56), (vr 68), (vr 80), (vr 92), (vr 104), (vr 116), (vr 128), (vr 140), (vr 159), (vr 178), (vr 190), (vr 202)] false none false), #[some (vr 22), none, some (vs "ReadError" 196), some (vs "ReadError" 204), some (vb "ValueError.__new__"), some (.bool true)]⟩
def o107 : Obj := ob_tu [(vr 31)]
def o108 : Obj := ob_fi (vt "builtin_function_or_method") [(vb "type.__prepare__"), (vt "type")]
def o109 (P : Params) : Obj := ob_di [en P "__module__" 317 (vs "readround.errors" 194), en P "__qualname__" 319 (vs "NoDay" 318), en P "__firstlineno__" 321 (vi 19 320), en P "__static_attributes__" 322 (vr 114)] 4
def o110 : Obj := ob_tu []
def o111 : Obj := ob_fi vn []
def o112 : Obj := ob_co [(vs "NoDay" 312), (vs "NoDay" 313), (vs "/claim/cut.py" 314), (vi 19 0), (vi 0 0), (vi 0 0), (vi 0 0), (vi 0 0), (vr 110), (.bool false), (vi 181 0), (vr 111), vn, vn, vn, vn, (vi 315 0), (vi 19 0), (vs "/claim/cut.py" 316)]
def o113 : Obj := ⟨(vt "frame"), none, .plain, #[some (vr 112), some (vr 3), some (vr 109), none, some (vs "readround.errors" 194), none, some (vr 0)]⟩
def o114 : Obj := ob_tu []
def o115 (P : Params) : Obj := ob_di [en P "__module__" 317 (vs "readround.errors" 194), en P "__firstlineno__" 321 (vi 19 320), en P "__static_attributes__" 322 (vr 114), en P "__doc__" 323 vn] 2
def o116 : Obj := ⟨(vt "type"), none, .cls (ClassData.mk (Str.ofString "NoDay") [(vr 31)] [(vr 116), (vr 31), (vt "ValueError"), (vt "Exception"), (vt "BaseException"), (vt "object")] 115 (Str.ofString "NoDay") true [] [] false none false), #[some (vr 107), none, some (vs "NoDay" 310), some (vs "NoDay" 318), some (vb "ValueError.__new__"), some (.bool true)]⟩
def o117 : Obj := ob_fi (vt "super") [(vr 116), (vr 116), (vr 116)]
def o118 : Obj := ob_fi (vt "builtin_function_or_method") [(vb "object.__init_subclass__"), (vr 116)]
def o119 : Obj := ob_tu [(vr 31)]
def o120 : Obj := ob_fi (vt "builtin_function_or_method") [(vb "type.__prepare__"), (vt "type")]
def o121 (P : Params) : Obj := ob_di [en P "__module__" 333 (vs "readround.errors" 194), en P "__qualname__" 335 (vs "NoRow" 334), en P "__firstlineno__" 337 (vi 21 336), en P "__static_attributes__" 338 (vr 126)] 4
def o122 : Obj := ob_tu []
def o123 : Obj := ob_fi vn []
def o124 : Obj := ob_co [(vs "NoRow" 328), (vs "NoRow" 329), (vs "/claim/cut.py" 330), (vi 21 0), (vi 0 0), (vi 0 0), (vi 0 0), (vi 0 0), (vr 122), (.bool false), (vi 181 0), (vr 123), vn, vn, vn, vn, (vi 331 0), (vi 21 0), (vs "/claim/cut.py" 332)]
def o125 : Obj := ⟨(vt "frame"), none, .plain, #[some (vr 124), some (vr 3), some (vr 121), none, some (vs "readround.errors" 194), none, some (vr 0)]⟩
def o126 : Obj := ob_tu []
def o127 (P : Params) : Obj := ob_di [en P "__module__" 333 (vs "readround.errors" 194), en P "__firstlineno__" 337 (vi 21 336), en P "__static_attributes__" 338 (vr 126), en P "__doc__" 339 vn] 2
def o128 : Obj := ⟨(vt "type"), none, .cls (ClassData.mk (Str.ofString "NoRow") [(vr 31)] [(vr 128), (vr 31), (vt "ValueError"), (vt "Exception"), (vt "BaseException"), (vt "object")] 127 (Str.ofString "NoRow") true [] [] false none false), #[some (vr 119), none, some (vs "NoRow" 326), some (vs "NoRow" 334), some (vb "ValueError.__new__"), some (.bool true)]⟩
def o129 : Obj := ob_fi (vt "super") [(vr 128), (vr 128), (vr 128)]
def o130 : Obj := ob_fi (vt "builtin_function_or_method") [(vb "object.__init_subclass__"), (vr 128)]
def o131 : Obj := ob_tu [(vr 31)]
def o132 : Obj := ob_fi (vt "builtin_function_or_method") [(vb "type.__prepare__"), (vt "type")]
def o133 (P : Params) : Obj := ob_di [en P "__module__" 349 (vs "readround.errors" 194), en P "__qualname__" 351 (vs "NoPiece" 350), en P "__firstlineno__" 353 (vi 23 352), en P "__static_attributes__" 354 (vr 138)] 4
def o134 : Obj := ob_tu []
def o135 : Obj := ob_fi vn []
def o136 : Obj := ob_co [(vs "NoPiece" 344), (vs "NoPiece" 345), (vs "/claim/cut.py" 346), (vi 23 0), (vi 0 0), (vi 0 0), (vi 0 0), (vi 0 0), (vr 134), (.bool false), (vi 181 0), (vr 135), vn, vn, vn, vn, (vi 347 0), (vi 23 0), (vs "/claim/cut.py" 348)]
def o137 : Obj := ⟨(vt "frame"), none, .plain, #[some (vr 136), some (vr 3), some (vr 133), none, some (vs "readround.errors" 194), none, some (vr 0)]⟩
def o138 : Obj := ob_tu []
def o139 (P : Params) : Obj := ob_di [en P "__module__" 349 (vs "readround.errors" 194), en P "__firstlineno__" 353 (vi 23 352), en P "__static_attributes__" 354 (vr 138), en P "__doc__" 355 vn] 2
def o140 : Obj := ⟨(vt "type"), none, .cls (ClassData.mk (Str.ofString "NoPiece") [(vr 31)] [(vr 140), (vr 31), (vt "ValueError"), (vt "Exception"), (vt "BaseException"), (vt "object")] 139 (Str.ofString "NoPiece") true [] [] false none false), #[some (vr 131), none, some (vs "NoPiece" 342), some (vs "NoPiece" 350), some (vb "ValueError.__new__"), some (.bool true)]⟩
def o141 : Obj := ob_fi (vt "super") [(vr 140), (vr 140), (vr 140)]
def o142 : Obj := ob_fi (vt "builtin_function_or_method") [(vb "object.__init_subclass__"), (vr 140)]
def o143 : Obj := ob_tu [(vr 31)]
def o144 : Obj := ob_fi (vt "builtin_function_or_method") [(vb "type.__prepare__"), (vt "type")]
def o145 (P : Params) : Obj := ob_di [en P "__module__" 365 (vs "readround.errors" 194), en P "__qualname__" 367 (vs "TooTight" 366), en P "__firstlineno__" 369 (vi 25 368), en P "__init__" 377 (vr 156), en P "__static_attributes__" 379 (vr 157)] 5
def o146 : Obj := ob_tu []
def o147 : Obj := ob_fi vn [(vi 27 0), (vi 4 0), (vr 155)]
def o148 : Obj := ob_co [(vs "TooTight" 360), (vs "TooTight" 361), (vs "/claim/cut.py" 362), (vi 25 0), (vi 0 0), (vi 0 0), (vi 0 0), (vi 0 0), (vr 146), (.bool false), (vi 181 0), (vr 147), vn, vn, vn, vn, (vi 363 0), (vi 25 0), (vs "/claim/cut.py" 364)]
def o149 : Obj := ⟨(vt "frame"), none, .plain, #[some (vr 148), some (vr 3), some (vr 145), none, some (vs "readround.errors" 194), none, some (vr 0)]⟩
def o150 : Obj := ob_tu []
def o151 : Obj := ob_fi vn []
def o152 : Obj := ob_tu [(vs "self" 373), (vs "block" 374)]
def o153 : Obj := ob_tu []
def o154 : Obj := ob_fu vn (inClass (topS 12) 0) "__init__" "TooTight.__init__" 0 vn vn vn vn none vn vn
def o155 : Obj := ob_co [(vs "__init__" 370), (vs "TooTight.__init__" 371), (vs "/claim/cut.py" 372), (vi 27 0), (vi 2 0), (vi 0 0), (vi 0 0), (vi 3 0), (vr 150), (.bool true), (vi 181 0), (vr 151), vn, (vr 152), (vr 153), (vr 154), (vi 375 0), (vi 27 0), (vs "/claim/cut.py" 376)]
def o156 : Obj := ob_fu (vt "function") (inClass (topS 12) 0) "__init__" "TooTight.__init__" 3 vn vn vn (vs "readround.errors" 194) none (vr 155) vn
def o157 : Obj := ob_tu [(vs "block" 378)]
def o158 (P : Params) : Obj := ob_di [en P "__module__" 365 (vs "readround.errors" 194), en P "__firstlineno__" 369 (vi 25 368), en P "__init__" 377 (vr 156), en P "__static_attributes__" 379 (vr 157), en P "__doc__" 380 vn] 2
def o159 : Obj := ⟨(vt "type"), none, .cls (ClassData.mk (Str.ofString "TooTight") [(vr 31)] [(vr 159), (vr 31), (vt "ValueError"), (vt "Exception"), (vt "BaseException"), (vt "object")] 158 (Str.ofString "TooTight") true [] [] false none false), #[some (vr 143), none, some (vs "TooTight" 358), some (vs "TooTight" 366), some (vb "ValueError.__new__"), some (.bool true)]⟩
def o160 : Obj := ob_fi (vt "super") [(vr 159), (vr 159), (vr 159)]
def o161 : Obj := ob_fi (vt "builtin_function_or_method") [(vb "object.__init_subclass__"), (vr 159)]
def o162 : Obj := ob_tu [(vr 31)]
def o163 : Obj := ob_fi (vt "builtin_function_or_method") [(vb "type.__prepare__"), (vt "type")]
def o164 (P : Params) : Obj := ob_di [en P "__module__" 390 (vs "readround.errors" 194), en P "__qualname__" 392 (vs "NeverDone" 391), en P "__firstlineno__" 394 (vi 30 393), en P "__init__" 404 (vr 175), en P "__static_attributes__" 408 (vr 176)] 5
def o165 : Obj := ob_tu []
def o166 : Obj := ob_fi vn [(vi 32 0), (vi 4 0), (vr 174)]
def o167 : Obj := ob_co [(vs "NeverDone" 385), (vs "NeverDone" 386), (vs "/claim/cut.py" 387), (vi 30 0), (vi 0 0), (vi 0 0), (vi 0 0), (vi 0 0), (vr 165), (.bool false), (vi 181 0), (vr 166), vn, vn, vn, vn, (vi 388 0), (vi 30 0), (vs "/claim/cut.py" 389)]
def o168 : Obj := ⟨(vt "frame"), none, .plain, #[some (vr 167), some (vr 3), some (vr 164), none, some (vs "readround.errors" 194), none, some (vr 0)]⟩
def o169 : Obj := ob_tu []
def o170 : Obj := ob_fi vn []
def o171 : Obj := ob_tu [(vs "self" 398), (vs "name" 399), (vs "due" 400), (vs "room" 401)]
def o172 : Obj := ob_tu []
def o173 : Obj := ob_fu vn (inClass (topS 13) 0) "__init__" "NeverDone.__init__" 0 vn vn vn vn none vn vn
def o174 : Obj := ob_co [(vs "__init__" 395), (vs "NeverDone.__init__" 396), (vs "/claim/cut.py" 397), (vi 32 0), (vi 4 0), (vi 0 0), (vi 0 0), (vi 3 0), (vr 169), (.bool true), (vi 181 0), (vr 170), vn, (vr 171), (vr 172), (vr 173), (vi 402 0), (vi 32 0), (vs "/claim/cut.py" 403)]
def o175 : Obj := ob_fu (vt "function") (inClass (topS 13) 0) "__init__" "NeverDone.__init__" 3 vn vn vn (vs "readround.errors" 194) none (vr 174) vn
def o176 : Obj := ob_tu [(vs "due" 405), (vs "name" 406), (vs "room" 407)]
def o177 (P : Params) : Obj := ob_di [en P "__module__" 390 (vs "readround.errors" 194), en P "__firstlineno__" 394 (vi 30 393), en P "__init__" 404 (vr 175), en P "__static_attributes__" 408 (vr 176), en P "__doc__" 409 vn] 2
def o178 : Obj := ⟨(vt "type"), none, .cls (ClassData.mk (Str.ofString "NeverDone") [(vr 31)] [(vr 178), (vr 31), (vt "ValueError"), (vt "Exception"), (vt "BaseException"), (vt "object")] 177 (Str.ofString "NeverDone") true [] [] false none false), #[some (vr 162), none, some (vs "NeverDone" 383), some (vs "NeverDone" 391), some (vb "ValueError.__new__"), some (.bool true)]⟩
def o179 : Obj := ob_fi (vt "super") [(vr 178), (vr 178), (vr 178)]
def o180 : Obj := ob_fi (vt "builtin_function_or_method") [(vb "object.__init_subclass__"), (vr 178)]
def o181 : Obj := ob_tu [(vr 31)]
def o182 : Obj := ob_fi (vt "builtin_function_or_method") [(vb "type.__prepare__"), (vt "type")]
def o183 (P : Params) : Obj := ob_di [en P "__module__" 419 (vs "readround.errors" 194), en P "__qualname__" 421 (vs "TooFar" 420), en P "__firstlineno__" 423 (vi 37 422), en P "__static_attributes__" 424 (vr 188)] 4
def o184 : Obj := ob_tu []
def o185 : Obj := ob_fi vn []
def o186 : Obj := ob_co [(vs "TooFar" 414), (vs "TooFar" 415), (vs "/claim/cut.py" 416), (vi 37 0), (vi 0 0), (vi 0 0), (vi 0 0), (vi 0 0), (vr 184), (.bool false), (vi 181 0), (vr 185), vn, vn, vn, vn, (vi 417 0), (vi 37 0), (vs "/claim/cut.py" 418)]
def o187 : Obj := ⟨(vt "frame"), none, .plain, #[some (vr 186), some (vr 3), some (vr 183), none, some (vs "readround.errors" 194), none, some (vr 0)]⟩
def o188 : Obj := ob_tu []
def o189 (P : Params) : Obj := ob_di [en P "__module__" 419 (vs "readround.errors" 194), en P "__firstlineno__" 423 (vi 37 422), en P "__static_attributes__" 424 (vr 188), en P "__doc__" 425 vn] 2
def o190 : Obj := ⟨(vt "type"), none, .cls (ClassData.mk (Str.ofString "TooFar") [(vr 31)] [(vr 190), (vr 31), (vt "ValueError"), (vt "Exception"), (vt "BaseException"), (vt "object")] 189 (Str.ofString "TooFar") true [] [] false none false), #[some (vr 181), none, some (vs "TooFar" 412), some (vs "TooFar" 420), some (vb "ValueError.__new__"), some (.bool true)]⟩
def o191 : Obj := ob_fi (vt "super") [(vr 190), (vr 190), (vr 190)]
def o192 : Obj := ob_fi (vt "builtin_function_or_method") [(vb "object.__init_subclass__"), (vr 190)]
def o193 : Obj := ob_tu [(vr 31)]
def o194 : Obj := ob_fi (vt "builtin_function_or_method") [(vb "type.__prepare__"), (vt "type")]
def o195 (P : Params) : Obj := ob_di [en P "__module__" 435 (vs "readround.errors" 194), en P "__qualname__" 437 (vs "NoDeed" 436), en P "__firstlineno__" 439 (vi 39 438), en P "__static_attributes__" 440 (vr 200)] 4
def o196 : Obj := ob_tu []
def o197 : Obj := ob_fi vn []
def o198 : Obj := ob_co [(vs "NoDeed" 430), (vs "NoDeed" 431), (vs "/claim/cut.py" 432), (vi 39 0), (vi 0 0), (vi 0 0), (vi 0 0), (vi 0 0), (vr 196), (.bool false), (vi 181 0), (vr 197), vn, vn, vn, vn, (vi 433 0), (vi 39 0), (vs "/claim/cut.py" 434)]
def o199 : Obj := ⟨(vt "frame"), none, .plain, #[some (vr 198), some (vr 3), some (vr 195), none, some (vs "readround.errors" 194), none, some (vr 0)]⟩
def o200 : Obj := ob_tu []
def o201 (P : Params) : Obj := ob_di [en P "__module__" 435 (vs "readround.errors" 194), en P "__firstlineno__" 439 (vi 39 438), en P "__static_attributes__" 440 (vr 200), en P "__doc__" 441 vn] 2
def o202 : Obj := ⟨(vt "type"), none, .cls (ClassData.mk (Str.ofString "NoDeed") [(vr 31)] [(vr 202), (vr 31), (vt "ValueError"), (vt "Exception"), (vt "BaseException"), (vt "object")] 201 (Str.ofString "NoDeed") true [] [] false none false), #[some (vr 193), none, some (vs "NoDeed" 428), some (vs "NoDeed" 436), some (vb "ValueError.__new__"), some (.bool true)]⟩
def o203 : Obj := ob_fi (vt "super") [(vr 202), (vr 202), (vr 202)]
def o204 : Obj := ob_fi (vt "builtin_function_or_method") [(vb "object.__init_subclass__"), (vr 202)]
def o3_2 (P : Params) : Obj := ob_di [en P "__name__" 165 (vs "law_readround_k18_feasts_refused" 720), en P "__doc__" 166 vn, en P "__package__" 167 vn, en P "__loader__" 168 (vb "__main__.__loader__#opaque"), en P "__spec__" 169 vn, en P "__annotations__" 170 (vr 6), en P "__builtins__" 171 (vr 4), en P "__file__" 173 (vs "/claim/cut.py" 172), en P "__cached__" 174 vn, en P "_wall" 193 (vr 21), en P "ReadError" 213 (vr 31), en P "BadBook" 229 (vr 44), en P "BadCalendar" 245 (vr 56), en P "BadFeast" 261 (vr 68), en P "BadRow" 277 (vr 80), en P "BadHouse" 293 (vr 92), en P "BadNumber" 309 (vr 104), en P "NoDay" 325 (vr 116), en P "NoRow" 341 (vr 128), en P "NoPiece" 357 (vr 140), en P "TooTight" 382 (vr 159), en P "NeverDone" 411 (vr 178), en P "TooFar" 427 (vr 190), en P "NoDeed" 443 (vr 202), en P "BadText" 468 (vr 221), en P "LETTERS" 472 (vs "abcdefghijklmnopqrstuvwxyz" 471), en P "is_number" 481 (vr 230), en P "is_name" 487 (vr 235), en P "are_numbers" 493 (vr 240), en P "need_day" 502 (vr 247), en P "Calendar" 581 (vr 304), en P "good_years" 589 (vr 313), en P "is_put" 596 (vr 320), en P "good_puts" 602 (vr 325), en P "Feast" 719 (vr 397), en P "_law_draw" 732 (vr 408), en P "_law_far" 742 (vr 415), en P "_law_beyond" 749 (vr 422)] 38
def o12_3 : Obj := ob_fi vn [(vi 1 0), (vi 0 0), (vr 20), (vi 5 0), (vi 0 0), (vr 27), (vi 7 0), (vi 0 0), (vr 40), (vi 9 0), (vi 0 0), (vr 52), (vi 11 0), (vi 0 0), (vr 64), (vi 13 0), (vi 0 0), (vr 76), (vi 15 0), (vi 0 0), (vr 88), (vi 17 0), (vi 0 0), (vr 100), (vi 19 0), (vi 0 0), (vr 112), (vi 21 0), (vi 0 0), (vr 124), (vi 23 0), (vi 0 0), (vr 136), (vi 25 0), (vi 0 0), (vr 148), (vi 30 0), (vi 0 0), (vr 167), (vi 37 0), (vi 0 0), (vr 186), (vi 39 0), (vi 0 0), (vr 198), (vi 41 0), (vi 0 0), (vr 210), (vi 48 0), (vi 0 0), (vr 229), (vi 50 0), (vi 0 0), (vr 234), (vi 54 0), (vi 0 0), (vr 239), (vi 59 0), (vi 0 0), (vr 246), (vi 62 0), (vi 0 0), (vr 253), (vi 98 0), (vi 0 0), (vr 312), (vi 102 0), (vi 0 0), (vr 319), (vi 104 0), (vi 0 0), (vr 324), (vi 110 0), (vi 0 0), (vr 331), (vi 172 0), (vi 0 0), (vr 407), (vi 182 0), (vi 0 0), (vr 414), (vi 190 0), (vi 0 0), (vr 421)]
def o31_2 : Obj := ⟨(vt "type"), none, .cls (ClassData.mk (Str.ofString "ReadError") [(vt "ValueError")] [(vr 31), (vt "ValueError"), (vt "Exception"), (vt "BaseException"), (vt "object")] 30 (Str.ofString "ReadError") true [] [(vr 44), (vr 56), (vr 68), (vr 80), (vr 92), (vr 104), (vr 116), (vr 128), (vr 140), (vr 159), (vr 178), (vr 190), (vr 202), (vr 221)] false none false), #[some (vr 22), none, some (vs "ReadError" 196), some (vs "ReadError" 204), some (vb "ValueError.__new__"), some (.bool true)]⟩
def o205 : Obj := ob_tu [(vr 31)]
def o206 : Obj := ob_fi (vt "builtin_function_or_method") [(vb "type.__prepare__"), (vt "type")]
def o207 (P : Params) : Obj := ob_di [en P "__module__" 451 (vs "readround.errors" 194), en P "__qualname__" 453 (vs "BadText" 452), en P "__firstlineno__" 455 (vi 41 454), en P "__init__" 463 (vr 218), en P "__static_attributes__" 465 (vr 219)] 5
def o208 : Obj := ob_tu []
def o209 : Obj := ob_fi vn [(vi 43 0), (vi 4 0), (vr 217)]
def o210 : Obj := ob_co [(vs "BadText" 446), (vs "BadText" 447), (vs "/claim/cut.py" 448), (vi 41 0), (vi 0 0), (vi 0 0), (vi 0 0), (vi 0 0), (vr 208), (.bool false), (vi 181 0), (vr 209), vn, vn, vn, vn, (vi 449 0), (vi 41 0), (vs "/claim/cut.py" 450)]
def o211 : Obj := ⟨(vt "frame"), none, .plain, #[some (vr 210), some (vr 3), some (vr 207), none, some (vs "readround.errors" 194), none, some (vr 0)]⟩
def o212 : Obj := ob_tu []
def o213 : Obj := ob_fi vn []
def o214 : Obj := ob_tu [(vs "self" 459), (vs "place" 460)]
def o215 : Obj := ob_tu []
def o216 : Obj := ob_fu vn (inClass (topS 16) 0) "__init__" "BadText.__init__" 0 vn vn vn vn none vn vn
def o217 : Obj := ob_co [(vs "__init__" 456), (vs "BadText.__init__" 457), (vs "/claim/cut.py" 458), (vi 43 0), (vi 2 0), (vi 0 0), (vi 0 0), (vi 3 0), (vr 212), (.bool true), (vi 181 0), (vr 213), vn, (vr 214), (vr 215), (vr 216), (vi 461 0), (vi 43 0), (vs "/claim/cut.py" 462)]
def o218 : Obj := ob_fu (vt "function") (inClass (topS 16) 0) "__init__" "BadText.__init__" 3 vn vn vn (vs "readround.errors" 194) none (vr 217) vn
def o219 : Obj := ob_tu [(vs "place" 464)]
def o220 (P : Params) : Obj := ob_di [en P "__module__" 451 (vs "readround.errors" 194), en P "__firstlineno__" 455 (vi 41 454), en P "__init__" 463 (vr 218), en P "__static_attributes__" 465 (vr 219), en P "__doc__" 466 vn] 2
def o221 : Obj := ⟨(vt "type"), none, .cls (ClassData.mk (Str.ofString "BadText") [(vr 31)] [(vr 221), (vr 31), (vt "ValueError"), (vt "Exception"), (vt "BaseException"), (vt "object")] 220 (Str.ofString "BadText") true [] [] false none false), #[some (vr 205), none, some (vs "BadText" 444), some (vs "BadText" 452), some (vb "ValueError.__new__"), some (.bool true)]⟩
def o222 : Obj := ob_fi (vt "super") [(vr 221), (vr 221), (vr 221)]
def o223 : Obj := ob_fi (vt "builtin_function_or_method") [(vb "object.__init_subclass__"), (vr 221)]
def o224 : Obj := ob_tu []
def o225 : Obj := ob_fi vn []
def o226 : Obj := ob_tu [(vs "thing" 476), (vs "least" 477), (vs "most" 478)]
def o227 : Obj := ob_tu []
def o228 : Obj := ob_fu vn (topS 19) "is_number" "is_number" 0 vn vn vn vn none vn vn
def o229 : Obj := ob_co [(vs "is_number" 473), (vs "is_number" 474), (vs "/claim/cut.py" 475), (vi 48 0), (vi 3 0), (vi 0 0), (vi 0 0), (vi 3 0), (vr 224), (.bool true), (vi 181 0), (vr 225), vn, (vr 226), (vr 227), (vr 228), (vi 479 0), (vi 48 0), (vs "/claim/cut.py" 480)]
def o230 : Obj := ob_fu (vt "function") (topS 19) "is_number" "is_number" 3 vn vn vn (vs "readround.kinds" 469) none (vr 229) vn
def o231 : Obj := ob_tu []
def o232 : Obj := ob_fi vn []
def o233 : Obj := ob_fu vn (topS 20) "is_name" "is_name" 0 vn vn vn vn none vn vn
def o234 : Obj := ob_co [(vs "is_name" 482), (vs "is_name" 483), (vs "/claim/cut.py" 484), (vi 50 0), (vi 1 0), (vi 0 0), (vi 0 0), (vi 3 0), (vr 231), (.bool true), (vi 181 0), (vr 232), vn, vn, vn, (vr 233), (vi 485 0), (vi 50 0), (vs "/claim/cut.py" 486)]
def o235 : Obj := ob_fu (vt "function") (topS 20) "is_name" "is_name" 3 vn vn vn (vs "readround.kinds" 469) none (vr 234) vn
def o236 : Obj := ob_tu []
def o237 : Obj := ob_fi vn []
def o238 : Obj := ob_fu vn (topS 21) "are_numbers" "are_numbers" 0 vn vn vn vn none vn vn
def o239 : Obj := ob_co [(vs "are_numbers" 488), (vs "are_numbers" 489), (vs "/claim/cut.py" 490), (vi 54 0), (vi 4 0), (vi 0 0), (vi 0 0), (vi 3 0), (vr 236), (.bool true), (vi 181 0), (vr 237), vn, vn, vn, (vr 238), (vi 491 0), (vi 54 0), (vs "/claim/cut.py" 492)]
def o240 : Obj := ob_fu (vt "function") (topS 21) "are_numbers" "are_numbers" 3 vn vn vn (vs "readround.kinds" 469) none (vr 239) vn
def o241 : Obj := ob_tu []
def o242 : Obj := ob_fi vn []
def o243 : Obj := ob_tu [(vs "number" 499)]
def o244 : Obj := ob_tu []
def o245 : Obj := ob_fu vn (topS 23) "need_day" "need_day" 0 vn vn vn vn none vn vn
def o246 : Obj := ob_co [(vs "need_day" 496), (vs "need_day" 497), (vs "/claim/cut.py" 498), (vi 59 0), (vi 1 0), (vi 0 0), (vi 0 0), (vi 3 0), (vr 241), (.bool true), (vi 181 0), (vr 242), vn, (vr 243), (vr 244), (vr 245), (vi 500 0), (vi 59 0), (vs "/claim/cut.py" 501)]
def o247 : Obj := ob_fu (vt "function") (topS 23) "need_day" "need_day" 3 vn vn vn (vs "readround.calendars" 494) none (vr 246) vn
def o248 : Obj := ob_tu []
def o249 : Obj := ob_fi (vt "builtin_function_or_method") [(vb "type.__prepare__"), (vt "type")]
def o250 (P : Params) : Obj := ob_di [en P "__module__" 510 (vs "readround.calendars" 494), en P "__qualname__" 512 (vs "Calendar" 511), en P "__firstlineno__" 514 (vi 62 513), en P "__init__" 523 (vr 261), en P "__eq__" 531 (vr 268), en P "years" 538 (vr 275), en P "turn" 545 (vr 282), en P "long" 553 (vr 289), en P "first" 563 (vr 296), en P "at" 569 (vr 301), en P "__static_attributes__" 573 (vr 302)] 11
def o251 : Obj := ob_tu []
def o252 : Obj := ob_fi vn [(vi 64 0), (vi 4 0), (vr 260), (vi 74 0), (vi 4 0), (vr 267), (vi 77 0), (vi 4 0), (vr 274), (vi 80 0), (vi 4 0), (vr 281), (vi 83 0), (vi 4 0), (vr 288), (vi 87 0), (vi 4 0), (vr 295), (vi 92 0), (vi 4 0), (vr 300)]
def o253 : Obj := ob_co [(vs "Calendar" 505), (vs "Calendar" 506), (vs "/claim/cut.py" 507), (vi 62 0), (vi 0 0), (vi 0 0), (vi 0 0), (vi 0 0), (vr 251), (.bool false), (vi 181 0), (vr 252), vn, vn, vn, vn, (vi 508 0), (vi 62 0), (vs "/claim/cut.py" 509)]
def o254 : Obj := ⟨(vt "frame"), none, .plain, #[some (vr 253), some (vr 3), some (vr 250), none, some (vs "readround.calendars" 494), none, some (vr 0)]⟩
def o255 : Obj := ob_tu []
def o256 : Obj := ob_fi vn []
def o257 : Obj := ob_tu [(vs "self" 518), (vs "years" 519), (vs "days" 520)]
def o258 : Obj := ob_tu []
def o259 : Obj := ob_fu vn (inClass (topS 24) 0) "__init__" "Calendar.__init__" 0 vn vn vn vn none vn vn
def o260 : Obj := ob_co [(vs "__init__" 515), (vs "Calendar.__init__" 516), (vs "/claim/cut.py" 517), (vi 64 0), (vi 2 0), (vi 0 0), (vi 0 0), (vi 3 0), (vr 255), (.bool true), (vi 181 0), (vr 256), vn, (vr 257), (vr 258), (vr 259), (vi 521 0), (vi 64 0), (vs "/claim/cut.py" 522)]
def o261 : Obj := ob_fu (vt "function") (inClass (topS 24) 0) "__init__" "Calendar.__init__" 3 vn vn vn (vs "readround.calendars" 494) none (vr 260) vn
def o262 : Obj := ob_tu []
def o263 : Obj := ob_fi vn []
def o264 : Obj := ob_tu [(vs "self" 527), (vs "other" 528)]
def o265 : Obj := ob_tu []
def o266 : Obj := ob_fu vn (inClass (topS 24) 1) "__eq__" "Calendar.__eq__" 0 vn vn vn vn none vn vn
def o267 : Obj := ob_co [(vs "__eq__" 524), (vs "Calendar.__eq__" 525), (vs "/claim/cut.py" 526), (vi 74 0), (vi 2 0), (vi 0 0), (vi 0 0), (vi 3 0), (vr 262), (.bool true), (vi 181 0), (vr 263), vn, (vr 264), (vr 265), (vr 266), (vi 529 0), (vi 74 0), (vs "/claim/cut.py" 530)]
def o268 : Obj := ob_fu (vt "function") (inClass (topS 24) 1) "__eq__" "Calendar.__eq__" 3 vn vn vn (vs "readround.calendars" 494) none (vr 267) vn
def o269 : Obj := ob_tu []
def o270 : Obj := ob_fi vn []
def o271 : Obj := ob_tu [(vs "self" 535)]
def o272 : Obj := ob_tu []
def o273 : Obj := ob_fu vn (inClass (topS 24) 2) "years" "Calendar.years" 0 vn vn vn vn none vn vn
def o274 : Obj := ob_co [(vs "years" 532), (vs "Calendar.years" 533), (vs "/claim/cut.py" 534), (vi 77 0), (vi 1 0), (vi 0 0), (vi 0 0), (vi 3 0), (vr 269), (.bool true), (vi 181 0), (vr 270), vn, (vr 271), (vr 272), (vr 273), (vi 536 0), (vi 77 0), (vs "/claim/cut.py" 537)]
def o275 : Obj := ob_fu (vt "function") (inClass (topS 24) 2) "years" "Calendar.years" 3 vn vn vn (vs "readround.calendars" 494) none (vr 274) vn
def o276 : Obj := ob_tu []
def o277 : Obj := ob_fi vn []
def o278 : Obj := ob_tu [(vs "self" 542)]
def o279 : Obj := ob_tu []
def o280 : Obj := ob_fu vn (inClass (topS 24) 3) "turn" "Calendar.turn" 0 vn vn vn vn none vn vn
def o281 : Obj := ob_co [(vs "turn" 539), (vs "Calendar.turn" 540), (vs "/claim/cut.py" 541), (vi 80 0), (vi 1 0), (vi 0 0), (vi 0 0), (vi 3 0), (vr 276), (.bool true), (vi 181 0), (vr 277), vn, (vr 278), (vr 279), (vr 280), (vi 543 0), (vi 80 0), (vs "/claim/cut.py" 544)]
def o282 : Obj := ob_fu (vt "function") (inClass (topS 24) 3) "turn" "Calendar.turn" 3 vn vn vn (vs "readround.calendars" 494) none (vr 281) vn
def o283 : Obj := ob_tu []
def o284 : Obj := ob_fi vn []
def o285 : Obj := ob_tu [(vs "self" 549), (vs "year" 550)]
def o286 : Obj := ob_tu []
def o287 : Obj := ob_fu vn (inClass (topS 24) 4) "long" "Calendar.long" 0 vn vn vn vn none vn vn
def o288 : Obj := ob_co [(vs "long" 546), (vs "Calendar.long" 547), (vs "/claim/cut.py" 548), (vi 83 0), (vi 2 0), (vi 0 0), (vi 0 0), (vi 3 0), (vr 283), (.bool true), (vi 181 0), (vr 284), vn, (vr 285), (vr 286), (vr 287), (vi 551 0), (vi 83 0), (vs "/claim/cut.py" 552)]
def o289 : Obj := ob_fu (vt "function") (inClass (topS 24) 4) "long" "Calendar.long" 3 vn vn vn (vs "readround.calendars" 494) none (vr 288) vn
def o290 : Obj := ob_tu []
def o291 : Obj := ob_fi vn []
def o292 : Obj := ob_tu [(vs "self" 557), (vs "year" 558), (vs "turns" 559), (vs "place" 560)]
def o293 : Obj := ob_tu []
def o294 : Obj := ob_fu vn (inClass (topS 24) 5) "first" "Calendar.first" 0 vn vn vn vn none vn vn
def o295 : Obj := ob_co [(vs "first" 554), (vs "Calendar.first" 555), (vs "/claim/cut.py" 556), (vi 87 0), (vi 2 0), (vi 0 0), (vi 0 0), (vi 3 0), (vr 290), (.bool true), (vi 181 0), (vr 291), vn, (vr 292), (vr 293), (vr 294), (vi 561 0), (vi 87 0), (vs "/claim/cut.py" 562)]
def o296 : Obj := ob_fu (vt "function") (inClass (topS 24) 5) "first" "Calendar.first" 3 vn vn vn (vs "readround.calendars" 494) none (vr 295) vn
def o297 : Obj := ob_tu []
def o298 : Obj := ob_fi vn []
def o299 : Obj := ob_fu vn (inClass (topS 24) 6) "at" "Calendar.at" 0 vn vn vn vn none vn vn
def o300 : Obj := ob_co [(vs "at" 564), (vs "Calendar.at" 565), (vs "/claim/cut.py" 566), (vi 92 0), (vi 2 0), (vi 0 0), (vi 0 0), (vi 3 0), (vr 297), (.bool true), (vi 181 0), (vr 298), vn, vn, vn, (vr 299), (vi 567 0), (vi 92 0), (vs "/claim/cut.py" 568)]
def o301 : Obj := ob_fu (vt "function") (inClass (topS 24) 6) "at" "Calendar.at" 3 vn vn vn (vs "readround.calendars" 494) none (vr 300) vn
def o302 : Obj := ob_tu [(vs "begins" 570), (vs "lengths" 571), (vs "whole" 572)]
def o303 (P : Params) : Obj := ob_di [en P "__module__" 510 (vs "readround.calendars" 494), en P "__firstlineno__" 514 (vi 62 513), en P "__init__" 523 (vr 261), en P "__eq__" 531 (vr 268), en P "years" 538 (vr 275), en P "turn" 545 (vr 282), en P "long" 553 (vr 289), en P "first" 563 (vr 296), en P "at" 569 (vr 301), en P "__static_attributes__" 573 (vr 302), en P "__dict__" 575 (vr 305), en P "__weakref__" 577 (vr 306), en P "__doc__" 578 vn, en P "__hash__" 579 vn] 5
def o304 : Obj := ⟨(vt "type"), none, .cls (ClassData.mk (Str.ofString "Calendar") [(vt "object")] [(vr 304), (vt "object")] 303 (Str.ofString "Calendar") true [] [] false none false), #[none, none, some (vs "Calendar" 503), some (vs "Calendar" 511), some (vb "object.__new__"), some (.bool true)]⟩
def o305 : Obj := ob_fi (vt "getset_descriptor") [(vs "__dict__" 574), (vr 304), (vb "function.__dict__"), (vb "function.__dict__#set")]
def o306 : Obj := ob_fi (vt "getset_descriptor") [(vs "__weakref__" 576), (vr 304), (vb "ExceptionGroup.__weakref__"), vn]
def o307 : Obj := ob_fi (vt "super") [(vr 304), (vr 304), (vr 304)]
def o308 : Obj := ob_fi (vt "builtin_function_or_method") [(vb "object.__init_subclass__"), (vr 304)]
def o309 : Obj := ob_tu []
def o310 : Obj := ob_fi vn []
def o311 : Obj := ob_fu vn (topS 26) "good_years" "good_years" 0 vn vn vn vn none vn vn
def o312 : Obj := ob_co [(vs "good_years" 584), (vs "good_years" 585), (vs "/claim/cut.py" 586), (vi 98 0), (vi 1 0), (vi 0 0), (vi 0 0), (vi 3 0), (vr 309), (.bool true), (vi 181 0), (vr 310), vn, vn, vn, (vr 311), (vi 587 0), (vi 98 0), (vs "/claim/cut.py" 588)]
def o313 : Obj := ob_fu (vt "function") (topS 26) "good_years" "good_years" 3 vn vn vn (vs "readround.feasts" 582) none (vr 312) vn
def o314 : Obj := ob_tu []
def o315 : Obj := ob_fi vn []
def o316 : Obj := ob_tu [(vs "pair" 593)]
def o317 : Obj := ob_tu []
def o318 : Obj := ob_fu vn (topS 27) "is_put" "is_put" 0 vn vn vn vn none vn vn
def o319 : Obj := ob_co [(vs "is_put" 590), (vs "is_put" 591), (vs "/claim/cut.py" 592), (vi 102 0), (vi 1 0), (vi 0 0), (vi 0 0), (vi 3 0), (vr 314), (.bool true), (vi 181 0), (vr 315), vn, (vr 316), (vr 317), (vr 318), (vi 594 0), (vi 102 0), (vs "/claim/cut.py" 595)]
def o320 : Obj := ob_fu (vt "function") (topS 27) "is_put" "is_put" 3 vn vn vn (vs "readround.feasts" 582) none (vr 319) vn
def o321 : Obj := ob_tu []
def o322 : Obj := ob_fi vn []
def o323 : Obj := ob_fu vn (topS 28) "good_puts" "good_puts" 0 vn vn vn vn none vn vn
def o324 : Obj := ob_co [(vs "good_puts" 597), (vs "good_puts" 598), (vs "/claim/cut.py" 599), (vi 104 0), (vi 1 0), (vi 0 0), (vi 0 0), (vi 3 0), (vr 321), (.bool true), (vi 181 0), (vr 322), vn, vn, vn, (vr 323), (vi 600 0), (vi 104 0), (vs "/claim/cut.py" 601)]
def o325 : Obj := ob_fu (vt "function") (topS 28) "good_puts" "good_puts" 3 vn vn vn (vs "readround.feasts" 582) none (vr 324) vn
def o326 : Obj := ob_tu []
def o327 : Obj := ob_fi (vt "builtin_function_or_method") [(vb "type.__prepare__"), (vt "type")]
def o328 (P : Params) : Obj := ob_di [en P "__module__" 610 (vs "readround.feasts" 582), en P "__qualname__" 612 (vs "Feast" 611), en P "__firstlineno__" 614 (vi 110 613), en P "__init__" 627 (vr 340), en P "__eq__" 635 (vr 347), en P "told" 643 (vr 354), en P "sort_for" 651 (vr 361), en P "span" 663 (vr 368), en P "keeps" 675 (vr 375), en P "next_kept" 688 (vr 382), en P "kept_in" 699 (vr 389), en P "kept_ahead" 705 (vr 394), en P "__static_attributes__" 711 (vr 395)] 13
def o329 : Obj := ob_tu []
def o330 : Obj := ob_fi vn [(vi 112 0), (vi 4 0), (vr 339), (vi 123 0), (vi 4 0), (vr 346), (vi 126 0), (vi 4 0), (vr 353), (vi 130 0), (vi 4 0), (vr 360), (vi 133 0), (vi 4 0), (vr 367), (vi 144 0), (vi 4 0), (vr 374), (vi 149 0), (vi 4 0), (vr 381), (vi 157 0), (vi 4 0), (vr 388), (vi 163 0), (vi 4 0), (vr 393)]
def o331 : Obj := ob_co [(vs "Feast" 605), (vs "Feast" 606), (vs "/claim/cut.py" 607), (vi 110 0), (vi 0 0), (vi 0 0), (vi 0 0), (vi 0 0), (vr 329), (.bool false), (vi 181 0), (vr 330), vn, vn, vn, vn, (vi 608 0), (vi 110 0), (vs "/claim/cut.py" 609)]
def o332 : Obj := ⟨(vt "frame"), none, .plain, #[some (vr 331), some (vr 3), some (vr 328), none, some (vs "readround.feasts" 582), none, some (vr 0)]⟩
def o333 : Obj := ob_tu [(vi 1 615), vn, vn]
def o334 : Obj := ob_tu []
def o335 : Obj := ob_fi vn []
def o336 : Obj := ob_tu [(vs "self" 619), (vs "name" 620), (vs "place" 621), (vs "days" 622), (vs "years" 623), (vs "puts" 624)]
def o337 : Obj := ob_tu []
def o338 : Obj := ob_fu vn (inClass (topS 29) 0) "__init__" "Feast.__init__" 0 vn vn vn vn none vn vn
def o339 : Obj := ob_co [(vs "__init__" 616), (vs "Feast.__init__" 617), (vs "/claim/cut.py" 618), (vi 112 0), (vi 6 0), (vi 0 0), (vi 0 0), (vi 3 0), (vr 334), (.bool true), (vi 181 0), (vr 335), vn, (vr 336), (vr 337), (vr 338), (vi 625 0), (vi 112 0), (vs "/claim/cut.py" 626)]
def o340 : Obj := ob_fu (vt "function") (inClass (topS 29) 0) "__init__" "Feast.__init__" 3 (vr 333) vn vn (vs "readround.feasts" 582) none (vr 339) vn
def o341 : Obj := ob_tu []
def o342 : Obj := ob_fi vn []
def o343 : Obj := ob_tu [(vs "self" 631), (vs "other" 632)]
def o344 : Obj := ob_tu []
def o345 : Obj := ob_fu vn (inClass (topS 29) 1) "__eq__" "Feast.__eq__" 0 vn vn vn vn none vn vn
def o346 : Obj := ob_co [(vs "__eq__" 628), (vs "Feast.__eq__" 629), (vs "/claim/cut.py" 630), (vi 123 0), (vi 2 0), (vi 0 0), (vi 0 0), (vi 3 0), (vr 341), (.bool true), (vi 181 0), (vr 342), vn, (vr 343), (vr 344), (vr 345), (vi 633 0), (vi 123 0), (vs "/claim/cut.py" 634)]
def o347 : Obj := ob_fu (vt "function") (inClass (topS 29) 1) "__eq__" "Feast.__eq__" 3 vn vn vn (vs "readround.feasts" 582) none (vr 346) vn
def o348 : Obj := ob_tu []
def o349 : Obj := ob_fi vn []
def o350 : Obj := ob_tu [(vs "self" 639), (vs "kept" 640)]
def o351 : Obj := ob_tu []
def o352 : Obj := ob_fu vn (inClass (topS 29) 2) "told" "Feast.told" 0 vn vn vn vn none vn vn
def o353 : Obj := ob_co [(vs "told" 636), (vs "Feast.told" 637), (vs "/claim/cut.py" 638), (vi 126 0), (vi 1 0), (vi 0 0), (vi 0 0), (vi 3 0), (vr 348), (.bool true), (vi 181 0), (vr 349), vn, (vr 350), (vr 351), (vr 352), (vi 641 0), (vi 126 0), (vs "/claim/cut.py" 642)]
def o354 : Obj := ob_fu (vt "function") (inClass (topS 29) 2) "told" "Feast.told" 3 vn vn vn (vs "readround.feasts" 582) none (vr 353) vn
def o355 : Obj := ob_tu []
def o356 : Obj := ob_fi vn []
def o357 : Obj := ob_tu [(vs "self" 647), (vs "name" 648)]
def o358 : Obj := ob_tu []
def o359 : Obj := ob_fu vn (inClass (topS 29) 3) "sort_for" "Feast.sort_for" 0 vn vn vn vn none vn vn
def o360 : Obj := ob_co [(vs "sort_for" 644), (vs "Feast.sort_for" 645), (vs "/claim/cut.py" 646), (vi 130 0), (vi 2 0), (vi 0 0), (vi 0 0), (vi 3 0), (vr 355), (.bool true), (vi 181 0), (vr 356), vn, (vr 357), (vr 358), (vr 359), (vi 649 0), (vi 130 0), (vs "/claim/cut.py" 650)]
def o361 : Obj := ob_fu (vt "function") (inClass (topS 29) 3) "sort_for" "Feast.sort_for" 3 vn vn vn (vs "readround.feasts" 582) none (vr 360) vn
def o362 : Obj := ob_tu []
def o363 : Obj := ob_fi vn []
def o364 : Obj := ob_tu [(vs "self" 655), (vs "calendar" 656), (vs "year" 657), (vs "days" 658), (vs "place" 659), (vs "first" 660)]
def o365 : Obj := ob_tu []
def o366 : Obj := ob_fu vn (inClass (topS 29) 4) "span" "Feast.span" 0 vn vn vn vn none vn vn
def o367 : Obj := ob_co [(vs "span" 652), (vs "Feast.span" 653), (vs "/claim/cut.py" 654), (vi 133 0), (vi 3 0), (vi 0 0), (vi 0 0), (vi 3 0), (vr 362), (.bool true), (vi 181 0), (vr 363), vn, (vr 364), (vr 365), (vr 366), (vi 661 0), (vi 133 0), (vs "/claim/cut.py" 662)]
def o368 : Obj := ob_fu (vt "function") (inClass (topS 29) 4) "span" "Feast.span" 3 vn vn vn (vs "readround.feasts" 582) none (vr 367) vn
def o369 : Obj := ob_tu []
def o370 : Obj := ob_fi vn []
def o371 : Obj := ob_tu [(vs "self" 667), (vs "calendar" 668), (vs "day" 669), (vs "year" 670), (vs "place" 671), (vs "kept" 672)]
def o372 : Obj := ob_tu []
def o373 : Obj := ob_fu vn (inClass (topS 29) 5) "keeps" "Feast.keeps" 0 vn vn vn vn none vn vn
def o374 : Obj := ob_co [(vs "keeps" 664), (vs "Feast.keeps" 665), (vs "/claim/cut.py" 666), (vi 144 0), (vi 3 0), (vi 0 0), (vi 0 0), (vi 3 0), (vr 369), (.bool true), (vi 181 0), (vr 370), vn, (vr 371), (vr 372), (vr 373), (vi 673 0), (vi 144 0), (vs "/claim/cut.py" 674)]
def o375 : Obj := ob_fu (vt "function") (inClass (topS 29) 5) "keeps" "Feast.keeps" 3 vn vn vn (vs "readround.feasts" 582) none (vr 374) vn
def o376 : Obj := ob_tu []
def o377 : Obj := ob_fi vn []
def o378 : Obj := ob_tu [(vs "self" 679), (vs "calendar" 680), (vs "day" 681), (vs "year" 682), (vs "place" 683), (vs "number" 684), (vs "kept" 685)]
def o379 : Obj := ob_tu []
def o380 : Obj := ob_fu vn (inClass (topS 29) 6) "next_kept" "Feast.next_kept" 0 vn vn vn vn none vn vn
def o381 : Obj := ob_co [(vs "next_kept" 676), (vs "Feast.next_kept" 677), (vs "/claim/cut.py" 678), (vi 149 0), (vi 3 0), (vi 0 0), (vi 0 0), (vi 3 0), (vr 376), (.bool true), (vi 181 0), (vr 377), vn, (vr 378), (vr 379), (vr 380), (vi 686 0), (vi 149 0), (vs "/claim/cut.py" 687)]
def o382 : Obj := ob_fu (vt "function") (inClass (topS 29) 6) "next_kept" "Feast.next_kept" 3 vn vn vn (vs "readround.feasts" 582) none (vr 381) vn
def o383 : Obj := ob_tu []
def o384 : Obj := ob_fi vn []
def o385 : Obj := ob_tu [(vs "self" 692), (vs "calendar" 693), (vs "year" 694), (vs "end" 695), (vs "kept" 696)]
def o386 : Obj := ob_tu []
def o387 : Obj := ob_fu vn (inClass (topS 29) 7) "kept_in" "Feast.kept_in" 0 vn vn vn vn none vn vn
def o388 : Obj := ob_co [(vs "kept_in" 689), (vs "Feast.kept_in" 690), (vs "/claim/cut.py" 691), (vi 157 0), (vi 4 0), (vi 0 0), (vi 0 0), (vi 3 0), (vr 383), (.bool true), (vi 181 0), (vr 384), vn, (vr 385), (vr 386), (vr 387), (vi 697 0), (vi 157 0), (vs "/claim/cut.py" 698)]
def o389 : Obj := ob_fu (vt "function") (inClass (topS 29) 7) "kept_in" "Feast.kept_in" 3 vn vn vn (vs "readround.feasts" 582) none (vr 388) vn
def o390 : Obj := ob_tu []
def o391 : Obj := ob_fi vn []
def o392 : Obj := ob_fu vn (inClass (topS 29) 8) "kept_ahead" "Feast.kept_ahead" 0 vn vn vn vn none vn vn
def o393 : Obj := ob_co [(vs "kept_ahead" 700), (vs "Feast.kept_ahead" 701), (vs "/claim/cut.py" 702), (vi 163 0), (vi 3 0), (vi 0 0), (vi 0 0), (vi 3 0), (vr 390), (.bool true), (vi 181 0), (vr 391), vn, vn, vn, (vr 392), (vi 703 0), (vi 163 0), (vs "/claim/cut.py" 704)]
def o394 : Obj := ob_fu (vt "function") (inClass (topS 29) 8) "kept_ahead" "Feast.kept_ahead" 3 vn vn vn (vs "readround.feasts" 582) none (vr 393) vn
def o395 : Obj := ob_tu [(vs "acts" 706), (vs "kept" 707), (vs "lasts" 708), (vs "name" 709), (vs "place" 710)]
def o396 (P : Params) : Obj := ob_di [en P "__module__" 610 (vs "readround.feasts" 582), en P "__firstlineno__" 614 (vi 110 613), en P "__init__" 627 (vr 340), en P "__eq__" 635 (vr 347), en P "told" 643 (vr 354), en P "sort_for" 651 (vr 361), en P "span" 663 (vr 368), en P "keeps" 675 (vr 375), en P "next_kept" 688 (vr 382), en P "kept_in" 699 (vr 389), en P "kept_ahead" 705 (vr 394), en P "__static_attributes__" 711 (vr 395), en P "__dict__" 713 (vr 398), en P "__weakref__" 715 (vr 399), en P "__doc__" 716 vn, en P "__hash__" 717 vn] 5
def o397 : Obj := ⟨(vt "type"), none, .cls (ClassData.mk (Str.ofString "Feast") [(vt "object")] [(vr 397), (vt "object")] 396 (Str.ofString "Feast") true [] [] false none false), #[none, none, some (vs "Feast" 603), some (vs "Feast" 611), some (vb "object.__new__"), some (.bool true)]⟩
def o398 : Obj := ob_fi (vt "getset_descriptor") [(vs "__dict__" 712), (vr 397), (vb "function.__dict__"), (vb "function.__dict__#set")]
def o399 : Obj := ob_fi (vt "getset_descriptor") [(vs "__weakref__" 714), (vr 397), (vb "ExceptionGroup.__weakref__"), vn]
def o400 : Obj := ob_fi (vt "super") [(vr 397), (vr 397), (vr 397)]
def o401 : Obj := ob_fi (vt "builtin_function_or_method") [(vb "object.__init_subclass__"), (vr 397)]
def o402 : Obj := ob_tu []
def o403 : Obj := ob_fi vn []
def o404 : Obj := ob_tu [(vs "_law_hold" 725), (vs "_law_many" 726), (vs "_law_spot" 727), (vs "_law_cell" 728), (vs "_law_mark" 729)]
def o405 : Obj := ob_tu []
def o406 : Obj := ob_fu vn (topS 31) "_law_draw" "_law_draw" 0 vn vn vn vn none vn vn
def o407 : Obj := ob_co [(vs "_law_draw" 722), (vs "_law_draw" 723), (vs "/claim/cut.py" 724), (vi 172 0), (vi 2 0), (vi 0 0), (vi 0 0), (vi 3 0), (vr 402), (.bool true), (vi 181 0), (vr 403), vn, (vr 404), (vr 405), (vr 406), (vi 730 0), (vi 172 0), (vs "/claim/cut.py" 731)]
def o408 : Obj := ob_fu (vt "function") (topS 31) "_law_draw" "_law_draw" 3 vn vn vn (vs "law_readround_k18_feasts_refused" 720) none (vr 407) vn
def o409 : Obj := ob_tu []
def o410 : Obj := ob_fi vn []
def o411 : Obj := ob_tu [(vs "_law_hold" 736), (vs "_law_way" 737), (vs "_law_number" 738), (vs "_law_k" 739)]
def o412 : Obj := ob_tu []
def o413 : Obj := ob_fu vn (topS 32) "_law_far" "_law_far" 0 vn vn vn vn none vn vn
def o414 : Obj := ob_co [(vs "_law_far" 733), (vs "_law_far" 734), (vs "/claim/cut.py" 735), (vi 182 0), (vi 1 0), (vi 0 0), (vi 0 0), (vi 3 0), (vr 409), (.bool true), (vi 181 0), (vr 410), vn, (vr 411), (vr 412), (vr 413), (vi 740 0), (vi 182 0), (vs "/claim/cut.py" 741)]
def o415 : Obj := ob_fu (vt "function") (topS 32) "_law_far" "_law_far" 3 vn vn vn (vs "law_readround_k18_feasts_refused" 720) none (vr 414) vn
def o416 : Obj := ob_tu []
def o417 : Obj := ob_fi vn []
def o418 : Obj := ob_tu [(vs "_law_hold" 746)]
def o419 : Obj := ob_tu []
def o420 : Obj := ob_fu vn (topS 33) "_law_beyond" "_law_beyond" 0 vn vn vn vn none vn vn
def o421 : Obj := ob_co [(vs "_law_beyond" 743), (vs "_law_beyond" 744), (vs "/claim/cut.py" 745), (vi 190 0), (vi 1 0), (vi 0 0), (vi 0 0), (vi 3 0), (vr 416), (.bool true), (vi 181 0), (vr 417), vn, (vr 418), (vr 419), (vr 420), (vi 747 0), (vi 190 0), (vs "/claim/cut.py" 748)]
def o422 : Obj := ob_fu (vt "function") (topS 33) "_law_beyond" "_law_beyond" 3 vn vn vn (vs "law_readround_k18_feasts_refused" 720) none (vr 421) vn
def o3_3 (P : Params) : Obj := ob_di [en P "__name__" 165 (vs "law_readround_k18_feasts_refused" 720), en P "__doc__" 166 vn, en P "__package__" 167 vn, en P "__loader__" 168 (vb "__main__.__loader__#opaque"), en P "__spec__" 169 vn, en P "__annotations__" 170 (vr 6), en P "__builtins__" 171 (vr 4), en P "__file__" 173 (vs "/claim/cut.py" 172), en P "__cached__" 174 vn, en P "_wall" 193 (vr 21), en P "ReadError" 213 (vr 31), en P "BadBook" 229 (vr 44), en P "BadCalendar" 245 (vr 56), en P "BadFeast" 261 (vr 68), en P "BadRow" 277 (vr 80), en P "BadHouse" 293 (vr 92), en P "BadNumber" 309 (vr 104), en P "NoDay" 325 (vr 116), en P "NoRow" 341 (vr 128), en P "NoPiece" 357 (vr 140), en P "TooTight" 382 (vr 159), en P "NeverDone" 411 (vr 178), en P "TooFar" 427 (vr 190), en P "NoDeed" 443 (vr 202), en P "BadText" 468 (vr 221), en P "LETTERS" 472 (vs "abcdefghijklmnopqrstuvwxyz" 471), en P "is_number" 481 (vr 230), en P "is_name" 487 (vr 235), en P "are_numbers" 493 (vr 240), en P "need_day" 502 (vr 247), en P "Calendar" 581 (vr 304), en P "good_years" 589 (vr 313), en P "is_put" 596 (vr 320), en P "good_puts" 602 (vr 325), en P "Feast" 719 (vr 397), en P "_law_draw" 732 (vr 408), en P "_law_far" 742 (vr 415), en P "_law_beyond" 749 (vr 422), en P "_law_lengths" 755 (vr 427), en P "_law_is" 763 (vr 434), en P "_law_row_is" 769 (vr 439), en P "_law_told_is" 777 (vr 446), en P "_law_name" 783 (vr 451), en P "_law_kept" 789 (vr 456), en P "_law_acts" 795 (vr 461), en P "_law_feast" 807 (vr 468), en P "_law_bad_years" 813 (vr 473), en P "_law_bad_name" 824 (vr 480), en P "_law_bad_puts" 836 (vr 487), en P "_law_spoil" 846 (vr 494), en P "_law_bad" 855 (vr 501), en P "_law_asked" 867 (vr 508), en P "law" 883 (vr 515)] 53
def o12_4 : Obj := ob_fi vn [(vi 1 0), (vi 0 0), (vr 20), (vi 5 0), (vi 0 0), (vr 27), (vi 7 0), (vi 0 0), (vr 40), (vi 9 0), (vi 0 0), (vr 52), (vi 11 0), (vi 0 0), (vr 64), (vi 13 0), (vi 0 0), (vr 76), (vi 15 0), (vi 0 0), (vr 88), (vi 17 0), (vi 0 0), (vr 100), (vi 19 0), (vi 0 0), (vr 112), (vi 21 0), (vi 0 0), (vr 124), (vi 23 0), (vi 0 0), (vr 136), (vi 25 0), (vi 0 0), (vr 148), (vi 30 0), (vi 0 0), (vr 167), (vi 37 0), (vi 0 0), (vr 186), (vi 39 0), (vi 0 0), (vr 198), (vi 41 0), (vi 0 0), (vr 210), (vi 48 0), (vi 0 0), (vr 229), (vi 50 0), (vi 0 0), (vr 234), (vi 54 0), (vi 0 0), (vr 239), (vi 59 0), (vi 0 0), (vr 246), (vi 62 0), (vi 0 0), (vr 253), (vi 98 0), (vi 0 0), (vr 312), (vi 102 0), (vi 0 0), (vr 319), (vi 104 0), (vi 0 0), (vr 324), (vi 110 0), (vi 0 0), (vr 331), (vi 172 0), (vi 0 0), (vr 407), (vi 182 0), (vi 0 0), (vr 414), (vi 190 0), (vi 0 0), (vr 421), (vi 192 0), (vi 0 0), (vr 426), (vi 198 0), (vi 0 0), (vr 433), (vi 200 0), (vi 0 0), (vr 438), (vi 206 0), (vi 0 0), (vr 445), (vi 214 0), (vi 0 0), (vr 450), (vi 221 0), (vi 0 0), (vr 455), (vi 229 0), (vi 0 0), (vr 460), (vi 236 0), (vi 0 0), (vr 467), (vi 242 0), (vi 0 0), (vr 472), (vi 264 0), (vi 0 0), (vr 479), (vi 276 0), (vi 0 0), (vr 486), (vi 298 0), (vi 0 0), (vr 493), (vi 310 0), (vi 0 0), (vr 500), (vi 320 0), (vi 0 0), (vr 507), (vi 337 0), (vi 0 0), (vr 514)]
def o423 : Obj := ob_tu []
def o424 : Obj := ob_fi vn []
def o425 : Obj := ob_fu vn (topS 34) "_law_lengths" "_law_lengths" 0 vn vn vn vn none vn vn
def o426 : Obj := ob_co [(vs "_law_lengths" 750), (vs "_law_lengths" 751), (vs "/claim/cut.py" 752), (vi 192 0), (vi 3 0), (vi 0 0), (vi 0 0), (vi 3 0), (vr 423), (.bool true), (vi 181 0), (vr 424), vn, vn, vn, (vr 425), (vi 753 0), (vi 192 0), (vs "/claim/cut.py" 754)]
def o427 : Obj := ob_fu (vt "function") (topS 34) "_law_lengths" "_law_lengths" 3 vn vn vn (vs "law_readround_k18_feasts_refused" 720) none (vr 426) vn
def o428 : Obj := ob_tu []
def o429 : Obj := ob_fi vn []
def o430 : Obj := ob_tu [(vs "_law_found" 759), (vs "_law_due" 760)]
def o431 : Obj := ob_tu []
def o432 : Obj := ob_fu vn (topS 35) "_law_is" "_law_is" 0 vn vn vn vn none vn vn
def o433 : Obj := ob_co [(vs "_law_is" 756), (vs "_law_is" 757), (vs "/claim/cut.py" 758), (vi 198 0), (vi 2 0), (vi 0 0), (vi 0 0), (vi 3 0), (vr 428), (.bool true), (vi 181 0), (vr 429), vn, (vr 430), (vr 431), (vr 432), (vi 761 0), (vi 198 0), (vs "/claim/cut.py" 762)]
def o434 : Obj := ob_fu (vt "function") (topS 35) "_law_is" "_law_is" 3 vn vn vn (vs "law_readround_k18_feasts_refused" 720) none (vr 433) vn
def o435 : Obj := ob_tu []
def o436 : Obj := ob_fi vn []
def o437 : Obj := ob_fu vn (topS 36) "_law_row_is" "_law_row_is" 0 vn vn vn vn none vn vn
def o438 : Obj := ob_co [(vs "_law_row_is" 764), (vs "_law_row_is" 765), (vs "/claim/cut.py" 766), (vi 200 0), (vi 2 0), (vi 0 0), (vi 0 0), (vi 3 0), (vr 435), (.bool true), (vi 181 0), (vr 436), vn, vn, vn, (vr 437), (vi 767 0), (vi 200 0), (vs "/claim/cut.py" 768)]
def o439 : Obj := ob_fu (vt "function") (topS 36) "_law_row_is" "_law_row_is" 3 vn vn vn (vs "law_readround_k18_feasts_refused" 720) none (vr 438) vn
def o440 : Obj := ob_tu []
def o441 : Obj := ob_fi vn []
def o442 : Obj := ob_tu [(vs "_law_found" 773), (vs "_law_due" 774)]
def o443 : Obj := ob_tu []
def o444 : Obj := ob_fu vn (topS 37) "_law_told_is" "_law_told_is" 0 vn vn vn vn none vn vn
def o445 : Obj := ob_co [(vs "_law_told_is" 770), (vs "_law_told_is" 771), (vs "/claim/cut.py" 772), (vi 206 0), (vi 2 0), (vi 0 0), (vi 0 0), (vi 3 0), (vr 440), (.bool true), (vi 181 0), (vr 441), vn, (vr 442), (vr 443), (vr 444), (vi 775 0), (vi 206 0), (vs "/claim/cut.py" 776)]
def o446 : Obj := ob_fu (vt "function") (topS 37) "_law_told_is" "_law_told_is" 3 vn vn vn (vs "law_readround_k18_feasts_refused" 720) none (vr 445) vn
def o447 : Obj := ob_tu []
def o448 : Obj := ob_fi vn []
def o449 : Obj := ob_fu vn (topS 38) "_law_name" "_law_name" 0 vn vn vn vn none vn vn
def o450 : Obj := ob_co [(vs "_law_name" 778), (vs "_law_name" 779), (vs "/claim/cut.py" 780), (vi 214 0), (vi 1 0), (vi 0 0), (vi 0 0), (vi 3 0), (vr 447), (.bool true), (vi 181 0), (vr 448), vn, vn, vn, (vr 449), (vi 781 0), (vi 214 0), (vs "/claim/cut.py" 782)]
def o451 : Obj := ob_fu (vt "function") (topS 38) "_law_name" "_law_name" 3 vn vn vn (vs "law_readround_k18_feasts_refused" 720) none (vr 450) vn
def o452 : Obj := ob_tu []
def o453 : Obj := ob_fi vn []
def o454 : Obj := ob_fu vn (topS 39) "_law_kept" "_law_kept" 0 vn vn vn vn none vn vn
def o455 : Obj := ob_co [(vs "_law_kept" 784), (vs "_law_kept" 785), (vs "/claim/cut.py" 786), (vi 221 0), (vi 1 0), (vi 0 0), (vi 0 0), (vi 3 0), (vr 452), (.bool true), (vi 181 0), (vr 453), vn, vn, vn, (vr 454), (vi 787 0), (vi 221 0), (vs "/claim/cut.py" 788)]
def o456 : Obj := ob_fu (vt "function") (topS 39) "_law_kept" "_law_kept" 3 vn vn vn (vs "law_readround_k18_feasts_refused" 720) none (vr 455) vn
def o457 : Obj := ob_tu []
def o458 : Obj := ob_fi vn []
def o459 : Obj := ob_fu vn (topS 40) "_law_acts" "_law_acts" 0 vn vn vn vn none vn vn
def o460 : Obj := ob_co [(vs "_law_acts" 790), (vs "_law_acts" 791), (vs "/claim/cut.py" 792), (vi 229 0), (vi 1 0), (vi 0 0), (vi 0 0), (vi 3 0), (vr 457), (.bool true), (vi 181 0), (vr 458), vn, vn, vn, (vr 459), (vi 793 0), (vi 229 0), (vs "/claim/cut.py" 794)]
def o461 : Obj := ob_fu (vt "function") (topS 40) "_law_acts" "_law_acts" 3 vn vn vn (vs "law_readround_k18_feasts_refused" 720) none (vr 460) vn
def o462 : Obj := ob_tu []
def o463 : Obj := ob_fi vn []
def o464 : Obj := ob_tu [(vs "_law_hold" 799), (vs "_law_way" 800), (vs "_law_far_here" 801), (vs "_law_near" 802), (vs "_law_spot" 803), (vs "_law_lasts" 804)]
def o465 : Obj := ob_tu []
def o466 : Obj := ob_fu vn (topS 41) "_law_feast" "_law_feast" 0 vn vn vn vn none vn vn
def o467 : Obj := ob_co [(vs "_law_feast" 796), (vs "_law_feast" 797), (vs "/claim/cut.py" 798), (vi 236 0), (vi 1 0), (vi 0 0), (vi 0 0), (vi 3 0), (vr 462), (.bool true), (vi 181 0), (vr 463), vn, (vr 464), (vr 465), (vr 466), (vi 805 0), (vi 236 0), (vs "/claim/cut.py" 806)]
def o468 : Obj := ob_fu (vt "function") (topS 41) "_law_feast" "_law_feast" 3 vn vn vn (vs "law_readround_k18_feasts_refused" 720) none (vr 467) vn
def o469 : Obj := ob_tu []
def o470 : Obj := ob_fi vn []
def o471 : Obj := ob_fu vn (topS 42) "_law_bad_years" "_law_bad_years" 0 vn vn vn vn none vn vn
def o472 : Obj := ob_co [(vs "_law_bad_years" 808), (vs "_law_bad_years" 809), (vs "/claim/cut.py" 810), (vi 242 0), (vi 1 0), (vi 0 0), (vi 0 0), (vi 3 0), (vr 469), (.bool true), (vi 181 0), (vr 470), vn, vn, vn, (vr 471), (vi 811 0), (vi 242 0), (vs "/claim/cut.py" 812)]
def o473 : Obj := ob_fu (vt "function") (topS 42) "_law_bad_years" "_law_bad_years" 3 vn vn vn (vs "law_readround_k18_feasts_refused" 720) none (vr 472) vn
def o474 : Obj := ob_tu []
def o475 : Obj := ob_fi vn []
def o476 : Obj := ob_tu [(vs "_law_hold" 817), (vs "_law_way" 818), (vs "_law_good" 819), (vs "_law_spot" 820), (vs "_law_sign" 821)]
def o477 : Obj := ob_tu []
def o478 : Obj := ob_fu vn (topS 43) "_law_bad_name" "_law_bad_name" 0 vn vn vn vn none vn vn
def o479 : Obj := ob_co [(vs "_law_bad_name" 814), (vs "_law_bad_name" 815), (vs "/claim/cut.py" 816), (vi 264 0), (vi 1 0), (vi 0 0), (vi 0 0), (vi 3 0), (vr 474), (.bool true), (vi 181 0), (vr 475), vn, (vr 476), (vr 477), (vr 478), (vi 822 0), (vi 264 0), (vs "/claim/cut.py" 823)]
def o480 : Obj := ob_fu (vt "function") (topS 43) "_law_bad_name" "_law_bad_name" 3 vn vn vn (vs "law_readround_k18_feasts_refused" 720) none (vr 479) vn
def o481 : Obj := ob_tu []
def o482 : Obj := ob_fi vn []
def o483 : Obj := ob_tu [(vs "_law_hold" 828), (vs "_law_way" 829), (vs "_law_good" 830), (vs "_law_spot" 831), (vs "_law_word" 832), (vs "_law_sort" 833)]
def o484 : Obj := ob_tu []
def o485 : Obj := ob_fu vn (topS 44) "_law_bad_puts" "_law_bad_puts" 0 vn vn vn vn none vn vn
def o486 : Obj := ob_co [(vs "_law_bad_puts" 825), (vs "_law_bad_puts" 826), (vs "/claim/cut.py" 827), (vi 276 0), (vi 1 0), (vi 0 0), (vi 0 0), (vi 3 0), (vr 481), (.bool true), (vi 181 0), (vr 482), vn, (vr 483), (vr 484), (vr 485), (vi 834 0), (vi 276 0), (vs "/claim/cut.py" 835)]
def o487 : Obj := ob_fu (vt "function") (topS 44) "_law_bad_puts" "_law_bad_puts" 3 vn vn vn (vs "law_readround_k18_feasts_refused" 720) none (vr 486) vn
def o488 : Obj := ob_tu []
def o489 : Obj := ob_fi vn []
def o490 : Obj := ob_tu [(vs "_law_some" 840), (vs "_law_which" 841), (vs "_law_hold" 842), (vs "_law_way" 843)]
def o491 : Obj := ob_tu []
def o492 : Obj := ob_fu vn (topS 45) "_law_spoil" "_law_spoil" 0 vn vn vn vn none vn vn
def o493 : Obj := ob_co [(vs "_law_spoil" 837), (vs "_law_spoil" 838), (vs "/claim/cut.py" 839), (vi 298 0), (vi 3 0), (vi 0 0), (vi 0 0), (vi 3 0), (vr 488), (.bool true), (vi 181 0), (vr 489), vn, (vr 490), (vr 491), (vr 492), (vi 844 0), (vi 298 0), (vs "/claim/cut.py" 845)]
def o494 : Obj := ob_fu (vt "function") (topS 45) "_law_spoil" "_law_spoil" 3 vn vn vn (vs "law_readround_k18_feasts_refused" 720) none (vr 493) vn
def o495 : Obj := ob_tu []
def o496 : Obj := ob_fi vn []
def o497 : Obj := ob_tu [(vs "_law_some" 850), (vs "_law_told" 851), (vs "e" 852)]
def o498 : Obj := ob_tu []
def o499 : Obj := ob_fu vn (topS 46) "_law_bad" "_law_bad" 0 vn vn vn vn none vn vn
def o500 : Obj := ob_co [(vs "_law_bad" 847), (vs "_law_bad" 848), (vs "/claim/cut.py" 849), (vi 310 0), (vi 1 0), (vi 0 0), (vi 0 0), (vi 3 0), (vr 495), (.bool true), (vi 181 0), (vr 496), vn, (vr 497), (vr 498), (vr 499), (vi 853 0), (vi 310 0), (vs "/claim/cut.py" 854)]
def o501 : Obj := ob_fu (vt "function") (topS 46) "_law_bad" "_law_bad" 3 vn vn vn (vs "law_readround_k18_feasts_refused" 720) none (vr 500) vn
def o502 : Obj := ob_tu []
def o503 : Obj := ob_fi vn []
def o504 : Obj := ob_tu [(vs "_law_feast_here" 859), (vs "_law_calendar" 860), (vs "_law_door" 861), (vs "_law_number" 862), (vs "_law_told" 863), (vs "e" 864)]
def o505 : Obj := ob_tu []
def o506 : Obj := ob_fu vn (topS 47) "_law_asked" "_law_asked" 0 vn vn vn vn none vn vn
def o507 : Obj := ob_co [(vs "_law_asked" 856), (vs "_law_asked" 857), (vs "/claim/cut.py" 858), (vi 320 0), (vi 4 0), (vi 0 0), (vi 0 0), (vi 3 0), (vr 502), (.bool true), (vi 181 0), (vr 503), vn, (vr 504), (vr 505), (vr 506), (vi 865 0), (vi 320 0), (vs "/claim/cut.py" 866)]
def o508 : Obj := ob_fu (vt "function") (topS 47) "_law_asked" "_law_asked" 3 vn vn vn (vs "law_readround_k18_feasts_refused" 720) none (vr 507) vn
def o509 : Obj := ob_tu []
def o510 : Obj := ob_fi vn []
def o511 : Obj := ob_tu [(vs "_law_script" 871), (vs "_law_hold" 872), (vs "_law_due" 873), (vs "_law_k" 874), (vs "_law_some" 875), (vs "_law_which" 876), (vs "_law_other" 877), (vs "_law_feast_here" 878), (vs "_law_calendar" 879), (vs "_law_door" 880)]
def o512 : Obj := ob_tu []
def o513 : Obj := ob_fu vn (topS 48) "law" "law" 0 vn vn vn vn none vn vn
def o514 : Obj := ob_co [(vs "law" 868), (vs "law" 869), (vs "/claim/cut.py" 870), (vi 337 0), (vi 1 0), (vi 0 0), (vi 0 0), (vi 3 0), (vr 509), (.bool true), (vi 181 0), (vr 510), vn, (vr 511), (vr 512), (vr 513), (vi 881 0), (vi 337 0), (vs "/claim/cut.py" 882)]
def o515 : Obj := ob_fu (vt "function") (topS 48) "law" "law" 3 vn vn vn (vs "law_readround_k18_feasts_refused" 720) none (vr 514) vn
def TB (P : Params) : BT := (bn (boot_o_0 P) (bn (boot_o_1 P) (bn (boot_o_3 P) (bn (boot_o_7 P) bz bz) bz) (bn (boot_o_5 P) (bn (boot_o_9 P) bz bz) bz)) (bn (boot_o_2 P) (bn (boot_o_4 P) (bn (boot_o_8 P) bz bz) bz) (bn (boot_o_6 P) (bn (boot_o_10 P) bz bz) bz)))
def T0 (P : Params) : BT := (bn (boot_o_0 P) (bn (boot_o_1 P) (bn (boot_o_3 P) (bn (boot_o_7 P) bz bz) (bn o11 bz bz)) (bn (boot_o_5 P) (bn (boot_o_9 P) bz bz) (bn o13 bz bz))) (bn (boot_o_2 P) (bn (boot_o_4 P) (bn (boot_o_8 P) bz bz) (bn o12 bz bz)) (bn (boot_o_6 P) (bn (boot_o_10 P) bz bz) (bn o14 bz bz))))
abbrev T1 : Params → BT := T0
def T2 (P : Params) : BT := (bn (boot_o_0 P) (bn (boot_o_1 P) (bn (o3 P) (bn (boot_o_7 P) (bn o15 (bn o31 (bn o63 bz bz) (bn o95 bz bz)) (bn o47 (bn (o79 P) bz bz) bz)) (bn o23 (bn o39 (bn o71 bz bz) (bn (o103 P) bz bz)) (bn (o55 P) (bn o87 bz bz) bz))) (bn o11 (bn o19 (bn o35 (bn (o67 P) bz bz) (bn o99 bz bz)) (bn o51 (bn o83 bz bz) bz)) (bn o27 (bn (o43 P) (bn o75 bz bz) bz) (bn o59 (bn (o91 P) bz bz) bz)))) (bn (boot_o_5 P) (bn (boot_o_9 P) (bn o17 (bn o33 (bn o65 bz bz) (bn (o97 P) bz bz)) (bn (o49 P) (bn o81 bz bz) bz)) (bn o25 (bn o41 (bn (o73 P) bz bz) (bn o105 bz bz)) (bn o57 (bn o89 bz bz) bz))) (bn o13 (bn o21 (bn (o37 P) (bn o69 bz bz) (bn o101 bz bz)) (bn o53 (bn (o85 P) bz bz) bz)) (bn o29 (bn o45 (bn o77 bz bz) bz) (bn (o61 P) (bn o93 bz bz) bz))))) (bn (boot_o_2 P) (bn (boot_o_4 P) (bn (boot_o_8 P) (bn o16 (bn o32 (bn o64 bz bz) (bn o96 bz bz)) (bn o48 (bn o80 bz bz) bz)) (bn (o24 P) (bn o40 (bn o72 bz bz) (bn o104 bz bz)) (bn o56 (bn o88 bz bz) bz))) (bn o12_1 (bn o20 (bn o36 (bn o68 bz bz) (bn o100 bz bz)) (bn o52 (bn o84 bz bz) bz)) (bn o28 (bn o44 (bn o76 bz bz) bz) (bn o60 (bn o92 bz bz) bz)))) (bn (boot_o_6 P) (bn (boot_o_10 P) (bn o18 (bn o34 (bn o66 bz bz) (bn o98 bz bz)) (bn o50 (bn o82 bz bz) bz)) (bn o26 (bn o42 (bn o74 bz bz) (bn o106 bz bz)) (bn o58 (bn o90 bz bz) bz))) (bn o14 (bn o22 (bn o38 (bn o70 bz bz) (bn o102 bz bz)) (bn o54 (bn o86 bz bz) bz)) (bn (o30 P) (bn o46 (bn o78 bz bz) bz) (bn o62 (bn o94 bz bz) bz))))))
def T3 (P : Params) : BT := (bn (boot_o_0 P) (bn (boot_o_1 P) (bn (o3_1 P) (bn (boot_o_7 P) (bn o15 (bn o31_1 (bn o63 (bn (o127 P) bz bz) (bn o191 bz bz)) (bn o95 (bn o159 bz bz) bz)) (bn o47 (bn (o79 P) (bn o143 bz bz) bz) (bn o111 (bn o175 bz bz) bz))) (bn o23 (bn o39 (bn o71 (bn o135 bz bz) (bn o199 bz bz)) (bn (o103 P) (bn o167 bz bz) bz)) (bn (o55 P) (bn o87 (bn o151 bz bz) bz) (bn o119 (bn (o183 P) bz bz) bz)))) (bn o11 (bn o19 (bn o35 (bn (o67 P) (bn o131 bz bz) (bn (o195 P) bz bz)) (bn o99 (bn o163 bz bz) bz)) (bn o51 (bn o83 (bn o147 bz bz) bz) (bn (o115 P) (bn o179 bz bz) bz))) (bn o27 (bn (o43 P) (bn o75 (bn (o139 P) bz bz) (bn o203 bz bz)) (bn o107 (bn o171 bz bz) bz)) (bn o59 (bn (o91 P) (bn o155 bz bz) bz) (bn o123 (bn o187 bz bz) bz))))) (bn (boot_o_5 P) (bn (boot_o_9 P) (bn o17 (bn o33 (bn o65 (bn o129 bz bz) (bn o193 bz bz)) (bn (o97 P) (bn o161 bz bz) bz)) (bn (o49 P) (bn o81 (bn (o145 P) bz bz) bz) (bn o113 (bn (o177 P) bz bz) bz))) (bn o25 (bn o41 (bn (o73 P) (bn o137 bz bz) (bn (o201 P) bz bz)) (bn o105 (bn o169 bz bz) bz)) (bn o57 (bn o89 (bn o153 bz bz) bz) (bn (o121 P) (bn o185 bz bz) bz)))) (bn o13 (bn o21 (bn (o37 P) (bn o69 (bn (o133 P) bz bz) (bn o197 bz bz)) (bn o101 (bn o165 bz bz) bz)) (bn o53 (bn (o85 P) (bn o149 bz bz) bz) (bn o117 (bn o181 bz bz) bz))) (bn o29 (bn o45 (bn o77 (bn o141 bz bz) bz) (bn (o109 P) (bn o173 bz bz) bz)) (bn (o61 P) (bn o93 (bn o157 bz bz) bz) (bn o125 (bn (o189 P) bz bz) bz)))))) (bn (boot_o_2 P) (bn (boot_o_4 P) (bn (boot_o_8 P) (bn o16 (bn o32 (bn o64 (bn o128 bz bz) (bn o192 bz bz)) (bn o96 (bn o160 bz bz) bz)) (bn o48 (bn o80 (bn o144 bz bz) bz) (bn o112 (bn o176 bz bz) bz))) (bn (o24 P) (bn o40 (bn o72 (bn o136 bz bz) (bn o200 bz bz)) (bn o104 (bn o168 bz bz) bz)) (bn o56 (bn o88 (bn o152 bz bz) bz) (bn o120 (bn o184 bz bz) bz)))) (bn o12_2 (bn o20 (bn o36 (bn o68 (bn o132 bz bz) (bn o196 bz bz)) (bn o100 (bn (o164 P) bz bz) bz)) (bn o52 (bn o84 (bn o148 bz bz) bz) (bn o116 (bn o180 bz bz) bz))) (bn o28 (bn o44 (bn o76 (bn o140 bz bz) (bn o204 bz bz)) (bn o108 (bn o172 bz bz) bz)) (bn o60 (bn o92 (bn o156 bz bz) bz) (bn o124 (bn o188 bz bz) bz))))) (bn (boot_o_6 P) (bn (boot_o_10 P) (bn o18 (bn o34 (bn o66 (bn o130 bz bz) (bn o194 bz bz)) (bn o98 (bn o162 bz bz) bz)) (bn o50 (bn o82 (bn o146 bz bz) bz) (bn o114 (bn o178 bz bz) bz))) (bn o26 (bn o42 (bn o74 (bn o138 bz bz) (bn o202 bz bz)) (bn o106 (bn o170 bz bz) bz)) (bn o58 (bn o90 (bn o154 bz bz) bz) (bn o122 (bn o186 bz bz) bz)))) (bn o14 (bn o22 (bn o38 (bn o70 (bn o134 bz bz) (bn o198 bz bz)) (bn o102 (bn o166 bz bz) bz)) (bn o54 (bn o86 (bn o150 bz bz) bz) (bn o118 (bn o182 bz bz) bz))) (bn (o30 P) (bn o46 (bn o78 (bn o142 bz bz) bz) (bn o110 (bn o174 bz bz) bz)) (bn o62 (bn o94 (bn (o158 P) bz bz) bz) (bn o126 (bn o190 bz bz) bz)))))))
def T4 (P : Params) : BT := (bn (boot_o_0 P) (bn (boot_o_1 P) (bn (o3_2 P) (bn (boot_o_7 P) (bn o15 (bn o31_2 (bn o63 (bn (o127 P) (bn o255 bz bz) (bn o383 bz bz)) (bn o191 (bn o319 bz bz) bz)) (bn o95 (bn o159 (bn o287 bz bz) (bn o415 bz bz)) (bn o223 (bn o351 bz bz) bz))) (bn o47 (bn (o79 P) (bn o143 (bn o271 bz bz) (bn o399 bz bz)) (bn (o207 P) (bn o335 bz bz) bz)) (bn o111 (bn o175 (bn (o303 P) bz bz) bz) (bn o239 (bn o367 bz bz) bz)))) (bn o23 (bn o39 (bn o71 (bn o135 (bn o263 bz bz) (bn o391 bz bz)) (bn o199 (bn o327 bz bz) bz)) (bn (o103 P) (bn o167 (bn o295 bz bz) bz) (bn o231 (bn o359 bz bz) bz))) (bn (o55 P) (bn o87 (bn o151 (bn o279 bz bz) (bn o407 bz bz)) (bn o215 (bn o343 bz bz) bz)) (bn o119 (bn (o183 P) (bn o311 bz bz) bz) (bn o247 (bn o375 bz bz) bz))))) (bn o11 (bn o19 (bn o35 (bn (o67 P) (bn o131 (bn o259 bz bz) (bn o387 bz bz)) (bn (o195 P) (bn o323 bz bz) bz)) (bn o99 (bn o163 (bn o291 bz bz) (bn o419 bz bz)) (bn o227 (bn o355 bz bz) bz))) (bn o51 (bn o83 (bn o147 (bn o275 bz bz) (bn o403 bz bz)) (bn o211 (bn o339 bz bz) bz)) (bn (o115 P) (bn o179 (bn o307 bz bz) bz) (bn o243 (bn o371 bz bz) bz)))) (bn o27 (bn (o43 P) (bn o75 (bn (o139 P) (bn o267 bz bz) (bn o395 bz bz)) (bn o203 (bn o331 bz bz) bz)) (bn o107 (bn o171 (bn o299 bz bz) bz) (bn o235 (bn o363 bz bz) bz))) (bn o59 (bn (o91 P) (bn o155 (bn o283 bz bz) (bn o411 bz bz)) (bn o219 (bn o347 bz bz) bz)) (bn o123 (bn o187 (bn o315 bz bz) bz) (bn o251 (bn o379 bz bz) bz)))))) (bn (boot_o_5 P) (bn (boot_o_9 P) (bn o17 (bn o33 (bn o65 (bn o129 (bn o257 bz bz) (bn o385 bz bz)) (bn o193 (bn o321 bz bz) bz)) (bn (o97 P) (bn o161 (bn o289 bz bz) (bn o417 bz bz)) (bn o225 (bn o353 bz bz) bz))) (bn (o49 P) (bn o81 (bn (o145 P) (bn o273 bz bz) (bn o401 bz bz)) (bn o209 (bn o337 bz bz) bz)) (bn o113 (bn (o177 P) (bn o305 bz bz) bz) (bn o241 (bn o369 bz bz) bz)))) (bn o25 (bn o41 (bn (o73 P) (bn o137 (bn o265 bz bz) (bn o393 bz bz)) (bn (o201 P) (bn o329 bz bz) bz)) (bn o105 (bn o169 (bn o297 bz bz) bz) (bn o233 (bn o361 bz bz) bz))) (bn o57 (bn o89 (bn o153 (bn o281 bz bz) (bn o409 bz bz)) (bn o217 (bn o345 bz bz) bz)) (bn (o121 P) (bn o185 (bn o313 bz bz) bz) (bn o249 (bn o377 bz bz) bz))))) (bn o13 (bn o21 (bn (o37 P) (bn o69 (bn (o133 P) (bn o261 bz bz) (bn o389 bz bz)) (bn o197 (bn o325 bz bz) bz)) (bn o101 (bn o165 (bn o293 bz bz) (bn o421 bz bz)) (bn o229 (bn o357 bz bz) bz))) (bn o53 (bn (o85 P) (bn o149 (bn o277 bz bz) (bn o405 bz bz)) (bn o213 (bn o341 bz bz) bz)) (bn o117 (bn o181 (bn o309 bz bz) bz) (bn o245 (bn o373 bz bz) bz)))) (bn o29 (bn o45 (bn o77 (bn o141 (bn o269 bz bz) (bn o397 bz bz)) (bn o205 (bn o333 bz bz) bz)) (bn (o109 P) (bn o173 (bn o301 bz bz) bz) (bn o237 (bn o365 bz bz) bz))) (bn (o61 P) (bn o93 (bn o157 (bn o285 bz bz) (bn o413 bz bz)) (bn o221 (bn o349 bz bz) bz)) (bn o125 (bn (o189 P) (bn o317 bz bz) bz) (bn o253 (bn o381 bz bz) bz))))))) (bn (boot_o_2 P) (bn (boot_o_4 P) (bn (boot_o_8 P) (bn o16 (bn o32 (bn o64 (bn o128 (bn o256 bz bz) (bn o384 bz bz)) (bn o192 (bn o320 bz bz) bz)) (bn o96 (bn o160 (bn o288 bz bz) (bn o416 bz bz)) (bn o224 (bn o352 bz bz) bz))) (bn o48 (bn o80 (bn o144 (bn o272 bz bz) (bn o400 bz bz)) (bn o208 (bn o336 bz bz) bz)) (bn o112 (bn o176 (bn o304 bz bz) bz) (bn o240 (bn o368 bz bz) bz)))) (bn (o24 P) (bn o40 (bn o72 (bn o136 (bn o264 bz bz) (bn o392 bz bz)) (bn o200 (bn (o328 P) bz bz) bz)) (bn o104 (bn o168 (bn o296 bz bz) bz) (bn o232 (bn o360 bz bz) bz))) (bn o56 (bn o88 (bn o152 (bn o280 bz bz) (bn o408 bz bz)) (bn o216 (bn o344 bz bz) bz)) (bn o120 (bn o184 (bn o312 bz bz) bz) (bn o248 (bn o376 bz bz) bz))))) (bn o12_3 (bn o20 (bn o36 (bn o68 (bn o132 (bn o260 bz bz) (bn o388 bz bz)) (bn o196 (bn o324 bz bz) bz)) (bn o100 (bn (o164 P) (bn o292 bz bz) (bn o420 bz bz)) (bn o228 (bn o356 bz bz) bz))) (bn o52 (bn o84 (bn o148 (bn o276 bz bz) (bn o404 bz bz)) (bn o212 (bn o340 bz bz) bz)) (bn o116 (bn o180 (bn o308 bz bz) bz) (bn o244 (bn o372 bz bz) bz)))) (bn o28 (bn o44 (bn o76 (bn o140 (bn o268 bz bz) (bn (o396 P) bz bz)) (bn o204 (bn o332 bz bz) bz)) (bn o108 (bn o172 (bn o300 bz bz) bz) (bn o236 (bn o364 bz bz) bz))) (bn o60 (bn o92 (bn o156 (bn o284 bz bz) (bn o412 bz bz)) (bn (o220 P) (bn o348 bz bz) bz)) (bn o124 (bn o188 (bn o316 bz bz) bz) (bn o252 (bn o380 bz bz) bz)))))) (bn (boot_o_6 P) (bn (boot_o_10 P) (bn o18 (bn o34 (bn o66 (bn o130 (bn o258 bz bz) (bn o386 bz bz)) (bn o194 (bn o322 bz bz) bz)) (bn o98 (bn o162 (bn o290 bz bz) (bn o418 bz bz)) (bn o226 (bn o354 bz bz) bz))) (bn o50 (bn o82 (bn o146 (bn o274 bz bz) (bn o402 bz bz)) (bn o210 (bn o338 bz bz) bz)) (bn o114 (bn o178 (bn o306 bz bz) bz) (bn o242 (bn o370 bz bz) bz)))) (bn o26 (bn o42 (bn o74 (bn o138 (bn o266 bz bz) (bn o394 bz bz)) (bn o202 (bn o330 bz bz) bz)) (bn o106 (bn o170 (bn o298 bz bz) bz) (bn o234 (bn o362 bz bz) bz))) (bn o58 (bn o90 (bn o154 (bn o282 bz bz) (bn o410 bz bz)) (bn o218 (bn o346 bz bz) bz)) (bn o122 (bn o186 (bn o314 bz bz) bz) (bn (o250 P) (bn o378 bz bz) bz))))) (bn o14 (bn o22 (bn o38 (bn o70 (bn o134 (bn o262 bz bz) (bn o390 bz bz)) (bn o198 (bn o326 bz bz) bz)) (bn o102 (bn o166 (bn o294 bz bz) (bn o422 bz bz)) (bn o230 (bn o358 bz bz) bz))) (bn o54 (bn o86 (bn o150 (bn o278 bz bz) (bn o406 bz bz)) (bn o214 (bn o342 bz bz) bz)) (bn o118 (bn o182 (bn o310 bz bz) bz) (bn o246 (bn o374 bz bz) bz)))) (bn (o30 P) (bn o46 (bn o78 (bn o142 (bn o270 bz bz) (bn o398 bz bz)) (bn o206 (bn o334 bz bz) bz)) (bn o110 (bn o174 (bn o302 bz bz) bz) (bn o238 (bn o366 bz bz) bz))) (bn o62 (bn o94 (bn (o158 P) (bn o286 bz bz) (bn o414 bz bz)) (bn o222 (bn o350 bz bz) bz)) (bn o126 (bn o190 (bn o318 bz bz) bz) (bn o254 (bn o382 bz bz) bz))))))))
def T5 (P : Params) : BT := (bn (boot_o_0 P) (bn (boot_o_1 P) (bn (o3_3 P) (bn (boot_o_7 P) (bn o15 (bn o31_2 (bn o63 (bn (o127 P) (bn o255 (bn o511 bz bz) bz) (bn o383 bz bz)) (bn o191 (bn o319 bz bz) (bn o447 bz bz))) (bn o95 (bn o159 (bn o287 bz bz) (bn o415 bz bz)) (bn o223 (bn o351 bz bz) (bn o479 bz bz)))) (bn o47 (bn (o79 P) (bn o143 (bn o271 bz bz) (bn o399 bz bz)) (bn (o207 P) (bn o335 bz bz) (bn o463 bz bz))) (bn o111 (bn o175 (bn (o303 P) bz bz) (bn o431 bz bz)) (bn o239 (bn o367 bz bz) (bn o495 bz bz))))) (bn o23 (bn o39 (bn o71 (bn o135 (bn o263 bz bz) (bn o391 bz bz)) (bn o199 (bn o327 bz bz) (bn o455 bz bz))) (bn (o103 P) (bn o167 (bn o295 bz bz) (bn o423 bz bz)) (bn o231 (bn o359 bz bz) (bn o487 bz bz)))) (bn (o55 P) (bn o87 (bn o151 (bn o279 bz bz) (bn o407 bz bz)) (bn o215 (bn o343 bz bz) (bn o471 bz bz))) (bn o119 (bn (o183 P) (bn o311 bz bz) (bn o439 bz bz)) (bn o247 (bn o375 bz bz) (bn o503 bz bz)))))) (bn o11 (bn o19 (bn o35 (bn (o67 P) (bn o131 (bn o259 (bn o515 bz bz) bz) (bn o387 bz bz)) (bn (o195 P) (bn o323 bz bz) (bn o451 bz bz))) (bn o99 (bn o163 (bn o291 bz bz) (bn o419 bz bz)) (bn o227 (bn o355 bz bz) (bn o483 bz bz)))) (bn o51 (bn o83 (bn o147 (bn o275 bz bz) (bn o403 bz bz)) (bn o211 (bn o339 bz bz) (bn o467 bz bz))) (bn (o115 P) (bn o179 (bn o307 bz bz) (bn o435 bz bz)) (bn o243 (bn o371 bz bz) (bn o499 bz bz))))) (bn o27 (bn (o43 P) (bn o75 (bn (o139 P) (bn o267 bz bz) (bn o395 bz bz)) (bn o203 (bn o331 bz bz) (bn o459 bz bz))) (bn o107 (bn o171 (bn o299 bz bz) (bn o427 bz bz)) (bn o235 (bn o363 bz bz) (bn o491 bz bz)))) (bn o59 (bn (o91 P) (bn o155 (bn o283 bz bz) (bn o411 bz bz)) (bn o219 (bn o347 bz bz) (bn o475 bz bz))) (bn o123 (bn o187 (bn o315 bz bz) (bn o443 bz bz)) (bn o251 (bn o379 bz bz) (bn o507 bz bz))))))) (bn (boot_o_5 P) (bn (boot_o_9 P) (bn o17 (bn o33 (bn o65 (bn o129 (bn o257 (bn o513 bz bz) bz) (bn o385 bz bz)) (bn o193 (bn o321 bz bz) (bn o449 bz bz))) (bn (o97 P) (bn o161 (bn o289 bz bz) (bn o417 bz bz)) (bn o225 (bn o353 bz bz) (bn o481 bz bz)))) (bn (o49 P) (bn o81 (bn (o145 P) (bn o273 bz bz) (bn o401 bz bz)) (bn o209 (bn o337 bz bz) (bn o465 bz bz))) (bn o113 (bn (o177 P) (bn o305 bz bz) (bn o433 bz bz)) (bn o241 (bn o369 bz bz) (bn o497 bz bz))))) (bn o25 (bn o41 (bn (o73 P) (bn o137 (bn o265 bz bz) (bn o393 bz bz)) (bn (o201 P) (bn o329 bz bz) (bn o457 bz bz))) (bn o105 (bn o169 (bn o297 bz bz) (bn o425 bz bz)) (bn o233 (bn o361 bz bz) (bn o489 bz bz)))) (bn o57 (bn o89 (bn o153 (bn o281 bz bz) (bn o409 bz bz)) (bn o217 (bn o345 bz bz) (bn o473 bz bz))) (bn (o121 P) (bn o185 (bn o313 bz bz) (bn o441 bz bz)) (bn o249 (bn o377 bz bz) (bn o505 bz bz)))))) (bn o13 (bn o21 (bn (o37 P) (bn o69 (bn (o133 P) (bn o261 bz bz) (bn o389 bz bz)) (bn o197 (bn o325 bz bz) (bn o453 bz bz))) (bn o101 (bn o165 (bn o293 bz bz) (bn o421 bz bz)) (bn o229 (bn o357 bz bz) (bn o485 bz bz)))) (bn o53 (bn (o85 P) (bn o149 (bn o277 bz bz) (bn o405 bz bz)) (bn o213 (bn o341 bz bz) (bn o469 bz bz))) (bn o117 (bn o181 (bn o309 bz bz) (bn o437 bz bz)) (bn o245 (bn o373 bz bz) (bn o501 bz bz))))) (bn o29 (bn o45 (bn o77 (bn o141 (bn o269 bz bz) (bn o397 bz bz)) (bn o205 (bn o333 bz bz) (bn o461 bz bz))) (bn (o109 P) (bn o173 (bn o301 bz bz) (bn o429 bz bz)) (bn o237 (bn o365 bz bz) (bn o493 bz bz)))) (bn (o61 P) (bn o93 (bn o157 (bn o285 bz bz) (bn o413 bz bz)) (bn o221 (bn o349 bz bz) (bn o477 bz bz))) (bn o125 (bn (o189 P) (bn o317 bz bz) (bn o445 bz bz)) (bn o253 (bn o381 bz bz) (bn o509 bz bz)))))))) (bn (boot_o_2 P) (bn (boot_o_4 P) (bn (boot_o_8 P) (bn o16 (bn o32 (bn o64 (bn o128 (bn o256 (bn o512 bz bz) bz) (bn o384 bz bz)) (bn o192 (bn o320 bz bz) (bn o448 bz bz))) (bn o96 (bn o160 (bn o288 bz bz) (bn o416 bz bz)) (bn o224 (bn o352 bz bz) (bn o480 bz bz)))) (bn o48 (bn o80 (bn o144 (bn o272 bz bz) (bn o400 bz bz)) (bn o208 (bn o336 bz bz) (bn o464 bz bz))) (bn o112 (bn o176 (bn o304 bz bz) (bn o432 bz bz)) (bn o240 (bn o368 bz bz) (bn o496 bz bz))))) (bn (o24 P) (bn o40 (bn o72 (bn o136 (bn o264 bz bz) (bn o392 bz bz)) (bn o200 (bn (o328 P) bz bz) (bn o456 bz bz))) (bn o104 (bn o168 (bn o296 bz bz) (bn o424 bz bz)) (bn o232 (bn o360 bz bz) (bn o488 bz bz)))) (bn o56 (bn o88 (bn o152 (bn o280 bz bz) (bn o408 bz bz)) (bn o216 (bn o344 bz bz) (bn o472 bz bz))) (bn o120 (bn o184 (bn o312 bz bz) (bn o440 bz bz)) (bn o248 (bn o376 bz bz) (bn o504 bz bz)))))) (bn o12_4 (bn o20 (bn o36 (bn o68 (bn o132 (bn o260 bz bz) (bn o388 bz bz)) (bn o196 (bn o324 bz bz) (bn o452 bz bz))) (bn o100 (bn (o164 P) (bn o292 bz bz) (bn o420 bz bz)) (bn o228 (bn o356 bz bz) (bn o484 bz bz)))) (bn o52 (bn o84 (bn o148 (bn o276 bz bz) (bn o404 bz bz)) (bn o212 (bn o340 bz bz) (bn o468 bz bz))) (bn o116 (bn o180 (bn o308 bz bz) (bn o436 bz bz)) (bn o244 (bn o372 bz bz) (bn o500 bz bz))))) (bn o28 (bn o44 (bn o76 (bn o140 (bn o268 bz bz) (bn (o396 P) bz bz)) (bn o204 (bn o332 bz bz) (bn o460 bz bz))) (bn o108 (bn o172 (bn o300 bz bz) (bn o428 bz bz)) (bn o236 (bn o364 bz bz) (bn o492 bz bz)))) (bn o60 (bn o92 (bn o156 (bn o284 bz bz) (bn o412 bz bz)) (bn (o220 P) (bn o348 bz bz) (bn o476 bz bz))) (bn o124 (bn o188 (bn o316 bz bz) (bn o444 bz bz)) (bn o252 (bn o380 bz bz) (bn o508 bz bz))))))) (bn (boot_o_6 P) (bn (boot_o_10 P) (bn o18 (bn o34 (bn o66 (bn o130 (bn o258 (bn o514 bz bz) bz) (bn o386 bz bz)) (bn o194 (bn o322 bz bz) (bn o450 bz bz))) (bn o98 (bn o162 (bn o290 bz bz) (bn o418 bz bz)) (bn o226 (bn o354 bz bz) (bn o482 bz bz)))) (bn o50 (bn o82 (bn o146 (bn o274 bz bz) (bn o402 bz bz)) (bn o210 (bn o338 bz bz) (bn o466 bz bz))) (bn o114 (bn o178 (bn o306 bz bz) (bn o434 bz bz)) (bn o242 (bn o370 bz bz) (bn o498 bz bz))))) (bn o26 (bn o42 (bn o74 (bn o138 (bn o266 bz bz) (bn o394 bz bz)) (bn o202 (bn o330 bz bz) (bn o458 bz bz))) (bn o106 (bn o170 (bn o298 bz bz) (bn o426 bz bz)) (bn o234 (bn o362 bz bz) (bn o490 bz bz)))) (bn o58 (bn o90 (bn o154 (bn o282 bz bz) (bn o410 bz bz)) (bn o218 (bn o346 bz bz) (bn o474 bz bz))) (bn o122 (bn o186 (bn o314 bz bz) (bn o442 bz bz)) (bn (o250 P) (bn o378 bz bz) (bn o506 bz bz)))))) (bn o14 (bn o22 (bn o38 (bn o70 (bn o134 (bn o262 bz bz) (bn o390 bz bz)) (bn o198 (bn o326 bz bz) (bn o454 bz bz))) (bn o102 (bn o166 (bn o294 bz bz) (bn o422 bz bz)) (bn o230 (bn o358 bz bz) (bn o486 bz bz)))) (bn o54 (bn o86 (bn o150 (bn o278 bz bz) (bn o406 bz bz)) (bn o214 (bn o342 bz bz) (bn o470 bz bz))) (bn o118 (bn o182 (bn o310 bz bz) (bn o438 bz bz)) (bn o246 (bn o374 bz bz) (bn o502 bz bz))))) (bn (o30 P) (bn o46 (bn o78 (bn o142 (bn o270 bz bz) (bn o398 bz bz)) (bn o206 (bn o334 bz bz) (bn o462 bz bz))) (bn o110 (bn o174 (bn o302 bz bz) (bn o430 bz bz)) (bn o238 (bn o366 bz bz) (bn o494 bz bz)))) (bn o62 (bn o94 (bn (o158 P) (bn o286 bz bz) (bn o414 bz bz)) (bn o222 (bn o350 bz bz) (bn o478 bz bz))) (bn o126 (bn o190 (bn o318 bz bz) (bn o446 bz bz)) (bn o254 (bn o382 bz bz) (bn o510 bz bz)))))))))
noncomputable abbrev S0 (w : World) (os : OsState) : SharedT := stA' T0 15 187 w os
noncomputable abbrev S1 (w : World) (os : OsState) : SharedT := stA' T1 15 187 w os
noncomputable abbrev S2 (w : World) (os : OsState) : SharedT := stA' T2 107 310 w os
noncomputable abbrev S3 (w : World) (os : OsState) : SharedT := stA' T3 205 444 w os
noncomputable abbrev S4 (w : World) (os : OsState) : SharedT := stA' T4 423 750 w os
noncomputable abbrev S5 (w : World) (os : OsState) : SharedT := stA' T5 516 884 w os
theorem cpB (w : World) : putAll (boot_heap w.params).objs.toList .nil 0 = some (TB w.params, 11) := by kernel_rfl
theorem cpP (w : World) (os : OsState) : stepsF (stQ R.prog w) 11 (bootAnn w) 12 (bootT w os (TB w.params, 11)) (topStub R.prog) = some (S0 w os, ⟨denQ tabQ (cdOf R.prog env0), cdOf R.prog env0, ⟨0, 0, 0, 0⟩, [topFrame ⟨0, 0, 0, 0⟩]⟩) := by kernel_rfl
theorem cpK (w : World) (os : OsState) : pieceF (stQ R.prog w) 11 (bootAnn w) 1 1 (S0 w os) (blockOf (behindTheImports R.prog) env0 (cdOf R.prog env0) ⟨0, 0, 0, 0⟩ [topFrame ⟨0, 0, 0, 0⟩]) = some (.next, S1 w os, cdOf R.prog env0, ⟨0, 0, 0, 0⟩) := by kernel_rfl
set_option maxHeartbeats 0 in
theorem cp1 (w : World) (os : OsState) : pieceF (stQ R.prog w) 11 (bootAnn w) 1 1503 (S1 w os) (piecesOf (((behindTheImports R.prog).drop 0).take 9) env0 (cdOf R.prog env0) ⟨0, 0, 0, 0⟩ [topFrame ⟨0, 0, 0, 0⟩]) = some (.next, S2 w os, cdOf R.prog env0, ⟨17, 0, 18, 8⟩) := by kernel_rfl
set_option maxHeartbeats 0 in
theorem cp2 (w : World) (os : OsState) : pieceF (stQ R.prog w) 11 (bootAnn w) 1 1560 (S2 w os) (piecesOf (((behindTheImports R.prog).drop 9).take 7) env0 (cdOf R.prog env0) ⟨17, 0, 18, 8⟩ [topFrame ⟨0, 0, 0, 0⟩]) = some (.next, S3 w os, cdOf R.prog env0, ⟨39, 0, 40, 8⟩) := by kernel_rfl
set_option maxHeartbeats 0 in
theorem cp3 (w : World) (os : OsState) : pieceF (stQ R.prog w) 11 (bootAnn w) 1 1503 (S3 w os) (piecesOf (((behindTheImports R.prog).drop 16).take 18) env0 (cdOf R.prog env0) ⟨39, 0, 40, 8⟩ [topFrame ⟨0, 0, 0, 0⟩]) = some (.next, S4 w os, cdOf R.prog env0, ⟨190, 0, 191, 56⟩) := by kernel_rfl
set_option maxHeartbeats 0 in
theorem cp4 (w : World) (os : OsState) : pieceF (stQ R.prog w) 11 (bootAnn w) 1 453 (S4 w os) (piecesOf (((behindTheImports R.prog).drop 34).take 15) env0 (cdOf R.prog env0) ⟨190, 0, 191, 56⟩ [topFrame ⟨0, 0, 0, 0⟩]) = some (.next, S5 w os, cdOf R.prog env0, ⟨337, 0, 356, 15⟩) := by kernel_rfl
theorem cpL (w : World) (os : OsState) : goF (stQ R.prog w) 11 (bootAnn w) 5 (S5 w os) ⟨doneF .next, cdOf R.prog env0, ⟨337, 0, 356, 15⟩, [topFrame ⟨0, 0, 0, 0⟩]⟩ = some (S5 w os) := by kernel_rfl
noncomputable abbrev SE (w : World) (os : OsState) : SharedT := S5 w os
set_option maxHeartbeats 0 in
theorem cpTop (w : World) (os : OsState) : topRun treeTable R.prog w (boot_heap w.params).objs.size (bootAnn w) 100000 ⟨boot_heap w.params, #[], boot_drawn, boot_toks, os⟩ (topStub R.prog) = some (SE w os).abs :=
  cp_mono (N := 5037) rfl (cp_boot (cpB w) (cp_pre (cpP w os) (cp_block (cpK w os) (cp_piece (cp1 w os) (cp_piece (cp2 w os) (cp_piece (cp3 w os) (cp_piece (cp4 w os) (cp_last (by kernel_rfl) (cpL w os)))))))))
end
abbrev s_law_draw : Stmt := topS 31
abbrev s_law_name : Stmt := topS 38
abbrev s_law_acts : Stmt := topS 40
abbrev s_law_kept : Stmt := topS 39
abbrev s_law_feast : Stmt := topS 41
abbrev s_law_bad_name : Stmt := topS 43
abbrev s_law_far : Stmt := topS 32
abbrev s_law_beyond : Stmt := topS 33
abbrev s_law_bad_years : Stmt := topS 42
abbrev s_law_bad_puts : Stmt := topS 44
abbrev s_law_spoil : Stmt := topS 45
abbrev s_is_name : Stmt := topS 20
abbrev s_is_number : Stmt := topS 19
abbrev s_are_numbers : Stmt := topS 21
abbrev s_good_years : Stmt := topS 26
abbrev s_is_put : Stmt := topS 27
abbrev s_good_puts : Stmt := topS 28
abbrev s_Feast_init : Stmt := inClass (topS 29) 0
abbrev s_law_bad : Stmt := topS 46
abbrev s_Calendar_init : Stmt := inClass (topS 24) 0
abbrev s_law_lengths : Stmt := topS 34
abbrev s_need_day : Stmt := topS 23
abbrev s_Calendar_years : Stmt := inClass (topS 24) 2
abbrev s_Calendar_long : Stmt := inClass (topS 24) 4
abbrev s_Calendar_first : Stmt := inClass (topS 24) 5
abbrev s_Feast_span : Stmt := inClass (topS 29) 4
abbrev s_Calendar_at : Stmt := inClass (topS 24) 6
abbrev s_Feast_keeps : Stmt := inClass (topS 29) 5
abbrev s_Feast_next_kept : Stmt := inClass (topS 29) 6
abbrev s_Calendar_turn : Stmt := inClass (topS 24) 3
abbrev s_Feast_kept_in : Stmt := inClass (topS 29) 7
abbrev s_Feast_kept_ahead : Stmt := inClass (topS 29) 8
abbrev s_law_asked : Stmt := topS 47
abbrev s_law_is : Stmt := topS 35
abbrev s_law_row_is : Stmt := topS 36
abbrev s_law_told_is : Stmt := topS 37
abbrev s_Feast_told : Stmt := inClass (topS 29) 2
abbrev s_law : Stmt := topS 48
def dd_law_draw : He.DefD := ⟨("_law_draw", none), "_law_draw", "_law_draw", defArgs s_law_draw, defBody s_law_draw, defScope s_law_draw, [], []⟩
def dd_law_name : He.DefD := ⟨("_law_name", none), "_law_name", "_law_name", defArgs s_law_name, defBody s_law_name, defScope s_law_name, [], []⟩
def dd_law_acts : He.DefD := ⟨("_law_acts", none), "_law_acts", "_law_acts", defArgs s_law_acts, defBody s_law_acts, defScope s_law_acts, [], []⟩
def dd_law_kept : He.DefD := ⟨("_law_kept", none), "_law_kept", "_law_kept", defArgs s_law_kept, defBody s_law_kept, defScope s_law_kept, [], []⟩
def dd_law_feast : He.DefD := ⟨("_law_feast", none), "_law_feast", "_law_feast", defArgs s_law_feast, defBody s_law_feast, defScope s_law_feast, [], []⟩
def dd_law_bad_name : He.DefD := ⟨("_law_bad_name", none), "_law_bad_name", "_law_bad_name", defArgs s_law_bad_name, defBody s_law_bad_name, defScope s_law_bad_name, [], []⟩
def dd_law_far : He.DefD := ⟨("_law_far", none), "_law_far", "_law_far", defArgs s_law_far, defBody s_law_far, defScope s_law_far, [], []⟩
def dd_law_beyond : He.DefD := ⟨("_law_beyond", none), "_law_beyond", "_law_beyond", defArgs s_law_beyond, defBody s_law_beyond, defScope s_law_beyond, [], []⟩
def dd_law_bad_years : He.DefD := ⟨("_law_bad_years", none), "_law_bad_years", "_law_bad_years", defArgs s_law_bad_years, defBody s_law_bad_years, defScope s_law_bad_years, [], []⟩
def dd_law_bad_puts : He.DefD := ⟨("_law_bad_puts", none), "_law_bad_puts", "_law_bad_puts", defArgs s_law_bad_puts, defBody s_law_bad_puts, defScope s_law_bad_puts, [], []⟩
def dd_law_spoil : He.DefD := ⟨("_law_spoil", none), "_law_spoil", "_law_spoil", defArgs s_law_spoil, defBody s_law_spoil, defScope s_law_spoil, [], []⟩
def dd_is_name : He.DefD := ⟨("is_name", none), "is_name", "is_name", defArgs s_is_name, defBody s_is_name, defScope s_is_name, [], []⟩
def dd_is_number : He.DefD := ⟨("is_number", none), "is_number", "is_number", defArgs s_is_number, defBody s_is_number, defScope s_is_number, [], []⟩
def dd_are_numbers : He.DefD := ⟨("are_numbers", none), "are_numbers", "are_numbers", defArgs s_are_numbers, defBody s_are_numbers, defScope s_are_numbers, [], []⟩
def dd_good_years : He.DefD := ⟨("good_years", none), "good_years", "good_years", defArgs s_good_years, defBody s_good_years, defScope s_good_years, [], []⟩
def dd_is_put : He.DefD := ⟨("is_put", none), "is_put", "is_put", defArgs s_is_put, defBody s_is_put, defScope s_is_put, [], []⟩
def dd_good_puts : He.DefD := ⟨("good_puts", none), "good_puts", "good_puts", defArgs s_good_puts, defBody s_good_puts, defScope s_good_puts, [], []⟩
def dd_Feast_init : He.DefD := ⟨("Feast", some "__init__"), "__init__", "Feast.__init__", defArgs s_Feast_init, defBody s_Feast_init, defScope s_Feast_init, [.int (1), .non, .non], []⟩
def dd_law_bad : He.DefD := ⟨("_law_bad", none), "_law_bad", "_law_bad", defArgs s_law_bad, defBody s_law_bad, defScope s_law_bad, [], []⟩
def dd_Calendar_init : He.DefD := ⟨("Calendar", some "__init__"), "__init__", "Calendar.__init__", defArgs s_Calendar_init, defBody s_Calendar_init, defScope s_Calendar_init, [], []⟩
def dd_law_lengths : He.DefD := ⟨("_law_lengths", none), "_law_lengths", "_law_lengths", defArgs s_law_lengths, defBody s_law_lengths, defScope s_law_lengths, [], []⟩
def dd_need_day : He.DefD := ⟨("need_day", none), "need_day", "need_day", defArgs s_need_day, defBody s_need_day, defScope s_need_day, [], []⟩
def dd_Calendar_years : He.DefD := ⟨("Calendar", some "years"), "years", "Calendar.years", defArgs s_Calendar_years, defBody s_Calendar_years, defScope s_Calendar_years, [], []⟩
def dd_Calendar_long : He.DefD := ⟨("Calendar", some "long"), "long", "Calendar.long", defArgs s_Calendar_long, defBody s_Calendar_long, defScope s_Calendar_long, [], []⟩
def dd_Calendar_first : He.DefD := ⟨("Calendar", some "first"), "first", "Calendar.first", defArgs s_Calendar_first, defBody s_Calendar_first, defScope s_Calendar_first, [], []⟩
def dd_Feast_span : He.DefD := ⟨("Feast", some "span"), "span", "Feast.span", defArgs s_Feast_span, defBody s_Feast_span, defScope s_Feast_span, [], []⟩
def dd_Calendar_at : He.DefD := ⟨("Calendar", some "at"), "at", "Calendar.at", defArgs s_Calendar_at, defBody s_Calendar_at, defScope s_Calendar_at, [], []⟩
def dd_Feast_keeps : He.DefD := ⟨("Feast", some "keeps"), "keeps", "Feast.keeps", defArgs s_Feast_keeps, defBody s_Feast_keeps, defScope s_Feast_keeps, [], []⟩
def dd_Feast_next_kept : He.DefD := ⟨("Feast", some "next_kept"), "next_kept", "Feast.next_kept", defArgs s_Feast_next_kept, defBody s_Feast_next_kept, defScope s_Feast_next_kept, [], []⟩
def dd_Calendar_turn : He.DefD := ⟨("Calendar", some "turn"), "turn", "Calendar.turn", defArgs s_Calendar_turn, defBody s_Calendar_turn, defScope s_Calendar_turn, [], []⟩
def dd_Feast_kept_in : He.DefD := ⟨("Feast", some "kept_in"), "kept_in", "Feast.kept_in", defArgs s_Feast_kept_in, defBody s_Feast_kept_in, defScope s_Feast_kept_in, [], []⟩
def dd_Feast_kept_ahead : He.DefD := ⟨("Feast", some "kept_ahead"), "kept_ahead", "Feast.kept_ahead", defArgs s_Feast_kept_ahead, defBody s_Feast_kept_ahead, defScope s_Feast_kept_ahead, [], []⟩
def dd_law_asked : He.DefD := ⟨("_law_asked", none), "_law_asked", "_law_asked", defArgs s_law_asked, defBody s_law_asked, defScope s_law_asked, [], []⟩
def dd_law_is : He.DefD := ⟨("_law_is", none), "_law_is", "_law_is", defArgs s_law_is, defBody s_law_is, defScope s_law_is, [], []⟩
def dd_law_row_is : He.DefD := ⟨("_law_row_is", none), "_law_row_is", "_law_row_is", defArgs s_law_row_is, defBody s_law_row_is, defScope s_law_row_is, [], []⟩
def dd_law_told_is : He.DefD := ⟨("_law_told_is", none), "_law_told_is", "_law_told_is", defArgs s_law_told_is, defBody s_law_told_is, defScope s_law_told_is, [], []⟩
def dd_Feast_told : He.DefD := ⟨("Feast", some "told"), "told", "Feast.told", defArgs s_Feast_told, defBody s_Feast_told, defScope s_Feast_told, [], []⟩
def dd_law : He.DefD := ⟨("law", none), "law", "law", defArgs s_law, defBody s_law, defScope s_law, [], []⟩
def fns : List He.DefD := [dd_law_draw, dd_law_name, dd_law_acts, dd_law_kept, dd_law_feast, dd_law_bad_name, dd_law_far, dd_law_beyond, dd_law_bad_years, dd_law_bad_puts, dd_law_spoil, dd_is_name, dd_is_number, dd_are_numbers, dd_good_years, dd_is_put, dd_good_puts, dd_Feast_init, dd_law_bad, dd_Calendar_init, dd_law_lengths, dd_need_day, dd_Calendar_years, dd_Calendar_long, dd_Calendar_first, dd_Feast_span, dd_Calendar_at, dd_Feast_keeps, dd_Feast_next_kept, dd_Calendar_turn, dd_Feast_kept_in, dd_Feast_kept_ahead, dd_law_asked, dd_law_is, dd_law_row_is, dd_law_told_is, dd_Feast_told, dd_law]
def fas : List He.Fa := [.free "len", .glo "_law_draw", .free "range", .glo "_law_name", .free "list", .glo "_law_acts", .glo "_law_kept", .glo "_law_far", .glo "_law_beyond", .free "tuple", .glo "_law_bad_name", .glo "_law_bad_years", .glo "_law_bad_puts", .free "str", .free "isinstance", .str "LETTERS" "abcdefghijklmnopqrstuvwxyz", .free "all", .free "int", .free "bool", .glo "is_number", .glo "are_numbers", .glo "is_name", .glo "is_put", .free "set", .glo "good_years", .glo "good_puts", .exc "BadFeast", .glo "BadFeast", .cls "Feast", .noat "Feast" "name", .noat "Feast" "place", .noat "Feast" "lasts", .noat "Feast" "kept", .noat "Feast" "acts", .mkr "Feast", .glo "ReadError", .glo "Feast", .glo "BadCalendar", .glo "BadBook", .free "ValueError", .glo "BadText", .glo "BadRow", .glo "BadNumber", .glo "BadHouse", .glo "NoPiece", .glo "NoDeed", .glo "NoDay", .glo "NeverDone", .glo "TooTight", .glo "TooFar", .glo "NoRow", .exc "BadCalendar", .cls "Calendar", .noat "Calendar" "lengths", .noat "Calendar" "begins", .noat "Calendar" "whole", .exc "NoDay", .glo "need_day", .free "divmod", .meth "Calendar" "years", .meth "Calendar" "long", .meth "Calendar" "first", .free "min", .meth "Calendar" "at", .meth "Feast" "span", .free "max", .meth "Calendar" "turn", .meth "Feast" "kept_in", .free "sum", .meth "Feast" "keeps", .meth "Feast" "next_kept", .meth "Feast" "kept_ahead", .glo "_law_is", .glo "_law_row_is", .glo "_law_feast", .glo "_law_spoil", .glo "_law_bad", .mkr "Calendar", .glo "_law_lengths", .glo "_law_asked", .glo "_law_told_is", .glo "Calendar", .meth "Feast" "told", .glo "law"]
def loose : List PySem.Str := (["_wall", "ReadError", "BadBook", "BadCalendar", "BadFeast", "BadRow", "BadHouse", "BadNumber", "NoDay", "NoRow", "NoPiece", "TooTight", "NeverDone", "TooFar", "NoDeed", "BadText", "LETTERS", "is_number", "is_name", "are_numbers", "need_day", "Calendar", "good_years", "is_put", "good_puts", "Feast", "_law_draw", "_law_far", "_law_beyond", "_law_lengths"] : List PySem.Str) ++ (["_law_is", "_law_row_is", "_law_told_is", "_law_name", "_law_kept", "_law_acts", "_law_feast", "_law_bad_years", "_law_bad_name", "_law_bad_puts", "_law_spoil", "_law_bad", "_law_asked"] : List PySem.Str)
def adrs : List Addr := [3, 6, 4, 21, 31, 44, 56, 68, 80, 92, 104, 116, 128, 140, 159, 178, 190, 202, 221, 230, 235, 240, 247, 304, 313, 320, 325, 397, 408, 415, 422, 427, 434, 439, 446, 451, 456, 461, 468, 473, 480, 487, 494, 501, 508, 515, 0, 20, 30, 43, 55, 67, 79, 91, 103, 115, 127, 139, 158, 177, 189, 201, 220, 229, 234, 239, 246, 303, 312, 319, 324, 396, 407, 414, 421, 426, 433, 438, 445, 450, 455, 460, 467, 472, 479, 486, 493, 500, 507, 514, 15, 16, 17, 18, 19, 29, 32, 42, 54, 66, 78, 90, 102, 114, 126, 138, 156, 157, 175, 176, 188, 200, 218, 219, 224, 225, 226, 227, 228, 231, 232, 233, 236, 237, 238, 241, 242, 243, 244, 245, 261, 268, 275, 282, 289, 296, 301, 302, 305, 306, 309, 310, 311, 314, 315, 316, 317, 318, 321, 322, 323, 340, 347, 354, 361, 368, 375, 382, 389, 394, 395, 398, 399, 402, 403, 404, 405, 406, 409, 410, 411, 412, 413, 416, 417, 418, 419, 420, 423, 424, 425, 428, 429, 430, 431, 432, 435, 436, 437, 440, 441, 442, 443, 444, 447, 448, 449, 452, 453, 454, 457, 458, 459, 462, 463, 464, 465, 466, 469, 470, 471, 474, 475, 476, 477, 478, 481, 482, 483, 484, 485, 488, 489, 490, 491, 492, 495, 496, 497, 498, 499, 502, 503, 504, 505, 506, 509, 510, 511, 512, 513, 155, 174, 217, 260, 267, 274, 281, 288, 295, 300, 339, 333, 346, 353, 360, 367, 374, 381, 388, 393, 150, 151, 152, 153, 154, 169, 170, 171, 172, 173, 212, 213, 214, 215, 216, 255, 256, 257, 258, 259, 262, 263, 264, 265, 266, 269, 270, 271, 272, 273, 276, 277, 278, 279, 280, 283, 284, 285, 286, 287, 290, 291, 292, 293, 294, 297, 298, 299, 334, 335, 336, 337, 338, 341, 342, 343, 344, 345, 348, 349, 350, 351, 352, 355, 356, 357, 358, 359, 362, 363, 364, 365, 366, 369, 370, 371, 372, 373, 376, 377, 378, 379, 380, 383, 384, 385, 386, 387, 390, 391, 392, 2]
def exs : List (PySem.W.Frag → Bool) := [kexcB excNames]
abbrev hk : PySem.W.Hook := hookL adrs fas fns exs
def ob (s : PySem.W.SharedT) : AlX := obsLG adrs fas fns exs (HandSHeadRun.getT s)
theorem ob_eq (s : PySem.W.SharedT) : ob s = hk.obs s.abs := obsLG_eq (HandSHeadRun.getT_eq s)
set_option maxHeartbeats 0 in
open PySem.W PySem.Calls HandSHeadRun in
theorem look1 (w : World) (os : OsState) : HandSHeadRun.looksF R.prog (PySem.W.boot_heap w.params) (SE w os).abs = true := by kernel_rfl
set_option maxHeartbeats 0 in
open PySem.W PySem.Calls HandSHeadRun in
theorem look2 (w : World) (os : OsState) : HandSHeadRun.seenQ (PySem.W.view R.prog [48]) loose (importedModules R.prog.main.body) (fun s => PySem.W.xlAt (PySem.W.view R.prog [48]) [] s && PySem.W.recOk R.toRowW.records s) (SE w os).abs = PySem.W.openGood (PySem.W.view R.prog [48]) loose := by kernel_rfl
set_option maxHeartbeats 0 in
open PySem.W PySem.Calls HandSHeadRun in
theorem look3 (w : World) (os : OsState) : ob (SE w os) = hk.val w := by kernel_rfl
open PySem.W PySem.Calls HandSHeadRun in
theorem topEnd (w : World) (os : OsState) : ∃ s, TopEnd R (PySem.W.view R.prog [48]) loose hk ob 100000 w os s := ⟨SE w os, cpTop w os, look1 w os, look2 w os, look3 w os⟩
end Dl
section
open PySem PySem.W PySem.Calls PyProof.Rows
set_option maxRecDepth 100000
set_option maxHeartbeats 0
theorem Dl.law_name : (HandSHeadRun.topDef (OpenLaw.row PySem.Challenge.rw_readround_k18_feasts_refused).prog 48).name = ("law" : PySem.Str) := by kernel_rfl
theorem Dl.law_dflt : (HandSHeadRun.topDef (OpenLaw.row PySem.Challenge.rw_readround_k18_feasts_refused).prog 48).params.defaults = [] := by kernel_rfl
theorem Dl.lawOf (hc : WalkO (view (OpenLaw.row PySem.Challenge.rw_readround_k18_feasts_refused).prog [48]) Dl.loose (XL (view (OpenLaw.row PySem.Challenge.rw_readround_k18_feasts_refused).prog [48]) []) Dl.hk.says (OpenLaw.row PySem.Challenge.rw_readround_k18_feasts_refused).toRowW (HandSHeadRun.topDef (OpenLaw.row PySem.Challenge.rw_readround_k18_feasts_refused).prog 48) [] (fun f vs => PySem.call f vs)) : PySem.Challenge.rw_readround_k18_feasts_refused.Holds := by
  w_on; o_law
  refine Dl.head_cp (r := OpenLaw.row PySem.Challenge.rw_readround_k18_feasts_refused) (q := view (OpenLaw.row PySem.Challenge.rw_readround_k18_feasts_refused).prog [48]) (H := Dl.hk) (ob := Dl.ob) (M := 100000) (loose := Dl.loose) (d := HandSHeadRun.topDef (OpenLaw.row PySem.Challenge.rw_readround_k18_feasts_refused).prog 48) (kwd := []) Dl.ob_eq
    (by kernel_rfl) (fun s => by kernel_rfl) Dl.topEnd (by kernel_rfl) (by kernel_rfl) (by kernel_rfl) (by rfl) (by first | assumption | decide +kernel) (by decide +kernel) ⟨rfl, rfl, rfl, rfl, rfl, by decide +kernel⟩ ?hw ?hc
  case hw => w_witness2
  case hc => exact hc
end
namespace Dl
open PySem L2 PyProof.Rows
set_option Elab.async false
set_option linter.all false
set_option maxRecDepth 100000
open PySem L2 PyProof.Rows
/-! ### kinds, books: contracts -/
mutual
/-- data through and through -/
def D.dat : D → Bool
  | .non => true
  | .bl _ => true
  | .int _ => true
  | .str _ => true
  | .tup xs => datL xs
  | .lst xs => datL xs
  | .dct _ => true
  | _ => false
def datL : List D → Bool
  | [] => true
  | x :: xs => D.dat x && datL xs
end
theorem datL_iff {xs : List D} : datL xs = true ↔ ∀ x ∈ xs, x.dat = true := by
  induction xs with
  | nil => simp [datL]
  | cons x xs ih => simp [datL, ih]
/-- isinstance of data and a built-in type -/
def isTy : D → String → Bool
  | .bl _, n => n == "bool" || n == "int"
  | .int _, n => n == "int"
  | .str _, n => n == "str"
  | .tup _, n => n == "tuple"
  | .lst _, n => n == "list"
  | .dct _, n => n == "dict"
  | _, _ => false
theorem rc_isiD {K : PySem.W.Frag} {μ : Mu} {P : D → Mu → Prop} {x : D} {n : String} (hd : x.dat = true) (hn : n = "int" ∨ n = "bool" ∨ n = "str" ∨ n = "list" ∨ n = "tuple") (h : P (.bl (isTy x n)) μ) : RC K (rIsi K) [x, .ty n] μ P := by
  cases x <;> (try (simp [D.dat] at hd; done)) <;> rcases hn with rfl | rfl | rfl | rfl | rfl <;> exact rc_isiB rfl (by rfl) h
theorem isTy_int {x : D} (h : isTy x "int" = true) (h2 : isTy x "bool" = false) : ∃ i, x = .int i := by
  cases x <;> simp_all [isTy]
theorem isTy_list {x : D} (h : isTy x "list" = true) : ∃ i, x = .lst i := by
  cases x <;> simp_all [isTy]
theorem isTy_tuple {x : D} (h : isTy x "tuple" = true) : ∃ i, x = .tup i := by
  cases x <;> simp_all [isTy]
def isNum : D → Int → Int → Bool
  | .int i, lo, hi => decide (lo ≤ i) && decide (i ≤ hi)
  | _, _, _ => false
def c_is_number (K : PySem.W.Frag) : CT := fun ds μ P PX => ∃ x lo hi, ds = [x, .int lo, .int hi] ∧ x.dat = true ∧ P (.bl (isNum x lo hi)) μ
def pairD (p : Int × Int) : D := .tup [.int p.1, .int p.2]
def t_is_number (K : PySem.W.Frag) (E : XK) : TS :=
    (tRet (tAndV (tCB (rIsi K) (tCons (tVar 0) (tCons (tC (.ty "int")) tNil))) (tAndV (tNotV (tCB (rIsi K) (tCons (tVar 0) (tCons (tC (.ty "bool")) tNil)))) (tChain (rI0 fun i j => .bl (decide (i ≤ j))) (rI0 fun i j => .bl (decide (i ≤ j))) (tVar 1) (tVar 0) (tVar 2)))))
local macro_rules | `(tactic| wtm_at "dS") => `(tactic| with_reducible (show DS _ _ _ _ _ _; first
  | refine q_set ?_
  | refine q_when ?_
  | refine ds_ret ?_
  | refine ds_set ?_
  | refine q_drop ?_
  | refine q_if ?_
  | refine q_asg ?_
  | refine q_par ?_
  | refine q_fld ?_
  | refine ds_drop ?_
  | refine s_when ?_
  | refine ds_if ?_
  | refine ds_asg ?_
  | refine ds_next ?_
  | refine ds_par ?_
  | refine ds_fld ?_
  | refine ds_retN ?_))
local macro_rules | `(tactic| wtm_at "dE") => `(tactic| with_reducible (show DE _ _ _ _ _ _; first
  | refine de_op ?_
  | refine de_int ?_
  | refine de_cb ?_
  | refine de_bl ?_
  | refine de_non ?_
  | refine de_str ?_
  | refine de_ty ?_
  | refine de_loc ?_
  | refine de_un ?_
  | refine de_andV ?_
  | refine de_orV ?_
  | refine de_notV ?_
  | refine de_if ?_
  | refine de_chain ?_
  | refine de_chain3 ?_
  | refine de_isN ?_
  | refine de_notN ?_
  | refine de_sl ?_
  | refine de_bm ?_
  | refine de_bm0 ?_))
local macro_rules | `(tactic| wtm_at "dT") => `(tactic| with_reducible (show DT _ _ _ _ _ _; first
  | refine dt_test ?_
  | refine dt_truth ?_
  | refine dt_and ?_
  | refine dt_or ?_
  | refine dt_not ?_
  | refine dt_B ?_
  | refine dt_yes ?_))
local macro_rules | `(tactic| wtm_at "dO") => `(tactic| with_reducible (first
  | refine da_cons ?_
  | refine da_nil ?_
  | refine ro_i ?_
  | refine ro_b ?_
  | refine ro_addI ?_
  | refine ro_eqI ?_
  | refine ro_neI ?_
  | refine ru_i ?_
  | refine ro_ip ?_
  | refine rc_max2' ?_
  | refine rc_min2' ?_
  | refine ro_eqB ?_
  | refine ro_neB ?_
  | refine ro_isB ?_
  | refine ro_notB ?_
  | refine do_no ?_
  | refine do_part ?_
  | refine dg_name ?_
  | refine dgs_cons ?_
  | refine dgs_nil ?_
  | refine dg_sub ?_
  | refine di_range1 ?_
  | refine di_range2 ?_
  | refine di_any ?_
  | refine di_enum' ?_))
local macro_rules | `(tactic| wtm_at "v") => `(tactic| ((with_reducible show DE _ _ (tVar _) _ _ _); refine de_var (by first | rfl | assumption) ?_))
local macro_rules | `(tactic| wtm_at "h") => `(tactic| with_reducible refine ⟨_, rfl, ?_⟩)
local macro_rules | `(tactic| wtm_at "b") => `(tactic| ((first | refine ⟨_, rfl, br ?_ ?_⟩ | refine ⟨_, rfl, br' ?_ ?_⟩ | refine br ?_ ?_ | refine br' ?_ ?_ | fail) <;> intro hb <;> (try contradiction) <;> (try (simp only [decide_eq_true_eq, decide_eq_false_iff_not, Bool.not_eq_true', Bool.not_eq_false', Bool.not_true, Bool.not_false, Bool.not_eq_eq_eq_not, reduceCtorEq, List.length_map] at hb)) <;> (try (exfalso; omega; done))))
local macro_rules | `(tactic| wtm_at "i") => `(tactic| first | refine rc_isiD (by assumption) (by decide) ?_ | refine rc_isiB rfl (by first | rfl | decide +kernel) ?_)
local macro_rules | `(tactic| wtm_at "r") => `(tactic| refine ret_same0 (Nat.le_refl _) (by assumption) (by first | rfl | simp [D.cl, clL]) ?_)
local macro_rules | `(tactic| wtm_at "g") => `(tactic| repeat' first | wtm_at "v" | wtm_at "dE" | wtm_at "dO" | wtm_at "dT" | wtm_at "dS" | fail)
local macro_rules | `(tactic| wtm_at "a") => `(tactic| repeat' first | wtm_at "v" | wtm_at "dE" | wtm_at "dO" | wtm_at "dT" | wtm_at "dS" | wtm_at "i" | wtm_at "l" | wtm_at "x" | wtm_at "h" | wtm_at "b" | fail)
local macro_rules | `(tactic| wtm_at "l") => `(tactic| ((with_reducible show RC _ (rLen _) _ _ _); first | refine rc_lenL (.lst _) ?_ | refine rc_lenT' (.tup _) ?_ | refine rc_lenL (.rdl _) ?_ | refine rc_lenL (.own (by first | assumption | with_reducible exact mu_last)) ?_))
local macro_rules | `(tactic| wtm_at "x") => `(tactic| refine ro_ixT (.tup _) rfl ?_)
local macro_rules | `(tactic| wtm_at "ow") => `(tactic| first | assumption | with_reducible exact mu_last | exact mu_old (by assumption) | (simp; done) | fail)
local macro_rules | `(tactic| wtm_at "m") => `(tactic| refine ⟨ty_list (.own (by wtm_at "ow")), ?_⟩)
local macro_rules | `(tactic| wtm_at "e") => `(tactic| repeat' first | wtm_at "v" | wtm_at "dE" | wtm_at "dO" | wtm_at "dT" | wtm_at "i" | wtm_at "l" | wtm_at "x" | wtm_at "h" | wtm_at "b" | fail)
local macro_rules | `(tactic| wtm_at "sz") => `(tactic| ((with_reducible show Sz _ ∧ _); refine And.intro (by unfold Sz; first | decide | (simp; done) | (simp; omega) | omega) ?_))
local macro_rules | `(tactic| wtm_at "d2") => `(tactic| with_reducible (first
  | refine de_tupZ ?_
  | refine de_revL ?_
  | refine de_call (by assumption) ?_))
local macro_rules | `(tactic| wtm_at "o2") => `(tactic| first
  | refine ro_mod (by first | decide | omega) ?_
  | refine ro_pow ⟨by decide, by decide, by decide⟩ ?_
  | refine rs_anyL (.lst _) ?_
  | refine ro_mulI (by first | exact .inl ⟨by omega, by omega⟩ | exact .inr ⟨by omega, by omega⟩) ?_
  | refine rc_list (.lst _) ?_
  | refine dg_tup rfl ?_
  | fail)
local macro_rules | `(tactic| wtm_at "h2") => `(tactic| with_reducible (first | refine two_i ?_ | refine ⟨_, Ls.lst _, ?_⟩))
local macro_rules | `(tactic| wtm_at "sP") => `(tactic| with_reducible (first | refine q_parZ ?_ | refine ds_parZ ?_))
local macro_rules | `(tactic| wtm_at "f3") => `(tactic| with_reducible (first
  | refine de_fldZ ?_
  | refine de_methZ (by assumption) ?_))
local macro_rules | `(tactic| wtm_at "p3") => `(tactic| first
  | refine fp_obj (by assumption) (by assumption) (by rfl) ?_
  | refine fp_own (by assumption) (by assumption) (by assumption) (by rfl) ?_
  | refine mp_obj (by rfl) ?_
  | refine mp_own (by assumption) (by rfl) ?_)
local macro_rules | `(tactic| wtm_at "s3") => `(tactic| with_reducible (first | refine q_fldZ ?_ | refine ds_fldZ ?_))
local macro_rules | `(tactic| wtm_at "f4") => `(tactic| with_reducible (first | refine de_isNZ ?_ | refine de_notNZ ?_ | refine np_t ?_))
local macro_rules | `(tactic| wtm_at "g4") => `(tactic| first | refine np_int ?_ | refine np_lst ?_ | refine np_tup ?_ | refine np_obj ?_ | refine np_own ?_ | refine np_str ?_ | refine np_bl ?_)
local macro_rules | `(tactic| wtm_at "s5") => `(tactic| with_reducible (first | refine q_par3 ?_ | refine ds_par3 ?_ | refine three_i ?_ | refine di_range2W ?_))
local macro_rules | `(tactic| wtm_at "o5") => `(tactic| first | refine ro_eqNI ?_ | fail)
local macro_rules | `(tactic| wtm_at "d6") => `(tactic| with_reducible (first | refine de_dget ?_ | refine de_din ?_ | refine de_dnin ?_ | refine rc_abs ?_))
local macro_rules | `(tactic| wtm_at "g6") => `(tactic| first | refine dgp_s (.own (by assumption)) (by rfl) ?_ | refine dgp_s (.dct _) (by rfl) ?_)
local macro_rules | `(tactic| wtm_at "Q") => `(tactic| wtm_at "b")
local macro_rules | `(tactic| wtm_at "Q") => `(tactic| wtm_at "g4")
local macro_rules | `(tactic| wtm_at "Q") => `(tactic| wtm_at "p3")
local macro_rules | `(tactic| wtm_at "Q") => `(tactic| wtm_at "g6")
local macro_rules | `(tactic| wtm_at "Q") => `(tactic| wtm_at "sz")
local macro_rules | `(tactic| wtm_at "Q") => `(tactic| wtm_at "h2")
local macro_rules | `(tactic| wtm_at "Q") => `(tactic| wtm_at "h")
local macro_rules | `(tactic| wtm_at "Q") => `(tactic| wtm_at "o5")
local macro_rules | `(tactic| wtm_at "Q") => `(tactic| wtm_at "o2")
local macro_rules | `(tactic| wtm_at "Q") => `(tactic| wtm_at "x")
local macro_rules | `(tactic| wtm_at "Q") => `(tactic| wtm_at "l")
local macro_rules | `(tactic| wtm_at "Q") => `(tactic| wtm_at "i")
local macro_rules | `(tactic| wtm_at "Q") => `(tactic| wtm_at "f3")
local macro_rules | `(tactic| wtm_at "Q") => `(tactic| wtm_at "d2")
local macro_rules | `(tactic| wtm_at "Q") => `(tactic| wtm_at "dT")
local macro_rules | `(tactic| wtm_at "Q") => `(tactic| wtm_at "dO")
local macro_rules | `(tactic| wtm_at "Q") => `(tactic| wtm_at "d6")
local macro_rules | `(tactic| wtm_at "Q") => `(tactic| wtm_at "dE")
local macro_rules | `(tactic| wtm_at "Q") => `(tactic| wtm_at "f4")
local macro_rules | `(tactic| wtm_at "Q") => `(tactic| wtm_at "v")
local macro_rules | `(tactic| wtm_at "E") => `(tactic| repeat' first | wtm_at "Q" | fail)
local macro_rules | `(tactic| wtm_at "Qs") => `(tactic| wtm_at "dS")
local macro_rules | `(tactic| wtm_at "Qs") => `(tactic| wtm_at "s3")
local macro_rules | `(tactic| wtm_at "Qs") => `(tactic| wtm_at "sP")
local macro_rules | `(tactic| wtm_at "Qs") => `(tactic| wtm_at "s5")
local macro_rules | `(tactic| wtm_at "QA") => `(tactic| wtm_at "Q")
local macro_rules | `(tactic| wtm_at "QA") => `(tactic| wtm_at "Qs")
local macro_rules | `(tactic| wtm_at "A") => `(tactic| repeat' first | wtm_at "QA" | fail)
section
variable {K : PySem.W.Frag}
theorem d_is_number : ∀ ds μ P PX, c_is_number K ds μ P PX → MuCl μ μ.length → clL ds μ.length = true → ∀ B E, XAg K B (RetX μ.length PX) E → DS K B (t_is_number K E) (startD ["thing", "least", "most"] ds) μ (fnE μ.length P) := by
  intro ds μ P PX h hm hc B E hE
  obtain ⟨x, lo, hi, rfl, hd, h⟩ := h
  show DS K B _ [some x, some (.int lo), some (.int hi)] μ _
  unfold t_is_number
  wtm_at "a"
  · obtain ⟨i, rfl⟩ := isTy_int ‹_› ‹_›
    wtm_at "a" <;> wtm_at "r" <;> simp_all [isNum]
  · wtm_at "r"
    cases x <;> simp_all [isNum, isTy]
  · wtm_at "r"
    cases x <;> simp_all [isNum, isTy]
end
/-! ### calendars: contracts -/
def areNums : D → Int → Int → Int → Bool
  | .lst xs, long, lo, hi => decide (1 ≤ xs.length) && decide ((xs.length : Int) ≤ long) && xs.all (fun x => isNum x lo hi)
  | _, _, _, _ => false
/-- plain data, or a dict -/
def datA (d : D) : Prop := d.dat = true ∨ ∃ gs, d = .dct gs
def c_are_numbers (K : PySem.W.Frag) : CT := fun ds μ P PX => ∃ (x d : D) (long lo hi : Int), ds = [x, .int long, .int lo, .int hi] ∧ Fz μ x d ∧ datA d ∧ long ≤ 100000 ∧ P (.bl (areNums d long lo hi)) μ
def c_need_day (K : PySem.W.Frag) : CT := fun ds μ P PX => ∃ n : Int, ds = [.int n] ∧ (0 ≤ n → P .non μ) ∧ (n < 0 → PX (He.ga K "NoDay") [] μ)
abbrev cCal (K : PySem.W.Frag) : Addr := He.ga K "Calendar"
/-- days ahead of the i-th year -/
def preY (ls : List Int) (i : Nat) : Int := (ls.take i).sum
def begins (ls : List Int) : List Int := (List.range ls.length).map (preY ls)
def intsD (ls : List Int) : D := .lst (ls.map D.int)
def calF (ls : List Int) : List (Str × D) := [("lengths", intsD ls), ("begins", intsD (begins ls)), ("whole", .int ls.sum)]
def calD (K : PySem.W.Frag) (ls : List Int) : D := .obj (cCal K) (calF ls)
/-- the days of the years of a calendar -/
structure GCal (ls : List Int) : Prop where
  pos : 0 < ls.length
  most : ls.length ≤ 20
  each : ∀ x ∈ ls, 1 ≤ x ∧ x ≤ 400
structure KCal (K : PySem.W.Frag) : Prop where
  cl : Cls K (cCal K)
  lengths : NoAttr K (cCal K) "lengths"
  begins : NoAttr K (cCal K) "begins"
  whole : NoAttr K (cCal K) "whole"
def c_Calendar_init (K : PySem.W.Frag) : CT := fun ds μ P PX => ∃ k x d, ds = [.own k, x] ∧ μ[k]? = some (.ins (cCal K) []) ∧ Fz μ x d ∧ d.dat = true ∧
  (∀ ls, d = intsD ls → GCal ls → P .non (μ.set k (.ins (cCal K) (calF ls)))) ∧ (areNums d 20 1 400 = false → PX (He.ga K "BadCalendar") [] μ)
def c_Calendar_years (K : PySem.W.Frag) : CT := fun ds μ P PX => ∃ ls, ds = [calD K ls] ∧ Fresh (ls.map D.int) μ P
def c_Calendar_turn (K : PySem.W.Frag) : CT := fun ds μ P PX => ∃ ls, ds = [calD K ls] ∧ P (.int ls.sum) μ
/-- how long the year is -/
def longY (ls : List Int) (y : Int) : Int := ls.getD (y % ls.length).toNat 0
def firstY (ls : List Int) (y : Int) : Int := y / ls.length * ls.sum + preY ls (y % ls.length).toNat
def placeY (ls : List Int) (left : Int) : Int := ((begins ls).filter fun b => decide (b ≤ left)).length - 1
def atY (ls : List Int) (d : Int) : Int × Int := (d / ls.sum * ls.length + placeY ls (d % ls.sum), d % ls.sum - preY ls (placeY ls (d % ls.sum)).toNat)
def c_Calendar_long (K : PySem.W.Frag) : CT := fun ds μ P PX => ∃ (ls : List Int) (y : Int), ds = [calD K ls, .int y] ∧ GCal ls ∧ (0 ≤ y → P (.int (longY ls y)) μ) ∧ (y < 0 → PX (He.ga K "NoDay") [] μ)
def c_Calendar_first (K : PySem.W.Frag) : CT := fun ds μ P PX => ∃ (ls : List Int) (y : Int), ds = [calD K ls, .int y] ∧ GCal ls ∧ (0 ≤ y → P (.int (firstY ls y)) μ) ∧ (y < 0 → PX (He.ga K "NoDay") [] μ)
def c_Calendar_at (K : PySem.W.Frag) : CT := fun ds μ P PX => ∃ (ls : List Int) (y : Int), ds = [calD K ls, .int y] ∧ GCal ls ∧ (0 ≤ y → P (pairD (atY ls y)) μ) ∧ (y < 0 → PX (He.ga K "NoDay") [] μ)
/-! ### .. in plain numbers -/
theorem sum_pos' : ∀ {ls : List Int}, (∀ x ∈ ls, 1 ≤ x) → (ls.length : Int) ≤ ls.sum
  | [], _ => by simp
  | x :: r, h => by
    have := sum_pos' (ls := r) fun y hy => h y (List.mem_cons_of_mem _ hy)
    have := h x (by simp)
    simp; omega
theorem sum_le' : ∀ {ls : List Int}, (∀ x ∈ ls, x ≤ 400) → ls.sum ≤ 400 * (ls.length : Int)
  | [], _ => by simp
  | x :: r, h => by
    have := sum_le' (ls := r) fun y hy => h y (List.mem_cons_of_mem _ hy)
    have := h x (by simp)
    simp; omega
theorem GCal.sum_pos {ls : List Int} (h : GCal ls) : 0 < ls.sum := by
  have := sum_pos' fun x hx => (h.each x hx).1
  have := h.pos
  omega
theorem GCal.sum_le {ls : List Int} (h : GCal ls) : ls.sum ≤ 8000 := by
  have := sum_le' fun x hx => (h.each x hx).2
  have := h.most
  omega
theorem preY_zero (ls : List Int) : preY ls 0 = 0 := by simp [preY]
theorem preY_succ {ls : List Int} {i : Nat} {x : Int} (h : ls[i]? = some x) : preY ls (i + 1) = preY ls i + x := by
  unfold preY
  rw [List.take_add_one, h]
  simp
theorem preY_all (ls : List Int) : preY ls ls.length = ls.sum := by simp [preY]
theorem preY_mono {ls : List Int} (h : ∀ x ∈ ls, 1 ≤ x) {i j : Nat} (hij : i ≤ j) (hj : j ≤ ls.length) : preY ls i + (j - i : Nat) ≤ preY ls j := by
  induction j with
  | zero => have : i = 0 := by omega
            subst this; simp
  | succ j ih =>
    by_cases e : i = j + 1
    · subst e; simp
    · have h1 := ih (by omega) (by omega)
      have hx : ls[j]? = some ls[j] := List.getElem?_eq_getElem (by omega)
      have := h ls[j] (List.getElem_mem _)
      rw [preY_succ hx]
      omega
theorem begins_len (ls : List Int) : (begins ls).length = ls.length := by simp [begins]
theorem begins_get {ls : List Int} {i : Nat} (h : i < ls.length) : (begins ls)[i]? = some (preY ls i) := by simp [begins, h]
/-- as many years begin up to there as the place tells -/
theorem count_pre {ls : List Int} (h : ∀ x ∈ ls, 1 ≤ x) {p : Nat} (hp : p < ls.length) {left : Int} (h0 : preY ls p ≤ left) (h1 : left < preY ls (p + 1)) : ((begins ls).filter fun b => decide (b ≤ left)).length = p + 1 := by
  have key : ∀ n, n ≤ ls.length → (((List.range n).map (preY ls)).filter fun b => decide (b ≤ left)).length = min n (p + 1) := by
    intro n hn
    induction n with
    | zero => simp
    | succ n ih =>
      rw [List.range_succ, List.map_append, List.filter_append, List.length_append, ih (by omega)]
      by_cases hc : n ≤ p
      · have : preY ls n ≤ left := by
          have := preY_mono h (i := n) (j := p) hc (by omega)
          omega
        simp [this]; omega
      · have : ¬ preY ls n ≤ left := by
          have := preY_mono h (i := p + 1) (j := n) (by omega) (by omega)
          omega
        simp [this]; omega
  unfold begins
  rw [key ls.length (Nat.le_refl _)]
  omega
/-- day d is the s-th one of the year y -/
structure PosY (ls : List Int) (y s d : Int) : Prop where
  y0 : 0 ≤ y
  s0 : 0 ≤ s
  s1 : s < longY ls y
  d : d = firstY ls y + s
theorem longY_get {ls : List Int} (h : GCal ls) {y : Int} (hy : 0 ≤ y) : ls[(y % ls.length).toNat]? = some (longY ls y) := by
  have hp := h.pos
  have h1 := Int.emod_nonneg y (b := (ls.length : Int)) (by omega)
  have h2 := Int.emod_lt_of_pos y (b := (ls.length : Int)) (by omega)
  unfold longY
  rw [List.getD_eq_getElem?_getD, List.getElem?_eq_getElem (by omega)]
  rfl
theorem longY_bd {ls : List Int} (h : GCal ls) {y : Int} (hy : 0 ≤ y) : 1 ≤ longY ls y ∧ longY ls y ≤ 400 := h.each _ (List.mem_of_getElem? (longY_get h hy))
theorem pre_lt {ls : List Int} (h : GCal ls) {y : Int} (hy : 0 ≤ y) : 0 ≤ preY ls (y % ls.length).toNat ∧ preY ls (y % ls.length).toNat + longY ls y ≤ ls.sum := by
  have hp := h.pos
  have h1 := Int.emod_nonneg y (b := (ls.length : Int)) (by omega)
  have h2 := Int.emod_lt_of_pos y (b := (ls.length : Int)) (by omega)
  have e1 : ∀ x ∈ ls, 1 ≤ x := fun x hx => (h.each x hx).1
  have h3 := preY_mono e1 (i := 0) (j := (y % ls.length).toNat) (by omega) (by omega)
  have h4 := preY_mono e1 (i := (y % ls.length).toNat + 1) (j := ls.length) (by omega) (by omega)
  rw [preY_zero] at h3
  rw [preY_succ (longY_get h hy), preY_all] at h4
  omega
theorem PosY.dm {ls : List Int} (h : GCal ls) {y s d : Int} (p : PosY ls y s d) : d / ls.sum = y / ls.length ∧ d % ls.sum = preY ls (y % ls.length).toNat + s := by
  obtain ⟨h1, h2⟩ := pre_lt h p.y0
  have hs := h.sum_pos
  have e : d = ls.sum * (y / ls.length) + (preY ls (y % ls.length).toNat + s) := by
    rw [p.d, firstY, Int.mul_comm]; omega
  have := p.s0
  have := p.s1
  refine ⟨?_, ?_⟩
  · have z : (preY ls (y % ls.length).toNat + s) / ls.sum = 0 := Int.ediv_eq_zero_of_lt (by omega) (by omega)
    rw [e, Int.mul_add_ediv_left _ _ (by omega), z]
    simp
  · rw [e, Int.mul_add_emod_self_left, Int.emod_eq_of_lt (by omega) (by omega)]
theorem atY_pos {ls : List Int} (h : GCal ls) {y s d : Int} (p : PosY ls y s d) : atY ls d = (y, s) := by
  obtain ⟨e1, e2⟩ := p.dm h
  have hp := h.pos
  have h1 := Int.emod_nonneg y (b := (ls.length : Int)) (by omega)
  have h2 := Int.emod_lt_of_pos y (b := (ls.length : Int)) (by omega)
  have := p.s0
  have := p.s1
  have hc := count_pre (fun x hx => (h.each x hx).1) (p := (y % ls.length).toNat) (left := preY ls (y % ls.length).toNat + s) (by omega) (by omega) (by rw [preY_succ (longY_get h p.y0)]; omega)
  have e3 : placeY ls (d % ls.sum) = y % ls.length := by
    unfold placeY
    rw [e2, hc]
    omega
  unfold atY
  rw [e3, e1, e2]
  refine Prod.ext ?_ ?_
  · show y / ls.length * ls.length + y % ls.length = y
    exact Int.ediv_mul_add_emod y ls.length
  · show preY ls (y % ls.length).toNat + s - preY ls (y % ls.length).toNat = s
    omega
theorem firstY_succ {ls : List Int} (h : GCal ls) {y : Int} (hy : 0 ≤ y) : firstY ls (y + 1) = firstY ls y + longY ls y := by
  have hp := h.pos
  have h1 := Int.emod_nonneg y (b := (ls.length : Int)) (by omega)
  have h2 := Int.emod_lt_of_pos y (b := (ls.length : Int)) (by omega)
  have hy' := Int.ediv_mul_add_emod y ls.length
  have hs := preY_succ (longY_get h hy)
  by_cases hc : y % ls.length + 1 < ls.length
  · have e : y + 1 = ls.length * (y / ls.length) + (y % ls.length + 1) := by rw [Int.mul_comm]; omega
    have e1 : (y + 1) / ls.length = y / ls.length := by
      have z : (y % ls.length + 1) / ls.length = 0 := Int.ediv_eq_zero_of_lt (by omega) (by omega)
      rw [e, Int.mul_add_ediv_left _ _ (by omega), z]; simp
    have e2 : (y + 1) % ls.length = y % ls.length + 1 := by
      have z : (y % ls.length + 1) % ls.length = y % ls.length + 1 := Int.emod_eq_of_lt (by omega) (by omega)
      rw [e, Int.mul_add_emod_self_left, z]
    unfold firstY
    rw [e1, e2]
    have e3 : (y % ls.length + 1).toNat = (y % ls.length).toNat + 1 := by omega
    rw [e3, hs]
    omega
  · have hl : y % ls.length + 1 = ls.length := by omega
    have e : y + 1 = ls.length * (y / ls.length + 1) := by rw [Int.mul_add, Int.mul_one, Int.mul_comm]; omega
    have e1 : (y + 1) / ls.length = y / ls.length + 1 := by
      rw [e, Int.mul_ediv_cancel_left _ (by omega)]
    have e2 : (y + 1) % ls.length = 0 := by rw [e]; simp
    unfold firstY
    rw [e1, e2]
    have e3 : (y % ls.length).toNat + 1 = ls.length := by omega
    rw [e3, preY_all] at hs
    show (y / ls.length + 1) * ls.sum + preY ls 0 = _
    rw [preY_zero, Int.add_mul, Int.one_mul]
    omega
theorem PosY.next {ls : List Int} (h : GCal ls) {y s d : Int} (p : PosY ls y s d) : if s + 1 = longY ls y then PosY ls (y + 1) 0 (d + 1) else PosY ls y (s + 1) (d + 1) := by
  have := p.y0; have := p.s0; have := p.s1; have := p.d
  split
  · refine ⟨by omega, by omega, ?_, ?_⟩
    · have := longY_bd h (y := y + 1) (by omega); omega
    · rw [firstY_succ h p.y0]; omega
  · exact ⟨by omega, by omega, by omega, by omega⟩
/-- each day has a year and a place -/
theorem place_bd {ls : List Int} (h : GCal ls) {left : Int} (h0 : 0 ≤ left) : 0 ≤ placeY ls left ∧ placeY ls left < ls.length := by
  have hp := h.pos
  have h1 : ((begins ls).filter fun b => decide (b ≤ left)).length ≤ ls.length := by
    exact Nat.le_trans (List.length_filter_le _ _) (by rw [begins_len]; exact Nat.le_refl _)
  have h2 : 0 < ((begins ls).filter fun b => decide (b ≤ left)).length := by
    have : (0 : Int) ∈ (begins ls).filter fun b => decide (b ≤ left) := by
      rw [List.mem_filter]
      refine ⟨?_, by simpa using h0⟩
      have := begins_get (ls := ls) (i := 0) hp
      rw [preY_zero] at this
      exact List.mem_of_getElem? this
    exact List.length_pos_of_mem this
  unfold placeY
  omega
def t_are_numbers (K : PySem.W.Frag) (E : XK) : TS :=
    (tSeq (tIfS (tOr (tNot (tTruth K (tCB (rIsi K) (tCons (tVar 0) (tCons (tC (.ty "list")) tNil))))) (tNot (tTest (tChain (rI0 fun i j => .bl (decide (i ≤ j))) (rI0 fun i j => .bl (decide (i ≤ j))) (tC (.int 1)) (tCB (rLen K) (tCons (tVar 0) tNil)) (tVar 1))))) (tRet (tC (.bl false))) tNext)
      (tRet (tCB (rAll K) (tCons (tLc (iAny K (tVar 0)) (gName 4) tYes (tCall (spD K (c_is_number K)) [] E0 (tCons (tVar 4) (tCons (tVar 2) (tCons (tVar 3) tNil)))) [4]) tNil))))
def t_need_day (K : PySem.W.Frag) (E : XK) : TS :=
    (tIfS (tTest (tOp (rI0 fun i j => .bl (decide (i < j))) (tVar 0) (tC (.int 0)))) (tRaise0 (He.ga K "NoDay") E) tNext)
def t_Calendar_init (K : PySem.W.Frag) (E : XK) : TS :=
    (tSeq (tIfS (tNot (tTruth K (tCall (spD K (c_are_numbers K)) [] E (tCons (tVar 1) (tCons (tC (.int 20)) (tCons (tC (.int 1)) (tCons (tC (.int 400)) tNil))))))) (tRaise0 (He.ga K "BadCalendar") E) tNext)
      (tSeq (sFld K (tVar 0) (tCB (rListOf K) (tCons (tVar 1) tNil)) "lengths")
      (tSeq (sFld K (tVar 0) (tLst tNil) "begins")
      (tSeq (sFld K (tVar 0) (tC (.int 0)) "whole")
      (tFor (iAny K (tFld K (tVar 0) "lengths")) (gName 2) (tSeq (tDrop (tBM K "list" rAppend (tFld K (tVar 0) "begins") (tCons (tFld K (tVar 0) "whole") tNil)))
      (sFldAug K (tVar 0) (tVar 2) rAdd "whole")))))))
def t_Calendar_years (K : PySem.W.Frag) (E : XK) : TS :=
    (tRet (tCB (rListOf K) (tCons (tFld K (tVar 0) "lengths") tNil)))
def t_Calendar_turn (K : PySem.W.Frag) (E : XK) : TS :=
    (tRet (tFld K (tVar 0) "whole"))
def t_Calendar_long (K : PySem.W.Frag) (E : XK) : TS :=
    (tSeq (tDrop (tCall (spD K (c_need_day K)) [] E (tCons (tVar 1) tNil)))
      (tRet (tOp (rIx K) (tFld K (tVar 0) "lengths") (tOp rModA (tVar 1) (tCB (rLen K) (tCons (tFld K (tVar 0) "lengths") tNil))))))
def t_Calendar_first (K : PySem.W.Frag) (E : XK) : TS :=
    (tSeq (tDrop (tCall (spD K (c_need_day K)) [] E (tCons (tVar 1) tNil)))
      (tSeq (tAsg (tCB rDivmod (tCons (tVar 1) (tCons (tCB (rLen K) (tCons (tFld K (tVar 0) "lengths") tNil)) tNil))) (gTup K 2 (gCons (gName 2) (gCons (gName 3) gNil))))
      (tRet (tOp (rAddA K) (tOp rMulA (tVar 2) (tFld K (tVar 0) "whole")) (tOp (rIx K) (tFld K (tVar 0) "begins") (tVar 3))))))
def t_Calendar_at (K : PySem.W.Frag) (E : XK) : TS :=
    (tSeq (tDrop (tCall (spD K (c_need_day K)) [] E (tCons (tVar 1) tNil)))
      (tSeq (tAsg (tCB rDivmod (tCons (tVar 1) (tCons (tFld K (tVar 0) "whole") tNil))) (gTup K 2 (gCons (gName 2) (gCons (gName 3) gNil))))
      (tSeq (tAsg (tOp (rI0 fun i j => .int (i - j)) (tCB (rLen K) (tCons (tLc (iAny K (tFld K (tVar 0) "begins")) (gName 5) (tTest (tOp (rI0 fun i j => .bl (decide (i ≤ j))) (tVar 5) (tVar 3))) (tVar 5) [5]) tNil)) (tC (.int 1))) (gName 4))
      (tRet (tTup (tCons (tOp (rAddA K) (tOp rMulA (tVar 2) (tCB (rLen K) (tCons (tFld K (tVar 0) "lengths") tNil))) (tVar 4)) (tCons (tOp (rI0 fun i j => .int (i - j)) (tVar 3) (tOp (rIx K) (tFld K (tVar 0) "begins") (tVar 4))) tNil)))))))
section
variable {K : PySem.W.Frag}
theorem d_are_numbers : ∀ ds μ P PX, c_are_numbers K ds μ P PX → MuCl μ μ.length → clL ds μ.length = true → ∀ B E, XAg K B (RetX μ.length PX) E → DS K B (t_are_numbers K E) (startD ["thing", "long", "least", "most", "one"] ds) μ (fnE μ.length P) := by
  intro ds μ P PX h hm hc B E hE
  obtain ⟨x, d, long, lo, hi, rfl, fz, hd, hlong, h⟩ := h
  show DS K B _ [some x, some (.int long), some (.int lo), some (.int hi), none] μ _
  rcases hd with hd | ⟨gs, rfl⟩
  rotate_left
  · obtain rfl : x = .dct gs := by cases fz; rfl
    unfold t_are_numbers
    wtm_at "g"
    refine rc_isiB (n := "dict") rfl (by rfl) ?_
    wtm_at "A"
    exact ret_same0 (Nat.le_refl _) hm rfl h
  have key : ∀ xs, d = .lst xs → tyD μ x = some "list" → Ls μ x xs → DS K B (t_are_numbers K E) [some x, some (.int long), some (.int lo), some (.int hi), none] μ (fnE μ.length P) := by
    rintro xs rfl ht hl
    have hdx : ∀ y ∈ xs, y.dat = true := by
      unfold D.dat at hd
      exact datL_iff.mp hd
    obtain ⟨S, wk⟩ := hl.wk
    unfold t_are_numbers
    wtm_at "g"
    refine rc_isiB ht (by rfl) ?_
    wtm_at "A"
    refine rc_lenL hl ?_
    have hf : ¬ (1 ≤ xs.length ∧ (xs.length : Int) ≤ long) → Ret μ.length P (.bl false) μ := fun hn => by
      wtm_at "r"
      have : areNums (.lst xs) long lo hi = false := by
        simp [areNums]
        omega
      rw [this] at h
      exact h
    wtm_at "A"
    · exact hf (by omega)
    · refine lc_map (fun d => .bl (isNum d lo hi)) (gw_name (by simp)) ?_
      wtm_at "A"
      refine ⟨xs, S, wk, wk.now, by omega, fun i d hd' => ?_, fun out ho => ?_⟩
      · wtm_at "A"
        refine ⟨rfl, de_call XAg.none ?_⟩
        wtm_at "A"
        exact ⟨d, lo, hi, rfl, hdx d (List.mem_of_getElem? hd'), rfl, rfl⟩
      · wtm_at "A"
        refine rc_all (bs := xs.map (isNum · lo hi)) (by rw [← ho, List.map_map]; exact .lst _) ?_
        wtm_at "r"
        have : areNums (.lst xs) long lo hi = (xs.map (isNum · lo hi)).all id := by
          simp only [areNums, List.all_map]
          rename_i hb
          simp [show 1 ≤ xs.length by omega, show (xs.length : Int) ≤ long by omega]
        rw [this] at h
        exact h
    · exact hf (by omega)
  cases fz with
  | id =>
    by_cases hl : isTy x "list" = true
    · obtain ⟨xs, rfl⟩ := isTy_list hl
      exact key xs rfl rfl (.lst xs)
    · unfold t_are_numbers
      wtm_at "A"
      · exact absurd ‹_› hl
      · wtm_at "r"
        have : areNums x long lo hi = false := by cases x <;> simp_all [areNums, isTy]
        rw [this] at h
        exact h
  | own hk => exact key _ rfl (by simp [tyD, hk]) (.own hk)
theorem d_need_day : ∀ ds μ P PX, c_need_day K ds μ P PX → MuCl μ μ.length → clL ds μ.length = true → ∀ B E, XAg K B (RetX μ.length PX) E → DS K B (t_need_day K E) (startD ["number"] ds) μ (fnE μ.length P) := by
  intro ds μ P PX h hm hc B E hE
  obtain ⟨n, rfl, h1, h2⟩ := h
  show DS K B _ [some (.int n)] μ _
  unfold t_need_day
  wtm_at "A"
  · exact ds_raise0 hE (retx_same0 hm rfl (h2 (by omega)))
  · exact ret_same0 (Nat.le_refl _) hm rfl (h1 (by omega))
theorem nums_ints : ∀ {xs : List D} {lo hi : Int}, xs.all (fun x => isNum x lo hi) = true → ∃ ls : List Int, xs = ls.map D.int ∧ ∀ x ∈ ls, lo ≤ x ∧ x ≤ hi
  | [], _, _, _ => ⟨[], rfl, by simp⟩
  | x :: xs, lo, hi, h => by
    rw [List.all_cons, Bool.and_eq_true] at h
    obtain ⟨ls, rfl, hl⟩ := nums_ints h.2
    cases x <;> simp [isNum] at h
    rename_i n
    exact ⟨n :: ls, rfl, fun y hy => by
      rcases List.mem_cons.mp hy with m | m
      · subst m; exact h.1
      · exact hl y m⟩
theorem areNums_cal {d : D} (h : areNums d 20 1 400 = true) : ∃ ls, d = intsD ls ∧ GCal ls := by
  cases d <;> simp [areNums] at h
  rename_i xs
  obtain ⟨ls, rfl, hl⟩ := nums_ints (lo := 1) (hi := 400) (xs := xs) (by rw [List.all_eq_true]; exact h.2)
  simp at h
  exact ⟨ls, rfl, by omega, by omega, hl⟩
theorem areNums_of {ls : List Int} (h : GCal ls) : areNums (intsD ls) 20 1 400 = true := by
  have := h.pos; have := h.most
  simp [areNums, intsD]
  refine ⟨by omega, fun x hx => ?_⟩
  have := h.each x hx
  simp [isNum]; omega
theorem cl_ints (ls : List Int) (n : Nat) : clL (ls.map D.int) n = true := clL_map fun x _ => by simp [D.cl]
theorem d_Calendar_init (kc : KCal K) : ∀ ds μ P PX, c_Calendar_init K ds μ P PX → MuCl μ μ.length → clL ds μ.length = true → ∀ B E, XAg K B (RetX μ.length PX) E → DS K B (t_Calendar_init K E) (startD ["self", "years", "days"] ds) μ (fnE μ.length P) := by
  intro ds μ P PX h hm hc B E hE
  obtain ⟨k, x, d, rfl, hk, fz, hd, h1, h2⟩ := h
  show DS K B _ [some (.own k), some x, none] μ _
  have c1 := kc.cl; have c2 := kc.lengths; have c3 := kc.begins; have c4 := kc.whole
  unfold t_Calendar_init
  wtm_at "A"
  refine ⟨x, d, 20, 1, 400, rfl, fz, .inl hd, by decide, ?_⟩
  wtm_at "A"
  · exact ds_raise0 hE (retx_same0 hm rfl (h2 ‹_›))
  · rename_i hs
    obtain ⟨ls, rfl, hg⟩ := areNums_cal hs
    have hl : Ls μ x (ls.map D.int) := by
      cases fz with
      | id => exact .lst _
      | own h => exact .own h
    have kl := (List.getElem?_eq_some_iff.mp hk).1
    have hset : ∀ z, (μ.set k z)[k]? = some z := fun z => set_get hk
    have hlen : ∀ z : MO, (List.set μ k z).length = μ.length := fun z => by simp
    refine rc_list hl ?_
    wtm_at "A"
    refine pp_own hk c1 c2 (of_decide_eq_true (by rfl)) ?_
    wtm_at "A"
    refine de_lstOZ ?_
    wtm_at "A"
    rw [hlen]
    refine pp_own (mu_old (hset _)) c1 c3 (of_decide_eq_true (by rfl)) ?_
    rw [set_old (hset _), set_set']
    wtm_at "A"
    refine pp_own (mu_old (hset _)) c1 c4 (of_decide_eq_true (by rfl)) ?_
    rw [set_old (hset _), set_set']
    refine ds_ghostN ?_
    refine ds_for ?_
    wtm_at "A"
    refine fp_own (mu_old (hset _)) c1 c2 rfl ?_
    refine ⟨_, _, .lst _, fun i ρ μ' => ∃ y2, ρ = [some (.own k), some x, y2] ∧ μ' = μ.set k (.ins (cCal K) [("lengths", intsD ls), ("begins", .own μ.length), ("whole", .int (preY ls i))]) ++ [.lst (((List.range i).map (preY ls)).map D.int)],
      ⟨none, rfl, rfl⟩, fun _ _ _ _ _ => trivial, ?_, ?_⟩
    · rintro i d ρ μ' hd' ⟨y2, rfl, rfl⟩
      rw [List.getElem?_map] at hd'
      cases q : ls[i]? with
      | none => rw [q] at hd'; cases hd'
      | some n =>
        rw [q] at hd'
        obtain rfl : D.int n = d := Option.some.inj hd'
        have hi := (List.getElem?_eq_some_iff.mp q).1
        have hmost := hg.most
        have hlast : ∀ z : MO, ∀ o : MO, (μ.set k z ++ [o])[μ.length]? = some o := fun z o => by rw [← hlen z]; exact mu_last
        have hsetl : ∀ z : MO, ∀ o o' : MO, (μ.set k z ++ [o]).set μ.length o' = μ.set k z ++ [o'] := fun z o o' => by rw [← hlen z]; exact set_last
        wtm_at "A"
        refine fp_own (mu_old (hset _)) c1 c3 rfl ?_
        refine ⟨ty_list (.own (hlast _ _)), ?_⟩
        wtm_at "A"
        refine fp_own (mu_old (hset _)) c1 c4 rfl ?_
        wtm_at "A"
        refine rm_app (hlast _ _) (by simp; omega) ?_
        rw [hsetl]
        refine ds_fldAug ?_
        wtm_at "A"
        refine ⟨k, _, _, _, rfl, mu_old (hset _), c1, c4, rfl, ?_⟩
        wtm_at "A"
        refine ro_add ?_
        refine ⟨_, mu_old (hset _), by simp, ?_⟩
        rw [set_old (hset _), set_set']
        refine ⟨_, rfl, ?_⟩
        rw [← preY_succ q, List.range_succ, List.map_append, List.map_append]
        rfl
    · rintro ρ μ' ⟨y2, rfl, rfl⟩
      rw [List.length_map]
      have hlast : ∀ z : MO, ∀ o : MO, (μ.set k z ++ [o])[μ.length]? = some o := fun z o => by rw [← hlen z]; exact mu_last
      have hsetl : ∀ z : MO, ∀ o o' : MO, (μ.set k z ++ [o]).set μ.length o' = μ.set k z ++ [o'] := fun z o o' => by rw [← hlen z]; exact set_last
      refine ⟨_, gh_fld (f := "begins") (mu_old (hset _)) rfl (hlast _ _), ?_⟩
      rw [hsetl, set_old (hset _), set_set', preY_all]
      refine ret_same (by simp) ?_ rfl (h1 ls rfl hg)
      rw [hlen]
      refine hm.set ?_
      show clF (calF ls) _ = true
      simp only [clF, calF, D.cl, intsD, cl_ints, Bool.and_self]
theorem d_Calendar_years (kc : KCal K) : ∀ ds μ P PX, c_Calendar_years K ds μ P PX → MuCl μ μ.length → clL ds μ.length = true → ∀ B E, XAg K B (RetX μ.length PX) E → DS K B (t_Calendar_years K E) (startD ["self"] ds) μ (fnE μ.length P) := by
  intro ds μ P PX h hm hc B E hE
  obtain ⟨ls, rfl, h⟩ := h
  show DS K B _ [some (calD K ls)] μ _
  have c1 := kc.cl; have c2 := kc.lengths; have c3 := kc.begins; have c4 := kc.whole
  unfold t_Calendar_years
  rcases h with h | h
  · wtm_at "A"
    exact ret_same0 (Nat.le_refl _) hm (by simp [D.cl, cl_ints]) h
  · refine ds_ret (de_cb ?_)
    refine da_cons ?_
    wtm_at "f3"
    wtm_at "v"
    wtm_at "p3"
    wtm_at "dO"
    refine rc_listO (.lst _) ?_
    exact ret_same0 (by simp) (hm.app (by simp [MO.cl, cl_ints])) (by simp [D.cl]) h
theorem d_Calendar_turn (kc : KCal K) : ∀ ds μ P PX, c_Calendar_turn K ds μ P PX → MuCl μ μ.length → clL ds μ.length = true → ∀ B E, XAg K B (RetX μ.length PX) E → DS K B (t_Calendar_turn K E) (startD ["self"] ds) μ (fnE μ.length P) := by
  intro ds μ P PX h hm hc B E hE
  obtain ⟨ls, rfl, h⟩ := h
  show DS K B _ [some (calD K ls)] μ _
  have c1 := kc.cl; have c2 := kc.lengths; have c3 := kc.begins; have c4 := kc.whole
  unfold t_Calendar_turn
  wtm_at "A"
  wtm_at "r"
  exact h
theorem at_map {α : Type} {f : α → D} {xs : List α} {i : Int} {j : Nat} {x : α} (e : i = (j : Int)) (h : xs[j]? = some x) : atI (xs.map f) i = some (f x) := by
  rw [e]
  exact atI_nat (by rw [List.getElem?_map, h]; rfl)
theorem d_Calendar_long (kc : KCal K) : ∀ ds μ P PX, c_Calendar_long K ds μ P PX → MuCl μ μ.length → clL ds μ.length = true → ∀ B E, XAg K B (RetX μ.length PX) E → DS K B (t_Calendar_long K E) (startD ["self", "year"] ds) μ (fnE μ.length P) := by
  intro ds μ P PX h hm hc B E hE
  obtain ⟨ls, y, rfl, hg, h, hx⟩ := h
  show DS K B _ [some (calD K ls), some (.int y)] μ _
  have c1 := kc.cl; have c2 := kc.lengths; have c3 := kc.begins; have c4 := kc.whole
  have hp := hg.pos
  unfold t_Calendar_long
  wtm_at "A"
  refine ⟨y, rfl, fun hy => ?_, fun hy => retx_same0 hm rfl (hx hy)⟩
  wtm_at "A"
  refine ro_mod (by simp; omega) ?_
  have h1 := Int.emod_nonneg y (b := (ls.length : Int)) (by omega)
  rw [List.length_map]
  refine ro_ixL (.lst _) (at_map (j := (y % ls.length).toNat) (by omega) (longY_get hg hy)) ?_
  wtm_at "r"
  exact h hy
theorem d_Calendar_first (kc : KCal K) : ∀ ds μ P PX, c_Calendar_first K ds μ P PX → MuCl μ μ.length → clL ds μ.length = true → ∀ B E, XAg K B (RetX μ.length PX) E → DS K B (t_Calendar_first K E) (startD ["self", "year", "turns", "place"] ds) μ (fnE μ.length P) := by
  intro ds μ P PX h hm hc B E hE
  obtain ⟨ls, y, rfl, hg, h, hx⟩ := h
  show DS K B _ [some (calD K ls), some (.int y), none, none] μ _
  have c1 := kc.cl; have c2 := kc.lengths; have c3 := kc.begins; have c4 := kc.whole
  have hp := hg.pos; have hm20 := hg.most
  have hs := hg.sum_pos; have hs2 := hg.sum_le
  unfold t_Calendar_first
  wtm_at "A"
  refine ⟨y, rfl, fun hy => ?_, fun hy => retx_same0 hm rfl (hx hy)⟩
  wtm_at "A"
  rw [List.length_map]
  refine rc_divmod ⟨by omega, by omega⟩ ?_
  have h1 := Int.emod_nonneg y (b := (ls.length : Int)) (by omega)
  have h2 := Int.emod_lt_of_pos y (b := (ls.length : Int)) (by omega)
  wtm_at "A"
  refine ro_ixL (.lst _) (at_map (j := (y % ls.length).toNat) (by omega) (begins_get (by omega))) ?_
  wtm_at "A"
  wtm_at "r"
  exact h hy
theorem d_Calendar_at (kc : KCal K) : ∀ ds μ P PX, c_Calendar_at K ds μ P PX → MuCl μ μ.length → clL ds μ.length = true → ∀ B E, XAg K B (RetX μ.length PX) E → DS K B (t_Calendar_at K E) (startD ["self", "day", "turns", "left", "place", "begin"] ds) μ (fnE μ.length P) := by
  intro ds μ P PX h hm hc B E hE
  obtain ⟨ls, y, rfl, hg, h, hx⟩ := h
  show DS K B _ [some (calD K ls), some (.int y), none, none, none, none] μ _
  have c1 := kc.cl; have c2 := kc.lengths; have c3 := kc.begins; have c4 := kc.whole
  have hp := hg.pos; have hm20 := hg.most
  have hs := hg.sum_pos; have hs2 := hg.sum_le
  unfold t_Calendar_at
  wtm_at "A"
  refine ⟨y, rfl, fun hy => ?_, fun hy => retx_same0 hm rfl (hx hy)⟩
  wtm_at "A"
  refine rc_divmod ⟨by omega, by omega⟩ ?_
  wtm_at "A"
  refine lc_filt (fun d => match d with | .int b => decide (b ≤ y % ls.sum) | _ => false) id (gw_name (by simp)) ?_
  wtm_at "A"
  refine ⟨_, _, .lst _, trivial, by simp [begins_len]; omega, fun j d hj => ?_, fun out ho => ?_⟩
  · rw [List.getElem?_map] at hj
    cases q : (begins ls)[j]? with
    | none => rw [q] at hj; cases hj
    | some n =>
      rw [q] at hj
      obtain rfl : D.int n = d := Option.some.inj hj
      wtm_at "A"
      refine ⟨rfl, ?_⟩
      wtm_at "A"
      refine ⟨rfl, rfl, fun _ => ?_⟩
      wtm_at "A"
      exact ⟨rfl, rfl⟩
  have ho' : out = ((begins ls).filter fun b => decide (b ≤ y % ls.sum)).map D.int := by
    rw [← ho, List.filter_map, List.map_map]
    rfl
  subst ho'
  clear ho
  have hl := place_bd hg (left := y % ls.sum) (Int.emod_nonneg y (by omega))
  have hpl : (((((begins ls).filter fun b => decide (b ≤ y % ls.sum)).map D.int).length : Nat) : Int) - 1 = placeY ls (y % ls.sum) := by
    rw [List.length_map]; rfl
  wtm_at "A"
  rw [hpl]
  wtm_at "A"
  rw [List.length_map]
  wtm_at "A"
  refine ro_ixL (.lst _) (at_map (j := (placeY ls (y % ls.sum)).toNat) (by omega) (begins_get (by omega))) ?_
  wtm_at "A"
  wtm_at "r"
  exact h hy
end
/-! ### the year of a day -/
theorem pre_find {ls : List Int} (hall : ∀ x ∈ ls, 1 ≤ x) {left : Int} (h0 : 0 ≤ left) (h1 : left < ls.sum) : ∃ p, p < ls.length ∧ preY ls p ≤ left ∧ left < preY ls (p + 1) := by
  have key : ∀ n, n ≤ ls.length → left < preY ls n → ∃ p, p < n ∧ preY ls p ≤ left ∧ left < preY ls (p + 1) := by
    intro n
    induction n with
    | zero => intro _ h; rw [preY_zero] at h; omega
    | succ n ih =>
      intro hn hlt
      by_cases hc : left < preY ls n
      · obtain ⟨p, hp, q⟩ := ih (by omega) hc
        exact ⟨p, by omega, q⟩
      · exact ⟨n, by omega, by omega, hlt⟩
  exact key ls.length (Nat.le_refl _) (by rw [preY_all]; exact h1)
theorem div_mod_of {n q p : Int} (h0 : 0 ≤ p) (h1 : p < n) : (q * n + p) / n = q ∧ (q * n + p) % n = p := by
  have z1 : p / n = 0 := Int.ediv_eq_zero_of_lt h0 h1
  have z2 : p % n = p := Int.emod_eq_of_lt h0 h1
  refine ⟨?_, ?_⟩
  · rw [Int.mul_comm, Int.mul_add_ediv_left _ _ (by omega), z1]; simp
  · rw [Int.mul_comm, Int.mul_add_emod_self_left, z2]
theorem pos_of {ls : List Int} (h : GCal ls) {d : Int} (hd : 0 ≤ d) {p : Nat} (hp : p < ls.length) (h0 : preY ls p ≤ d % ls.sum) (h1 : d % ls.sum < preY ls (p + 1)) : PosY ls (d / ls.sum * ls.length + p) (d % ls.sum - preY ls p) d := by
  have hs := h.sum_pos
  have hq : 0 ≤ d / ls.sum := Int.ediv_nonneg hd (by omega)
  obtain ⟨e1, e2⟩ := div_mod_of (n := (ls.length : Int)) (q := d / ls.sum) (p := (p : Int)) (by omega) (by omega)
  have hy : 0 ≤ d / ls.sum * ls.length + p := by
    have := Int.mul_nonneg hq (show (0 : Int) ≤ ls.length by omega)
    omega
  have hl := longY_get h hy
  rw [e2] at hl
  have hl' : preY ls (p + 1) = preY ls p + longY ls (d / ls.sum * ls.length + p) := preY_succ (by simpa using hl)
  refine ⟨hy, by omega, by omega, ?_⟩
  unfold firstY
  rw [e1, e2]
  have := Int.ediv_mul_add_emod d ls.sum
  simp only [Int.toNat_natCast]
  omega
theorem atY_spec {ls : List Int} (h : GCal ls) {d : Int} (hd : 0 ≤ d) : PosY ls (atY ls d).1 (atY ls d).2 d := by
  have hs := h.sum_pos
  obtain ⟨p, hp, h0, h1⟩ := pre_find (fun x hx => (h.each x hx).1) (Int.emod_nonneg d (by omega)) (Int.emod_lt_of_pos d hs)
  have q := pos_of h hd hp h0 h1
  rw [atY_pos h q]
  exact q
def yearY (ls : List Int) (d : Int) : Int := (atY ls d).1
def optD : Option Int → D
  | none => .non
  | some i => .int i
theorem year_at {ls : List Int} {t : Int} {j : Nat} (hj : j < ls.length) : (t * ls.length + j) / ls.length = t ∧ (t * ls.length + j) % ls.length = j := div_mod_of (by omega) (by omega)
theorem longY_at {ls : List Int} {t : Int} {j : Nat} (hj : j < ls.length) : longY ls (t * ls.length + j) = longY ls j := by
  unfold longY
  rw [(year_at hj).2, Int.emod_eq_of_lt (by omega) (by omega)]
theorem firstY_at {ls : List Int} {t : Int} {j : Nat} (hj : j < ls.length) : firstY ls (t * ls.length + j) = t * ls.sum + preY ls j := by
  unfold firstY
  rw [(year_at hj).1, (year_at hj).2]
  simp
theorem firstY_in {ls : List Int} {j : Nat} (hj : j < ls.length) : firstY ls j = preY ls j := by
  have := firstY_at (ls := ls) (t := 0) hj
  simpa using this
/-! ### feasts: contracts -/
def isNameD : D → Bool
  | .str s => decide (nameOk s)
  | _ => false
def c_is_name (K : PySem.W.Frag) : CT := fun ds μ P PX => ∃ x, ds = [x] ∧ x.dat = true ∧ (∀ s, x = .str s → s.length ≤ 100000) ∧ P (.bl (isNameD x)) μ
structure KeptOk (ys : List Int) : Prop where
  pos : 0 < ys.length
  most : ys.length ≤ 20
  each : ∀ y ∈ ys, 0 ≤ y ∧ y ≤ 19
  up : ∀ (i : Nat) (a b : Int), ys[i]? = some a → ys[i + 1]? = some b → a < b
def keptD : Option (List Int) → D
  | none => .non
  | some ys => intsD ys
def KeptO (k : Option (List Int)) : Prop := ∀ ys, k = some ys → KeptOk ys
/-- rising numbers -/
def rises : List Int → Bool
  | a :: b :: t => decide (a < b) && rises (b :: t)
  | _ => true
def intsOf (xs : List D) : List Int := xs.map fun d => match d with | .int i => i | _ => 0
def goodYs : D → Bool
  | .non => true
  | .lst xs => areNums (.lst xs) 20 0 19 && rises (intsOf xs)
  | _ => false
def c_good_years (K : PySem.W.Frag) : CT := fun ds μ P PX => ∃ (x d : D), ds = [x] ∧ Fz μ x d ∧ datA d ∧ P (.bl (goodYs d)) μ
def actD (p : Str × Str) : D := .tup [.str p.1, .str p.2]
def actsD (ps : List (Str × Str)) : D := .lst (ps.map actD)
structure ActsOk (ps : List (Str × Str)) : Prop where
  most : ps.length ≤ 4
  each : ∀ p ∈ ps, nameOk p.1 ∧ (p.2 = "off" ∨ p.2 = "rest")
  nd : (ps.map (·.1)).Nodup
def flatD : D → Bool
  | .non => true
  | .bl _ => true
  | .int _ => true
  | .str _ => true
  | _ => false
/-- what may be asked whether it is a name with a sort -/
structure PutX (d : D) : Prop where
  dat : d.dat = true
  two : ∀ x y, d = .tup [x, y] → (∀ s, x = .str s → s.length ≤ 100000) ∧ flatD y = true
def inOffD : D → Bool
  | .str s => decide (s = "off" ∨ s = "rest")
  | _ => false
def isPutD : D → Bool
  | .tup [.str n, .str s] => decide (nameOk n) && decide (s = "off" ∨ s = "rest")
  | _ => false
def c_is_put (K : PySem.W.Frag) : CT := fun ds μ P PX => ∃ d : D, ds = [d] ∧ PutX d ∧ P (.bl (isPutD d)) μ
structure PutsX (d : D) : Prop where
  dat : datA d
  each : ∀ xs, d = .lst xs → xs.length ≤ 4 → ∀ p ∈ xs, PutX p
/-- these may be puts -/
def PutsIs (d : D) (ps : List (Str × Str)) : Prop := ActsOk ps ∧ (d = actsD ps ∨ (d = .non ∧ ps = []))
def c_good_puts (K : PySem.W.Frag) : CT := fun ds μ P PX => ∃ (x d : D), ds = [x] ∧ Fz μ x d ∧ PutsX d ∧ ((∃ ps, PutsIs d ps) → P (.bl true) μ) ∧ ((¬ ∃ ps, PutsIs d ps) → P (.bl false) μ)
structure FeT where
  name : Str
  place : Int
  lasts : Int
  kept : Option (List Int)
  acts : List (Str × Str)
structure GFe (f : FeT) : Prop where
  name : nameOk f.name
  p0 : -400 ≤ f.place
  p1 : f.place ≤ 399
  l0 : 1 ≤ f.lasts
  l1 : f.lasts ≤ 40
  kept : KeptO f.kept
  acts : ActsOk f.acts
abbrev cFe (K : PySem.W.Frag) : Addr := He.ga K "Feast"
def feF (f : FeT) : List (Str × D) := [("name", .str f.name), ("place", .int f.place), ("lasts", .int f.lasts), ("kept", keptD f.kept), ("acts", actsD f.acts)]
def feD (K : PySem.W.Frag) (f : FeT) : D := .obj (cFe K) (feF f)
structure KFe (K : PySem.W.Frag) : Prop where
  cl : Cls K (cFe K)
  name : NoAttr K (cFe K) "name"
  place : NoAttr K (cFe K) "place"
  lasts : NoAttr K (cFe K) "lasts"
  kept : NoAttr K (cFe K) "kept"
  acts : NoAttr K (cFe K) "acts"
/-- these make the feast -/
structure FeIs (a b c dk dp : D) (f : FeT) : Prop where
  good : GFe f
  a : a = .str f.name
  b : b = .int f.place
  c : c = .int f.lasts
  k : dk = keptD f.kept
  p : PutsIs dp f.acts
def c_Feast_init (K : PySem.W.Frag) : CT := fun ds μ P PX => ∃ (k : Nat) (a b c xk dk xp dp : D), ds = [.own k, a, b, c, xk, xp] ∧ μ[k]? = some (.ins (cFe K) []) ∧ a.dat = true ∧ (∀ s, a = .str s → s.length ≤ 100000) ∧ b.dat = true ∧ c.dat = true ∧ Fz μ xk dk ∧ datA dk ∧ Fz μ xp dp ∧ PutsX dp ∧
  (∀ f, FeIs a b c dk dp f → P .non (μ.set k (.ins (cFe K) (feF f)))) ∧ ((∀ f, ¬ FeIs a b c dk dp f) → PX (He.ga K "BadFeast") [] μ)
theorem rises_iff : ∀ {ys : List Int}, rises ys = true ↔ ∀ (i : Nat) (a b : Int), ys[i]? = some a → ys[i + 1]? = some b → a < b
  | [] => by simp [rises]
  | [a] => by
    simp only [rises, true_iff]
    intro i x y hx hy
    have := (List.getElem?_eq_some_iff.mp hy).1
    simp at this
  | a :: b :: t => by
    have ih := rises_iff (ys := b :: t)
    unfold rises
    rw [Bool.and_eq_true, ih, decide_eq_true_eq]
    constructor
    · rintro ⟨h0, h⟩ i x y hx hy
      cases i with
      | zero =>
        simp at hx hy
        omega
      | succ i => exact h i x y (by simpa using hx) (by simpa using hy)
    · intro h
      exact ⟨h 0 a b rfl rfl, fun i x y hx hy => h (i + 1) x y (by simpa using hx) (by simpa using hy)⟩
theorem intsOf_int (ys : List Int) : intsOf (ys.map D.int) = ys := by
  unfold intsOf
  induction ys with
  | nil => rfl
  | cons y t ih => rw [List.map_cons, List.map_cons, ih]
theorem areNums_ints {xs : List D} {n lo hi : Int} (h : areNums (.lst xs) n lo hi = true) : ∃ ys : List Int, xs = ys.map D.int ∧ (∀ y ∈ ys, lo ≤ y ∧ y ≤ hi) ∧ 1 ≤ ys.length ∧ (ys.length : Int) ≤ n := by
  unfold areNums at h
  simp only [Bool.and_eq_true, decide_eq_true_eq] at h
  obtain ⟨⟨h1, h2⟩, h3⟩ := h
  have key : ∀ xs : List D, xs.all (fun x => isNum x lo hi) = true → ∃ ys : List Int, xs = ys.map D.int ∧ ∀ y ∈ ys, lo ≤ y ∧ y ≤ hi := fun xs => by
    induction xs with
    | nil => exact fun _ => ⟨[], rfl, by simp⟩
    | cons x t ih =>
      intro h
      rw [List.all_cons, Bool.and_eq_true] at h
      obtain ⟨ys, rfl, hy⟩ := ih h.2
      cases x with
      | int i =>
        have h1 := h.1
        simp [isNum] at h1
        exact ⟨i :: ys, rfl, fun y hy' => by
          rcases List.mem_cons.mp hy' with rfl | hy'
          · exact h1
          · exact hy y hy'⟩
      | _ => simp [isNum] at h
  obtain ⟨ys, rfl, hy⟩ := key xs h3
  rw [List.length_map] at h1 h2
  exact ⟨ys, rfl, hy, h1, h2⟩
theorem goodYs_of {k : Option (List Int)} (h : KeptO k) : goodYs (keptD k) = true := by
  cases k with
  | none => rfl
  | some ys =>
    have hk := h ys rfl
    have hp := hk.pos; have hm := hk.most
    show (areNums (.lst (ys.map D.int)) 20 0 19 && rises (intsOf (ys.map D.int))) = true
    rw [intsOf_int, rises_iff.mpr hk.up, Bool.and_true]
    simp [areNums]
    refine ⟨by omega, fun y hy => ?_⟩
    have := hk.each y hy
    simp [isNum]
    omega
theorem goodYs_is {d : D} (h : goodYs d = true) : ∃ k, d = keptD k ∧ KeptO k := by
  cases d with
  | non => exact ⟨none, rfl, fun _ e => by cases e⟩
  | lst xs =>
    have h : (areNums (.lst xs) 20 0 19 && rises (intsOf xs)) = true := h
    rw [Bool.and_eq_true] at h
    obtain ⟨ys, rfl, h1, h2, h3⟩ := areNums_ints h.1
    rw [intsOf_int] at h
    exact ⟨some ys, rfl, fun zs e => by cases e; exact ⟨by omega, by omega, fun y hy => by have := h1 y hy; omega, rises_iff.mp h.2⟩⟩
  | _ => simp [goodYs] at h
theorem keptD_inj {k k' : Option (List Int)} (h : keptD k = keptD k') : k = k' := by
  cases k with
  | none => cases k' with
    | none => rfl
    | some ys => simp [keptD, intsD] at h
  | some xs => cases k' with
    | none => simp [keptD, intsD] at h
    | some ys =>
      unfold keptD intsD at h
      injection h with h
      rw [(List.map_inj_right (fun a b h => by injection h)).mp h]
theorem actsD_inj {ps qs : List (Str × Str)} (h : actsD ps = actsD qs) : ps = qs := by
  unfold actsD at h
  injection h with h
  refine (List.map_inj_right (fun a b h => ?_)).mp h
  obtain ⟨a1, a2⟩ := a
  obtain ⟨b1, b2⟩ := b
  unfold actD at h
  simp at h
  rw [h.1, h.2]
theorem PutsIs.uniq {d : D} {ps qs : List (Str × Str)} (h : PutsIs d ps) (h' : PutsIs d qs) : ps = qs := by
  rcases h.2 with rfl | ⟨rfl, rfl⟩
  · rcases h'.2 with e | ⟨e, _⟩
    · exact actsD_inj e
    · simp [actsD] at e
  · rcases h'.2 with e | ⟨_, rfl⟩
    · simp [actsD] at e
    · rfl
theorem FeIs.uniq {a b c dk dp : D} {f g : FeT} (h : FeIs a b c dk dp f) (h' : FeIs a b c dk dp g) : f = g := by
  obtain ⟨n, p, l, k, as⟩ := f
  obtain ⟨n', p', l', k', as'⟩ := g
  have e1 := h.a.symm.trans h'.a
  have e2 := h.b.symm.trans h'.b
  have e3 := h.c.symm.trans h'.c
  have e4 := keptD_inj (h.k.symm.trans h'.k)
  have e5 := h.p.uniq h'.p
  simp at e1 e2 e3 e4 e5
  rw [e1, e2, e3, e4, e5]
theorem actsX {ps : List (Str × Str)} (h : ∀ p ∈ ps, nameOk p.1) : PutsX (actsD ps) := by
  refine ⟨.inl ?_, fun xs e _ p hp => ?_⟩
  · unfold actsD
    rw [D.dat, datL_iff]
    intro x hx
    obtain ⟨p, _, rfl⟩ := List.mem_map.mp hx
    rfl
  · unfold actsD at e
    cases e
    obtain ⟨q, hq, rfl⟩ := List.mem_map.mp hp
    refine ⟨rfl, fun x y e => ?_⟩
    unfold actD at e
    simp at e
    obtain ⟨rfl, rfl⟩ := e
    refine ⟨fun s e => ?_, rfl⟩
    cases e
    have := (h q hq).2.1
    omega
theorem FeIs.of {f : FeT} (h : GFe f) : FeIs (.str f.name) (.int f.place) (.int f.lasts) (keptD f.kept) (actsD f.acts) f := ⟨h, rfl, rfl, rfl, rfl, h.acts, .inl rfl⟩
theorem kept_datF (k : Option (List Int)) : (keptD k).dat = true := by
  cases k with
  | none => rfl
  | some ys =>
    unfold keptD intsD
    rw [D.dat, datL_iff]
    intro z hz
    obtain ⟨w, _, rfl⟩ := List.mem_map.mp hz
    rfl
/-- the contract at a feast that is right -/
theorem c_Feast_ok {K : PySem.W.Frag} {μ : Mu} {P : D → Mu → Prop} {PX : PXT} {k : Nat} {f : FeT} {xk xp : D} (hk : μ[k]? = some (.ins (cFe K) [])) (hg : GFe f) (fk : Fz μ xk (keptD f.kept)) (fp : Fz μ xp (actsD f.acts)) (h : P .non (μ.set k (.ins (cFe K) (feF f)))) : c_Feast_init K [.own k, .str f.name, .int f.place, .int f.lasts, xk, xp] μ P PX :=
  ⟨k, _, _, _, xk, _, xp, _, rfl, hk, rfl, fun s e => by cases e; have := hg.name.2.1; omega, rfl, rfl, fk, .inl (kept_datF _), fp, actsX fun p hp => (hg.acts.each p hp).1, fun g hg' => by rw [← (FeIs.of hg).uniq hg']; exact h, fun hn => absurd (FeIs.of hg) (hn f)⟩
/-- from which day up to which the feast is kept in that year -/
def keptIn (ls : List Int) (f : FeT) (y : Int) : Bool := match f.kept with
  | none => true
  | some ys => decide (y % ls.length ∈ ys)
def spanOf (ls : List Int) (f : FeT) (y : Int) : Option (Int × Int) :=
  if keptIn ls f y = false then none
  else
    let p := if 0 ≤ f.place then f.place else longY ls y + f.place
    if 0 ≤ p ∧ p < longY ls y then some (firstY ls y + p, firstY ls y + min (p + f.lasts) (longY ls y)) else none
def spanD : Option (Int × Int) → D
  | none => .non
  | some p => pairD p
def c_Feast_span (K : PySem.W.Frag) : CT := fun ds μ P PX => ∃ (f : FeT) (ls : List Int) (y : Int), ds = [feD K f, calD K ls, .int y] ∧ GCal ls ∧ (0 ≤ y → P (spanD (spanOf ls f y)) μ) ∧ (y < 0 → PX (He.ga K "NoDay") [] μ)
def t_is_name (K : PySem.W.Frag) (E : XK) : TS :=
    (tSeq (tIfS (tOr (tNot (tTruth K (tCB (rIsi K) (tCons (tVar 0) (tCons (tC (.ty "str")) tNil))))) (tNot (tTest (tChain (rI0 fun i j => .bl (decide (i ≤ j))) (rI0 fun i j => .bl (decide (i ≤ j))) (tC (.int 1)) (tCB (rLen K) (tCons (tVar 0) tNil)) (tC (.int 8)))))) (tRet (tC (.bl false))) tNext)
      (tRet (tCB (rAll K) (tCons (tLc (iAny K (tVar 0)) (gName 1) tYes (tOp (rInA K) (tVar 1) (tC (.str "abcdefghijklmnopqrstuvwxyz"))) [1]) tNil))))
def t_good_years (K : PySem.W.Frag) (E : XK) : TS :=
    (tSeq (tIfS (tB (tIsN (tVar 0))) (tRet (tC (.bl true))) tNext)
      (tRet (tAndV (tCall (spD K (c_are_numbers K)) [] E (tCons (tVar 0) (tCons (tC (.int 20)) (tCons (tC (.int 0)) (tCons (tC (.int 19)) tNil))))) (tCB (rAll K) (tCons (tLc (iRng1 (tCons (tOp (rI0 fun i j => .int (i - j)) (tCB (rLen K) (tCons (tVar 0) tNil)) (tC (.int 1))) tNil)) (gName 1) tYes (tOp (rI0 fun i j => .bl (decide (i < j))) (tOp (rIx K) (tVar 0) (tVar 1)) (tOp (rIx K) (tVar 0) (tOp (rAddA K) (tVar 1) (tC (.int 1))))) [1]) tNil)))))
def t_is_put (K : PySem.W.Frag) (E : XK) : TS :=
    (tRet (tAndV (tCB (rIsi K) (tCons (tVar 0) (tCons (tC (.ty "tuple")) tNil))) (tAndV (tOp (rEqD K) (tCB (rLen K) (tCons (tVar 0) tNil)) (tC (.int 2))) (tAndV (tCall (spD K (c_is_name K)) [] E (tCons (tOp (rIx K) (tVar 0) (tC (.int 0))) tNil)) (tOp (rInA K) (tOp (rIx K) (tVar 0) (tC (.int 1))) (tTup (tCons (tC (.str "off")) (tCons (tC (.str "rest")) tNil))))))))
def t_good_puts (K : PySem.W.Frag) (E : XK) : TS :=
    (tSeq (tIfS (tB (tIsN (tVar 0))) (tRet (tC (.bl true))) tNext)
      (tSeq (tIfS (tOr (tNot (tTruth K (tCB (rIsi K) (tCons (tVar 0) (tCons (tC (.ty "list")) tNil))))) (tOr (tTest (tOp (rI0 fun i j => .bl (decide (j < i))) (tCB (rLen K) (tCons (tVar 0) tNil)) (tC (.int 4)))) (tNot (tTruth K (tCB (rAll K) (tCons (tLc (iAny K (tVar 0)) (gName 1) tYes (tCall (spD K (c_is_put K)) [] E0 (tCons (tVar 1) tNil)) [1]) tNil)))))) (tRet (tC (.bl false))) tNext)
      (tRet (tOp (rEqD K) (tLenSetS K (tLc (iAny K (tVar 0)) (gTup K 2 (gCons (gName 2) (gCons (gName 3) gNil))) tYes (tVar 2) [2, 3])) (tCB (rLen K) (tCons (tVar 0) tNil))))))
def t_Feast_init (K : PySem.W.Frag) (E : XK) : TS :=
    (tSeq (tIfS (tOr (tNot (tTruth K (tCall (spD K (c_is_name K)) [] E (tCons (tVar 1) tNil)))) (tOr (tNot (tTruth K (tCall (spD K (c_is_number K)) [] E (tCons (tVar 2) (tCons (tUn (rU fun i => .int (-i)) (tC (.int 400))) (tCons (tC (.int 399)) tNil)))))) (tNot (tTruth K (tCall (spD K (c_is_number K)) [] E (tCons (tVar 3) (tCons (tC (.int 1)) (tCons (tC (.int 40)) tNil)))))))) (tRaise0 (He.ga K "BadFeast") E) tNext)
      (tSeq (tIfS (tOr (tNot (tTruth K (tCall (spD K (c_good_years K)) [] E (tCons (tVar 4) tNil)))) (tNot (tTruth K (tCall (spD K (c_good_puts K)) [] E (tCons (tVar 5) tNil))))) (tRaise0 (He.ga K "BadFeast") E) tNext)
      (tSeq (sFld K (tVar 0) (tVar 1) "name")
      (tSeq (sFld K (tVar 0) (tVar 2) "place")
      (tSeq (sFld K (tVar 0) (tVar 3) "lasts")
      (tSeq (sFld K (tVar 0) (tIf (tB (tIsN (tVar 4))) (tC .non) (tCB (rListOf K) (tCons (tVar 4) tNil))) "kept")
      (sFld K (tVar 0) (tIf (tB (tIsN (tVar 5))) (tLst tNil) (tCB (rListOf K) (tCons (tVar 5) tNil))) "acts")))))))
def t_Feast_span (K : PySem.W.Frag) (E : XK) : TS :=
    (tSeq (tDrop (tCall (spD K (c_need_day K)) [] E (tCons (tVar 2) tNil)))
      (tSeq (tIfS (tAnd (tB (tNotN (tFld K (tVar 0) "kept"))) (tTest (tOp (rNotInA K) (tOp rModA (tVar 2) (tCB (rLen K) (tCons (tMeth (He.ga K "Calendar") "years" (spD K (c_Calendar_years K)) [] E (tVar 1) tNil) tNil))) (tFld K (tVar 0) "kept")))) (tRet (tC .non)) tNext)
      (tSeq (tAsg (tMeth (He.ga K "Calendar") "long" (spD K (c_Calendar_long K)) [] E (tVar 1) (tCons (tVar 2) tNil)) (gName 3))
      (tSeq (tAsg (tIf (tTest (tOp (rI0 fun i j => .bl (decide (j ≤ i))) (tFld K (tVar 0) "place") (tC (.int 0)))) (tFld K (tVar 0) "place") (tOp (rAddA K) (tVar 3) (tFld K (tVar 0) "place"))) (gName 4))
      (tSeq (tIfS (tNot (tTest (tChain (rI0 fun i j => .bl (decide (i ≤ j))) (rI0 fun i j => .bl (decide (i < j))) (tC (.int 0)) (tVar 4) (tVar 3)))) (tRet (tC .non)) tNext)
      (tSeq (tAsg (tMeth (He.ga K "Calendar") "first" (spD K (c_Calendar_first K)) [] E (tVar 1) (tCons (tVar 2) tNil)) (gName 5))
      (tRet (tTup (tCons (tOp (rAddA K) (tVar 5) (tVar 4)) (tCons (tOp (rAddA K) (tVar 5) (tCB (rMinA K) (tCons (tOp (rAddA K) (tVar 4) (tFld K (tVar 0) "lasts")) (tCons (tVar 3) tNil)))) tNil))))))))))
section
variable {K : PySem.W.Frag}
theorem signs_get {s : Str} {i : Nat} {d : D} (h : (signsD s)[i]? = some d) : ∃ c, s.cps.toList[i]? = some c ∧ d = .str ⟨#[c]⟩ := by
  unfold signsD at h
  rw [List.getElem?_map] at h
  cases q : s.cps.toList[i]? with
  | none => rw [q] at h; cases h
  | some c => rw [q] at h; exact ⟨c, rfl, (Option.some.inj h).symm⟩
theorem d_is_name : ∀ ds μ P PX, c_is_name K ds μ P PX → MuCl μ μ.length → clL ds μ.length = true → ∀ B E, XAg K B (RetX μ.length PX) E → DS K B (t_is_name K E) (startD ["thing", "sign"] ds) μ (fnE μ.length P) := by
  intro ds μ P PX h hm hc B E hE
  obtain ⟨x, rfl, hd, hl, h⟩ := h
  show DS K B _ [some x, none] μ _
  unfold t_is_name
  by_cases hs : ∃ s, x = .str s
  · obtain ⟨s, rfl⟩ := hs
    have hl' := hl s rfl
    have no : ¬ (1 ≤ s.length ∧ s.length ≤ 8) → Ret μ.length P (.bl false) μ := fun hn => by
      have e : isNameD (.str s) = false := by
        simp only [isNameD, decide_eq_false_iff_not]
        exact fun hx => hn ⟨hx.1, hx.2.1⟩
      rw [e] at h
      wtm_at "r"
      exact h
    wtm_at "A"
    refine rc_lenS' hl' ?_
    wtm_at "A"
    · exact no (by omega)
    · refine lc_map (fun d => match d with | .str z => .bl (z.cps.toList.all fun c => decide (c ∈ letters)) | _ => .non) (gw_name (by simp)) ?_
      wtm_at "A"
      refine ⟨_, _, .str s, trivial, by simp [signsD]; unfold Str.length at hl'; omega, fun i d hd' => ?_, fun out ho => ?_⟩
      · obtain ⟨c, hc', rfl⟩ := signs_get hd'
        wtm_at "A"
        refine ⟨rfl, ?_⟩
        wtm_at "A"
        refine ro_inSg ?_
        refine ⟨?_, rfl⟩
        rw [letters_str]
        simp
      · wtm_at "A"
        refine rc_all (bs := s.cps.toList.map fun c => decide (c ∈ letters)) ?_ ?_
        · rw [← ho]
          unfold signsD
          rw [List.map_map, List.map_map]
          have : (fun c : Nat => D.bl (decide (c ∈ letters))) = ((fun d => match d with | .str z => D.bl (z.cps.toList.all fun c => decide (c ∈ letters)) | _ => .non) ∘ fun c => D.str ⟨#[c]⟩) := by
            funext c; simp
          rw [← this]
          exact .lst _
        wtm_at "r"
        rename_i h1 h2
        have e : isNameD (.str s) = ((s.cps.toList.map fun c => decide (c ∈ letters)).all id) := by
          simp only [isNameD]
          rw [Bool.eq_iff_iff]
          simp only [decide_eq_true_eq, List.all_map, List.all_eq_true, Function.comp, id]
          exact ⟨fun hx c hc => hx.2.2 c hc, fun hx => ⟨by omega, by omega, hx⟩⟩
        rw [e] at h
        exact h
    · exact no (by omega)
  · have hx : isTy x "str" = false := by
      cases x <;> first | rfl | exact absurd ⟨_, rfl⟩ hs
    wtm_at "A"
    · rename_i hb; rw [hx] at hb; cases hb
    · wtm_at "r"
      have e : isNameD x = false := by cases x <;> first | rfl | exact absurd ⟨_, rfl⟩ hs
      rw [e] at h
      exact h
theorem d_good_years : ∀ ds μ P PX, c_good_years K ds μ P PX → MuCl μ μ.length → clL ds μ.length = true → ∀ B E, XAg K B (RetX μ.length PX) E → DS K B (t_good_years K E) (startD ["years", "k"] ds) μ (fnE μ.length P) := by
  intro ds μ P PX h hm hc B E hE
  obtain ⟨x, d, rfl, fz, hd, h⟩ := h
  have ret : ∀ b, b = goodYs d → Ret μ.length P (.bl b) μ := fun b e => ret_same0 (Nat.le_refl _) hm rfl (by rw [e]; exact h)
  show DS K B _ [some x, none] μ _
  unfold t_good_years
  by_cases hx : x = .non
  · subst hx
    obtain rfl : D.non = d := by cases fz; rfl
    wtm_at "A"
    exact ret true rfl
  · refine q_when (dt_B (de_isNZ ?_))
    wtm_at "v"
    refine np_f hx ⟨false, rfl, fun z => absurd z (by simp), fun _ => ?_⟩
    have hdn : d ≠ .non := fun e => by
      subst e
      cases fz
      exact hx rfl
    refine ds_ret (de_andV (de_call hE ?_))
    wtm_at "E"
    refine ⟨x, d, 20, 0, 19, rfl, fz, hd, by decide, ?_⟩
    refine ⟨_, rfl, ?_⟩
    cases hn : areNums d 20 0 19 with
    | false =>
      refine ⟨fun z => (nomatch z), fun _ => ret false ?_⟩
      cases d with
      | non => exact absurd rfl hdn
      | lst xs =>
        show false = (areNums (.lst xs) 20 0 19 && rises (intsOf xs))
        rw [hn]
        rfl
      | _ => rfl
    | true =>
      refine ⟨fun _ => ?_, fun z => (nomatch z)⟩
      obtain ⟨xs, rfl⟩ : ∃ xs, d = .lst xs := by
        cases d <;> simp [areNums] at hn
        exact ⟨_, rfl⟩
      obtain ⟨ys, rfl, hy1, hy2, hy3⟩ := areNums_ints hn
      have hl : Ls μ x (ys.map D.int) := by
        cases fz with
        | id => exact .lst _
        | own h => exact .own h
      refine de_cb (da_cons ?_)
      refine lc_map (fun d => match d with | .int k => (match ys[k.toNat]?, ys[k.toNat + 1]? with | some a, some b => .bl (decide (a < b)) | _, _ => .non) | _ => .non) (gw_name (by simp)) ?_
      wtm_at "A"
      refine rc_lenL hl ?_
      rw [List.length_map]
      wtm_at "A"
      refine ⟨by omega, by omega, trivial, by rw [rangeD_length]; omega, fun i d hd => ?_, fun out ho => ?_⟩
      · obtain ⟨hi, rfl⟩ := rangeD_some hd
        have e1 : ys[i]? = some (ys[i]'(by omega)) := List.getElem?_eq_getElem _
        have e2 : ys[i + 1]? = some (ys[i + 1]'(by omega)) := List.getElem?_eq_getElem _
        wtm_at "A"
        refine ⟨rfl, ?_⟩
        wtm_at "A"
        refine ro_ixL hl (at_map (j := i) (by omega) e1) ?_
        wtm_at "A"
        refine ro_ixL hl (at_map (j := i + 1) (by omega) e2) ?_
        wtm_at "A"
        refine ⟨?_, rfl⟩
        simp only [show (0 + (i : Int)).toNat = i by omega, e1, e2]
      · have ho : out = ((List.range (ys.length - 1)).map fun i : Nat => decide (ys.getD i 0 < ys.getD (i + 1) 0)).map D.bl := by
          rw [← ho]
          unfold rangeD
          rw [List.map_map, List.map_map, show ((ys.length : Int) - 1).toNat = ys.length - 1 by omega]
          refine List.map_congr_left fun i hi => ?_
          have hi := List.mem_range.mp hi
          have e1 : ys[i]? = some (ys[i]'(by omega)) := List.getElem?_eq_getElem _
          have e2 : ys[i + 1]? = some (ys[i + 1]'(by omega)) := List.getElem?_eq_getElem _
          simp only [Function.comp, show (0 + (i : Int)).toNat = i by omega, e1, e2, List.getD_eq_getElem?_getD, Option.getD_some]
        subst ho
        wtm_at "A"
        refine rc_all (.lst _) ?_
        refine ret _ ?_
        show _ = (areNums (.lst (ys.map D.int)) 20 0 19 && rises (intsOf (ys.map D.int)))
        rw [hn, intsOf_int, Bool.true_and, Bool.eq_iff_iff, rises_iff, List.all_map, List.all_eq_true]
        constructor
        · intro q i a b ha hb
          have hi := (List.getElem?_eq_some_iff.mp hb).1
          have := q i (List.mem_range.mpr (by omega))
          simpa [List.getD_eq_getElem?_getD, ha, hb] using this
        · intro q i hi
          have hi := List.mem_range.mp hi
          have e1 : ys[i]? = some (ys[i]'(by omega)) := List.getElem?_eq_getElem _
          have e2 : ys[i + 1]? = some (ys[i + 1]'(by omega)) := List.getElem?_eq_getElem _
          simpa [List.getD_eq_getElem?_getD, e1, e2] using q i _ _ e1 e2
theorem ro_inFl {y : D} {μ : Mu} {P : D → Mu → Prop} (hf : flatD y = true) (h : P (.bl (inOffD y)) μ) : RO K (rInA K) y (.tup [.str "off", .str "rest"]) μ P := fun G H al v w A r1 r2 Q hQ => by
  obtain ⟨a, vs, rfl, sq, rs⟩ := (Ts.tup _).get A r2
  have e : vs = (["off", "rest"] : List Str).map V.str := Rps.strs (ns := ["off", "rest"]) rs
  subst e
  have hv : flatV v = true := by
    cases y <;> simp [flatD] at hf <;> cases r1 <;> rfl
  refine .inl ⟨a, _, rfl, .inr sq, hv, flat_strs _, hQ.now A (.bl _) ?_⟩
  rw [if_neg (by simp)]
  have e : inV v ((["off", "rest"] : List Str).map V.str) = inOffD y := by
    cases y <;> simp [flatD] at hf <;> cases r1
    · rfl
    · rfl
    · rfl
    · rw [inV_strs]
      simp [inOffD]
  rw [e]
  exact h
theorem d_is_put : ∀ ds μ P PX, c_is_put K ds μ P PX → MuCl μ μ.length → clL ds μ.length = true → ∀ B E, XAg K B (RetX μ.length PX) E → DS K B (t_is_put K E) (startD ["pair"] ds) μ (fnE μ.length P) := by
  intro ds μ P PX h hm hc B E hE
  obtain ⟨d, rfl, hx, h⟩ := h
  have ret : ∀ b, b = isPutD d → Ret μ.length P (.bl b) μ := fun b e => ret_same0 (Nat.le_refl _) hm rfl (by rw [e]; exact h)
  show DS K B _ [some d] μ _
  unfold t_is_put
  refine ds_ret (de_andV (de_cb ?_))
  wtm_at "g"
  refine rc_isiD hx.dat (by decide) ?_
  refine ⟨_, rfl, ?_⟩
  cases ht : isTy d "tuple" with
  | false =>
    refine ⟨fun z => (nomatch z), fun _ => ret false ?_⟩
    cases d <;> first | rfl | simp [isTy] at ht
  | true =>
    obtain ⟨ys, rfl⟩ := isTy_tuple ht
    have hyd : ∀ x ∈ ys, x.dat = true := by
      have := hx.dat
      rw [D.dat, datL_iff] at this
      exact this
    refine ⟨fun _ => ?_, fun z => (nomatch z)⟩
    refine de_andV (de_op ?_)
    wtm_at "g"
    refine rc_lenT' (.tup _) ?_
    wtm_at "g"
    by_cases hy2 : ys.length = 2
    · obtain ⟨a, b, rfl⟩ : ∃ a b, ys = [a, b] := by
        match ys, hy2 with
        | [a, b], _ => exact ⟨a, b, rfl⟩
      obtain ⟨h1, h2⟩ := hx.two a b rfl
      refine ⟨_, rfl, ?_⟩
      rw [show decide ((([a, b] : List D).length : Int) = 2) = true from rfl]
      refine ⟨fun _ => ?_, fun z => (nomatch z)⟩
      refine de_andV (de_call hE ?_)
      wtm_at "g"
      refine ro_ixT (.tup _) (i := 0) rfl ?_
      wtm_at "g"
      refine ⟨a, rfl, hyd a (by simp), h1, ?_⟩
      refine ⟨_, rfl, ?_⟩
      cases ha : isNameD a with
      | false =>
        refine ⟨fun z => (nomatch z), fun _ => ret false ?_⟩
        cases a with
        | str n => cases b with
          | str s =>
            have ha : decide (nameOk n) = false := ha
            show false = (decide (nameOk n) && decide (s = "off" ∨ s = "rest"))
            rw [ha]
            rfl
          | _ => rfl
        | _ => rfl
      | true =>
        obtain ⟨n, rfl⟩ : ∃ n, a = .str n := by cases a <;> simp [isNameD] at ha; exact ⟨_, rfl⟩
        refine ⟨fun _ => ?_, fun z => (nomatch z)⟩
        refine de_op (de_op ?_)
        wtm_at "g"
        refine ro_ixT (.tup _) (i := 1) rfl ?_
        refine de_tupZ ?_
        wtm_at "E"
        refine ro_inFl h2 (ret _ ?_)
        have ha : decide (nameOk n) = true := ha
        cases b with
        | str s =>
          show decide (s = "off" ∨ s = "rest") = (decide (nameOk n) && decide (s = "off" ∨ s = "rest"))
          rw [ha]
          rfl
        | _ => rfl
    · refine ⟨_, rfl, ?_⟩
      rw [show decide ((ys.length : Int) = 2) = false by simp; omega]
      refine ⟨fun z => (nomatch z), fun _ => ret false ?_⟩
      unfold isPutD
      split
      · rename_i q
        injection q with q
        subst q
        exact absurd rfl hy2
      · rfl
theorem ded_nodup : ∀ (xs : List Str), xs.Nodup → ∀ i, i ≤ xs.length → DlSet.ded xs i = xs.take i
  | xs, h, 0, _ => by simp [DlSet.ded]
  | xs, h, i + 1, hi => by
    have e : xs[i]? = some (xs[i]'(by omega)) := List.getElem?_eq_getElem _
    rw [DlSet.ded_succ e, ded_nodup xs h i (by omega), if_neg, List.take_add_one, e]
    · rfl
    · intro hx
      rw [List.any_eq_true] at hx
      obtain ⟨y, hy, ey⟩ := hx
      have ey' : y = xs[i] := by simpa using ey
      subst ey'
      obtain ⟨j, hj, ej⟩ := List.mem_take_iff_getElem.mp hy
      have hj' : j < i := by omega
      exact (List.pairwise_iff_getElem.mp h j i (by omega) (by omega) hj') ej
theorem acts_get {ss : List (Str × Str)} {i : Nat} {d : D} (h : (ss.map actD)[i]? = some d) : ∃ s, ss[i]? = some s ∧ d = actD s := by
  rw [List.getElem?_map] at h
  cases q : ss[i]? with
  | none => rw [q] at h; cases h
  | some s => rw [q] at h; exact ⟨s, rfl, (Option.some.inj h).symm⟩
def actN : D → D
  | .tup [n, _] => n
  | _ => .non
theorem ded_take (xs : List Str) (i : Nat) : DlSet.ded xs i = DlSet.ded (xs.take i) i := by
  unfold DlSet.ded
  rw [List.take_take, Nat.min_self]
theorem ded_full (xs : List Str) : ∀ i, i ≤ xs.length → (DlSet.ded xs i).length = i → (xs.take i).Nodup
  | 0, _, _ => by simp
  | i + 1, hi, h => by
    have e : xs[i]? = some (xs[i]'(by omega)) := List.getElem?_eq_getElem _
    have hle := DlSet.ded_len xs i
    rw [DlSet.ded_succ e] at h
    split at h
    · omega
    · rename_i hx
      rw [List.length_append] at h
      have hi' : (DlSet.ded xs i).length = i := by simpa using h
      have nd := ded_full xs i (by omega) hi'
      have ed : DlSet.ded xs i = xs.take i := by
        rw [ded_take, ded_nodup _ nd i (by rw [List.length_take]; omega), List.take_take, Nat.min_self]
      rw [ed] at hx
      rw [List.take_add_one, e]
      show (xs.take i ++ [xs[i]]).Nodup
      rw [List.nodup_append]
      refine ⟨nd, by simp, fun a ha b hb => ?_⟩
      simp at hb
      subst hb
      exact fun q => hx (List.any_eq_true.mpr ⟨a, ha, by simp [q]⟩)
theorem ded_iff (xs : List Str) : decide (((DlSet.ded xs xs.length).length : Int) = (xs.length : Int)) = decide xs.Nodup := by
  rw [Bool.eq_iff_iff, decide_eq_true_eq, decide_eq_true_eq]
  constructor
  · intro h
    have := ded_full xs xs.length (Nat.le_refl _) (by omega)
    rwa [List.take_length] at this
  · intro h
    rw [ded_nodup _ h _ (Nat.le_refl _), List.take_length]
theorem puts_all : ∀ {xs : List D}, xs.all isPutD = true → ∃ ps : List (Str × Str), xs = ps.map actD ∧ ∀ p ∈ ps, nameOk p.1 ∧ (p.2 = "off" ∨ p.2 = "rest")
  | [], _ => ⟨[], rfl, by simp⟩
  | x :: xs, h => by
    rw [List.all_cons, Bool.and_eq_true] at h
    obtain ⟨ps, rfl, hp⟩ := puts_all h.2
    have h1 := h.1
    unfold isPutD at h1
    split at h1
    · rename_i n s
      simp only [Bool.and_eq_true, decide_eq_true_eq] at h1
      exact ⟨(n, s) :: ps, rfl, fun p hp' => by
        rcases List.mem_cons.mp hp' with rfl | hp'
        · exact h1
        · exact hp p hp'⟩
    · cases h1
theorem acts_all {ps : List (Str × Str)} (h : ActsOk ps) : (ps.map actD).all isPutD = true := by
  rw [List.all_map, List.all_eq_true]
  intro p hp
  obtain ⟨h1, h2⟩ := h.each p hp
  show (decide (nameOk p.1) && decide (p.2 = "off" ∨ p.2 = "rest")) = true
  rw [decide_eq_true h1, decide_eq_true h2]
  rfl
theorem rc_notList {x : D} {μ : Mu} {P : D → Mu → Prop} (h : datA x) (hl : ¬ ∃ xs, x = .lst xs) (p : P (.bl false) μ) : RC K (rIsi K) [x, .ty "list"] μ P := by
  rcases h with hd | ⟨gs, rfl⟩
  · refine rc_isiD hd (by decide) ?_
    rw [show isTy x "list" = false by cases x <;> first | rfl | exact absurd ⟨_, rfl⟩ hl]
    exact p
  · exact rc_isiB (n := "dict") rfl (by rfl) p
theorem d_good_puts : ∀ ds μ P PX, c_good_puts K ds μ P PX → MuCl μ μ.length → clL ds μ.length = true → ∀ B E, XAg K B (RetX μ.length PX) E → DS K B (t_good_puts K E) (startD ["puts", "pair", "name", "sort"] ds) μ (fnE μ.length P) := by
  intro ds μ P PX h hm hc B E hE
  obtain ⟨x, d, rfl, fz, hX, hy, hn⟩ := h
  have yes : (∃ ps, PutsIs d ps) → Ret μ.length P (.bl true) μ := fun q => ret_same0 (Nat.le_refl _) hm rfl (hy q)
  have no : (¬ ∃ ps, PutsIs d ps) → Ret μ.length P (.bl false) μ := fun q => ret_same0 (Nat.le_refl _) hm rfl (hn q)
  show DS K B _ [some x, none, none, none] μ _
  unfold t_good_puts
  by_cases hx : x = .non
  · subst hx
    obtain rfl : D.non = d := by cases fz; rfl
    wtm_at "A"
    exact yes ⟨[], ⟨by simp, by simp, by simp⟩, .inr ⟨rfl, rfl⟩⟩
  refine q_when (dt_B (de_isNZ ?_))
  wtm_at "v"
  refine np_f hx ⟨false, rfl, fun z => absurd z (by simp), fun _ => ?_⟩
  have hdn : d ≠ .non := fun e => by
    subst e
    cases fz
    exact hx rfl
  by_cases hlst : ∃ xs, d = .lst xs
  · obtain ⟨xs, rfl⟩ := hlst
    have hl : Ls μ x xs := by
      cases fz with
      | id => exact .lst _
      | own h => exact .own h
    have ht : tyD μ x = some "list" := by
      cases fz with
      | id => rfl
      | own h => simp [tyD, h]
    have hxd : ∀ y ∈ xs, y.dat = true := by
      rcases hX.dat with this | ⟨gs, e⟩
      · rw [D.dat, datL_iff] at this
        exact this
      · cases e
    obtain ⟨S, wk⟩ := hl.wk
    refine q_when (dt_or (dt_not (dt_truth (de_cb ?_))))
    wtm_at "g"
    refine rc_isiB ht (by rfl) ?_
    refine ⟨_, rfl, fun _ => ?_, fun z => (nomatch z)⟩
    refine dt_or (dt_test (de_op ?_))
    wtm_at "g"
    refine rc_lenL hl ?_
    wtm_at "g"
    refine ⟨_, rfl, fun hb => ?_, fun hb => ⟨fun _ => ?_, fun z => (nomatch z)⟩⟩
    · have h4 : xs.length ≤ 4 := by
        have : ¬ ((4 : Int) < (xs.length : Int)) := by simpa using hb
        omega
      refine dt_not (dt_truth (de_cb (da_cons ?_)))
      refine lc_map (fun d => .bl (isPutD d)) (gw_name (by simp)) ?_
      refine di_any ?_
      wtm_at "v"
      refine ⟨xs, S, wk, wk.now, by omega, fun i d hd => ?_, fun out ho => ?_⟩
      · have hdm := List.mem_of_getElem? hd
        refine dg_name ⟨rfl, de_call XAg.none ?_⟩
        wtm_at "E"
        exact ⟨d, rfl, hX.each xs rfl h4 d hdm, rfl, rfl⟩
      refine da_nil (rc_all (bs := xs.map isPutD) (by rw [← ho, List.map_map]; exact .lst _) ?_)
      rw [List.all_map]
      show ∃ b, D.bl (xs.all isPutD) = .bl b ∧ _
      refine ⟨_, rfl, ?_⟩
      cases hall : xs.all isPutD with
      | false =>
        refine ⟨fun _ => ?_, fun z => (nomatch z)⟩
        refine ds_ret ?_
        wtm_at "E"
        refine no ?_
        rintro ⟨ps, hok, e | ⟨e, _⟩⟩
        · unfold actsD at e
          cases e
          rw [acts_all hok] at hall
          cases hall
        · cases e
      | true =>
        refine ⟨fun z => (nomatch z), fun _ => ?_⟩
        obtain ⟨ps, rfl, hps⟩ := puts_all hall
        rw [List.length_map] at h4
        refine ds_ret (de_op (de_lenSetS ?_))
        refine lc_map actN (gw_tup (gws_cons (i := 2) (vs := [2, 3]) (by simp) (gws_cons (i := 3) (by simp) gws_nil))) ?_
        refine di_any ?_
        wtm_at "v"
        refine ⟨_, S, wk, wk.now, by rw [List.length_map]; omega, fun i d hd => ?_, fun out ho => ?_⟩
        · obtain ⟨p, hpi, rfl⟩ := acts_get hd
          unfold actD
          refine dg_tup rfl ?_
          wtm_at "E"
          refine ⟨rfl, ?_⟩
          wtm_at "v"
          exact ⟨rfl, rfl⟩
        refine ⟨ps.map (·.1), by rw [← ho, List.map_map, List.map_map]; exact .lst _, by rw [List.length_map]; omega, ?_⟩
        wtm_at "g"
        refine rc_lenL hl ?_
        have e := ded_iff (ps.map (·.1))
        rw [List.length_map] at e ⊢
        refine ro_eqI ?_
        rw [List.length_map, e]
        by_cases nd : (ps.map (·.1)).Nodup
        · rw [decide_eq_true nd]
          exact yes ⟨ps, ⟨h4, hps, nd⟩, .inl rfl⟩
        · rw [decide_eq_false nd]
          refine no ?_
          rintro ⟨qs, hok, e | ⟨e, _⟩⟩
          · rw [actsD_inj (ps := ps) e] at nd
            exact nd hok.nd
          · cases e
    · have h4 : ¬ xs.length ≤ 4 := by
        have : ((4 : Int) < (xs.length : Int)) := by simpa using hb
        omega
      refine ds_ret ?_
      wtm_at "E"
      refine no ?_
      rintro ⟨ps, hok, e | ⟨e, _⟩⟩
      · unfold actsD at e
        cases e
        rw [List.length_map] at h4
        exact h4 hok.most
      · cases e
  · obtain rfl : x = d := by
      cases fz with
      | id => rfl
      | own h => exact absurd ⟨_, rfl⟩ hlst
    refine q_when (dt_or (dt_not (dt_truth (de_cb ?_))))
    wtm_at "g"
    refine rc_notList hX.dat hlst ?_
    refine ⟨_, rfl, fun z => (nomatch z), fun _ => ⟨fun _ => ?_, fun z => (nomatch z)⟩⟩
    refine ds_ret ?_
    wtm_at "E"
    refine no ?_
    rintro ⟨ps, hok, e | ⟨e, _⟩⟩
    · exact hlst ⟨_, e⟩
    · exact hdn e
theorem cl_kept (k : Option (List Int)) (n : Nat) : (keptD k).cl n = true := by
  cases k with
  | none => rfl
  | some ys => simp only [keptD, intsD, D.cl, cl_ints]
theorem cl_acts (ps : List (Str × Str)) (n : Nat) : (actsD ps).cl n = true := by
  unfold actsD D.cl
  exact clL_map fun x _ => by simp [actD, D.cl, clL]
theorem Fz.set {μ : Mu} {x d : D} {k : Nat} {o : MO} {C : Addr} {gs : List (Str × D)} (h : Fz μ x d) (hk : μ[k]? = some (.ins C gs)) : Fz (μ.set k o) x d := by
  cases h with
  | id => exact .id _
  | @own j ds h =>
    have : k ≠ j := fun e => by rw [e, h] at hk; cases hk
    exact .own (by rw [List.getElem?_set_ne this]; exact h)
theorem Fz.list {μ : Mu} {x : D} {ds : List D} (h : Fz μ x (.lst ds)) : Ls μ x ds := by
  cases h with
  | id => exact .lst _
  | own h => exact .own h
theorem d_Feast_init (kf : KFe K) : ∀ ds μ P PX, c_Feast_init K ds μ P PX → MuCl μ μ.length → clL ds μ.length = true → ∀ B E, XAg K B (RetX μ.length PX) E → DS K B (t_Feast_init K E) (startD ["self", "name", "place", "days", "years", "puts"] ds) μ (fnE μ.length P) := by
  intro ds μ P PX h hm hc B E hE
  obtain ⟨k, a, b, c, xk, dk, xp, dp, rfl, hk, had, hal, hbd, hcd, fk, hkd, fp, hpx, hyes, hno⟩ := h
  show DS K B _ [some (.own k), some a, some b, some c, some xk, some xp] μ _
  have c1 := kf.cl; have c2 := kf.name; have c3 := kf.place; have c4 := kf.lasts; have c5 := kf.kept; have c6 := kf.acts
  have hset : ∀ z, (μ.set k z)[k]? = some z := fun z => set_get hk
  have bad : (∀ f, ¬ FeIs a b c dk dp f) → ∀ (ρ : En) (Pe : DEnds), DS K B (tRaise0 (He.ga K "BadFeast") E) ρ μ Pe := fun hn ρ Pe => ds_raise0 hE (retx_same0 hm rfl (hno hn))
  unfold t_Feast_init
  refine q_when (dt_or (dt_not (dt_truth (de_call hE ?_))))
  wtm_at "E"
  refine ⟨a, rfl, had, hal, ?_⟩
  refine ⟨_, rfl, ?_⟩
  cases ha : isNameD a with
  | false =>
    refine ⟨fun z => (nomatch z), fun _ => ⟨fun _ => bad (fun f q => ?_) _ _, fun z => (nomatch z)⟩⟩
    rw [q.a] at ha
    exact absurd q.good.name (by simpa [isNameD] using ha)
  | true =>
  obtain ⟨name, rfl⟩ : ∃ n, a = .str n := by cases a <;> simp [isNameD] at ha; exact ⟨_, rfl⟩
  have hn : nameOk name := by simpa [isNameD] using ha
  refine ⟨fun _ => ?_, fun z => (nomatch z)⟩
  refine dt_or (dt_not (dt_truth (de_call hE ?_)))
  wtm_at "E"
  refine ⟨b, _, _, rfl, hbd, ?_⟩
  refine ⟨_, rfl, ?_⟩
  cases hb : isNum b (-400) 399 with
  | false =>
    refine ⟨fun z => (nomatch z), fun _ => ⟨fun _ => bad (fun f q => ?_) _ _, fun z => (nomatch z)⟩⟩
    rw [q.b] at hb
    have h1 := q.good.p0; have h2 := q.good.p1
    simp [isNum] at hb
    omega
  | true =>
  obtain ⟨place, rfl⟩ : ∃ n, b = .int n := by cases b <;> simp [isNum] at hb; exact ⟨_, rfl⟩
  have hb : -400 ≤ place ∧ place ≤ 399 := by simpa [isNum] using hb
  refine ⟨fun _ => ?_, fun z => (nomatch z)⟩
  refine dt_not (dt_truth (de_call hE ?_))
  wtm_at "E"
  refine ⟨c, _, _, rfl, hcd, ?_⟩
  refine ⟨_, rfl, ?_⟩
  cases hcc : isNum c 1 40 with
  | false =>
    refine ⟨fun _ => bad (fun f q => ?_) _ _, fun z => (nomatch z)⟩
    rw [q.c] at hcc
    have h1 := q.good.l0; have h2 := q.good.l1
    simp [isNum] at hcc
    omega
  | true =>
  obtain ⟨lasts, rfl⟩ : ∃ n, c = .int n := by cases c <;> simp [isNum] at hcc; exact ⟨_, rfl⟩
  have hcc : 1 ≤ lasts ∧ lasts ≤ 40 := by simpa [isNum] using hcc
  refine ⟨fun z => (nomatch z), fun _ => ?_⟩
  refine q_when (dt_or (dt_not (dt_truth (de_call hE ?_))))
  wtm_at "E"
  refine ⟨xk, dk, rfl, fk, hkd, ?_⟩
  refine ⟨_, rfl, ?_⟩
  cases hgy : goodYs dk with
  | false =>
    refine ⟨fun z => (nomatch z), fun _ => ⟨fun _ => bad (fun f q => ?_) _ _, fun z => (nomatch z)⟩⟩
    rw [q.k, goodYs_of q.good.kept] at hgy
    cases hgy
  | true =>
  obtain ⟨kp, rfl, hkp⟩ := goodYs_is hgy
  refine ⟨fun _ => ?_, fun z => (nomatch z)⟩
  refine dt_not (dt_truth (de_call hE ?_))
  wtm_at "E"
  refine ⟨xp, dp, rfl, fp, hpx, fun hps => ⟨_, rfl, fun z => (nomatch z), fun _ => ?_⟩, fun hps => ⟨_, rfl, fun _ => bad (fun f q => hps ⟨f.acts, q.p⟩) _ _, fun z => (nomatch z)⟩⟩
  obtain ⟨acts, hps⟩ := hps
  obtain ⟨f, hf⟩ : ∃ f : FeT, f = ⟨name, place, lasts, kp, acts⟩ := ⟨_, rfl⟩
  have e1 : name = f.name := by rw [hf]
  have e2 : place = f.place := by rw [hf]
  have e3 : lasts = f.lasts := by rw [hf]
  have e4 : kp = f.kept := by rw [hf]
  have e5 : acts = f.acts := by rw [hf]
  subst e1
  subst e2
  subst e3
  subst e4
  subst e5
  have hg : GFe f := ⟨hn, hb.1, hb.2, hcc.1, hcc.2, hkp, hps.1⟩
  have h := hyes f ⟨hg, rfl, rfl, rfl, rfl, hps⟩
  wtm_at "A"
  refine pp_own hk c1 c2 (of_decide_eq_true (by rfl)) ?_
  wtm_at "A"
  refine pp_own (hset _) c1 c3 (of_decide_eq_true (by rfl)) ?_
  rw [set_set']
  wtm_at "A"
  refine pp_own (hset _) c1 c4 (of_decide_eq_true (by rfl)) ?_
  rw [set_set']
  generalize hz : MO.ins (cFe K) (putD "lasts" (.int f.lasts) (putD "place" (.int f.place) (putD "name" (.str f.name) []))) = z
  have kE : DE K B (tIf (tB (tIsN (tVar 4))) (tC .non) (tCB (rListOf K) (tCons (tVar 4) tNil))) [some (.own k), some (.str f.name), some (.int f.place), some (.int f.lasts), some xk, some xp] (μ.set k z) (fun d μ' => d = keptD f.kept ∧ μ' = μ.set k z) := by
    have fk' := fk.set (o := z) hk
    cases q : f.kept with
    | none =>
      rw [q] at fk'
      have hx : xk = .non := by
        unfold keptD at fk'
        cases fk' with
        | id => rfl
      subst hx
      wtm_at "A"
      exact ⟨rfl, rfl⟩
    | some ys =>
      rw [q] at fk'
      unfold keptD intsD at fk'
      have hne : xk ≠ .non := by
        intro e
        subst e
        cases fk'
      wtm_at "E"
      refine np_f hne ?_
      wtm_at "E"
      refine rc_list fk'.list ?_
      exact ⟨rfl, rfl⟩
  wtm_at "s3"
  refine kE.imp ?_
  rintro d μ' ⟨rfl, rfl⟩
  wtm_at "A"
  refine pp_own (by rw [← hz]; exact hset _) c1 c5 (of_decide_eq_true (by rfl)) ?_
  rw [set_set']
  have fp' := fp.set (o := MO.ins (cFe K) (putD "kept" (keptD f.kept) (putD "lasts" (.int f.lasts) (putD "place" (.int f.place) (putD "name" (.str f.name) []))))) hk
  have kE2 : DE K B (tIf (tB (tIsN (tVar 5))) (tLst tNil) (tCB (rListOf K) (tCons (tVar 5) tNil))) [some (.own k), some (.str f.name), some (.int f.place), some (.int f.lasts), some xk, some xp] (μ.set k (MO.ins (cFe K) (putD "kept" (keptD f.kept) (putD "lasts" (.int f.lasts) (putD "place" (.int f.place) (putD "name" (.str f.name) [])))))) (fun d μ' => d = actsD f.acts ∧ μ' = μ.set k (MO.ins (cFe K) (putD "kept" (keptD f.kept) (putD "lasts" (.int f.lasts) (putD "place" (.int f.place) (putD "name" (.str f.name) [])))))) := by
    rcases hps.2 with e | ⟨e, e2⟩
    · subst e
      unfold actsD at fp'
      have hne : xp ≠ .non := by
        intro e
        subst e
        cases fp'
      wtm_at "E"
      refine np_f hne ?_
      wtm_at "E"
      refine rc_list fp'.list ?_
      exact ⟨rfl, rfl⟩
    · subst e
      have hx : xp = .non := by
        cases fp' with
        | id => rfl
      subst hx
      refine de_if (dt_B (de_isNZ ?_))
      wtm_at "v"
      refine np_t ⟨true, rfl, fun _ => ?_, fun z => absurd z (by simp)⟩
      refine de_lstZ ?_
      wtm_at "E"
      exact ⟨by rw [e2]; rfl, rfl⟩
  wtm_at "s3"
  refine kE2.imp ?_
  rintro d μ' ⟨rfl, rfl⟩
  wtm_at "E"
  refine pp_own (hset _) c1 c6 (of_decide_eq_true (by rfl)) ?_
  rw [set_set']
  refine ret_same0 (by simp) ?_ rfl h
  rw [List.length_set]
  refine hm.set ?_
  show clF (feF f) _ = true
  simp only [clF, feF, D.cl, cl_kept, cl_acts, Bool.and_self]
theorem d_Feast_span (kf : KFe K) : ∀ ds μ P PX, c_Feast_span K ds μ P PX → MuCl μ μ.length → clL ds μ.length = true → ∀ B E, XAg K B (RetX μ.length PX) E → DS K B (t_Feast_span K E) (startD ["self", "calendar", "year", "days", "place", "first"] ds) μ (fnE μ.length P) := by
  intro ds μ P PX h hm hc B E hE
  obtain ⟨f, ls, y, rfl, hg, h, hx⟩ := h
  show DS K B _ [some (feD K f), some (calD K ls), some (.int y), none, none, none] μ _
  have c1 := kf.cl; have c2 := kf.name; have c3 := kf.place; have c4 := kf.lasts; have c5 := kf.kept; have c6 := kf.acts
  have hp := hg.pos
  unfold t_Feast_span
  wtm_at "A"
  refine ⟨y, rfl, fun hy => ?_, fun hy => retx_same0 hm rfl (hx hy)⟩
  have h := h hy
  have none_ : spanOf ls f y = none → Ret μ.length P .non μ := fun e => by
    rw [e] at h
    wtm_at "r"
    exact h
  have hkept : DT K B (tAnd (tB (tNotN (tFld K (tVar 0) "kept"))) (tTest (tOp (rNotInA K) (tOp rModA (tVar 2) (tCB (rLen K) (tCons (tMeth (He.ga K "Calendar") "years" (spD K (c_Calendar_years K)) [] E (tVar 1) tNil) tNil))) (tFld K (tVar 0) "kept")))) [some (feD K f), some (calD K ls), some (.int y), none, none, none] μ (fun b μ1 => b = !keptIn ls f y ∧ μ1 = μ) := by
    unfold keptIn
    cases q : f.kept with
    | none =>
      wtm_at "A"
      rw [q]
      refine np_t ?_
      wtm_at "A"
      exact ⟨rfl, rfl⟩
    | some ys =>
      have hq : keptD f.kept = intsD ys := by rw [q]; rfl
      wtm_at "A"
      rw [hq]
      refine np_lst ?_
      wtm_at "A"
      refine ⟨ls, rfl, .inl ?_⟩
      wtm_at "A"
      rw [List.length_map]
      wtm_at "A"
      rw [hq]
      refine ro_notInI (.lst _) ?_
      wtm_at "A"
      exact ⟨rfl, rfl⟩
  refine q_when (dt_imp hkept ?_)
  rintro b μ' ⟨rfl, rfl⟩
  refine br (fun hb => ?_) (fun hb => ?_)
  · wtm_at "A"
    refine none_ ?_
    unfold spanOf
    rw [if_pos (by simpa using hb)]
  have hkp : keptIn ls f y = true := by simpa using hb
  wtm_at "A"
  refine ⟨ls, y, rfl, hg, fun _ => ?_, fun hy' => absurd hy' (by omega)⟩
  have pE : DE K B (tIf (tTest (tOp (rI0 fun i j => .bl (decide (j ≤ i))) (tFld K (tVar 0) "place") (tC (.int 0)))) (tFld K (tVar 0) "place") (tOp (rAddA K) (tVar 3) (tFld K (tVar 0) "place"))) [some (feD K f), some (calD K ls), some (.int y), some (.int (longY ls y)), none, none] μ' (fun d μ1 => d = .int (if 0 ≤ f.place then f.place else longY ls y + f.place) ∧ μ' = μ1) := by
    wtm_at "A"
    · rename_i hb; exact ⟨by rw [if_pos hb], rfl⟩
    · rename_i hb; exact ⟨by rw [if_neg hb], rfl⟩
  wtm_at "dS"
  refine pE.imp ?_
  rintro d μ1 ⟨rfl, rfl⟩
  generalize hpl : (if 0 ≤ f.place then f.place else longY ls y + f.place) = p at *
  have out : ¬ (0 ≤ p ∧ p < longY ls y) → Ret μ'.length P .non μ' := fun hn => none_ (by
    unfold spanOf
    rw [if_neg (by rw [hkp]; simp)]
    simp only [hpl]
    rw [if_neg hn])
  wtm_at "A"
  · exact out (by omega)
  · refine ⟨ls, y, rfl, hg, fun _ => ?_, fun hy' => absurd hy' (by omega)⟩
    wtm_at "A"
    wtm_at "r"
    have e : spanOf ls f y = some (firstY ls y + p, firstY ls y + min (p + f.lasts) (longY ls y)) := by
      unfold spanOf
      rw [if_neg (by rw [hkp]; simp)]
      simp only [hpl]
      rw [if_pos (by omega)]
    rw [e] at h
    exact h
  · exact out (by omega)
end
/-! ### draws of the calendar laws: contracts -/
/-- what is held: how many draws so far, the cells -/
structure Hd (k k2 : Nat) (c : Int) (ns : List Int) (μ : Mu) : Prop where
  a : μ[k]? = some (.lst [.int c, .own k2])
  b : μ[k2]? = some (.lst (ns.map D.int))
  ne : k ≠ k2
  c0 : 0 ≤ c
  n0 : 0 < ns.length
  n1 : ns.length ≤ 1000
def hold (μ : Mu) (k k2 : Nat) (c : Int) (ns : List Int) : Mu := (μ.set k (.lst [.int c, .own k2])).set k2 (.lst (ns.map D.int))
theorem hold_len {μ : Mu} {k k2 : Nat} {c : Int} {ns : List Int} : (hold μ k k2 c ns).length = μ.length := by simp [hold]
theorem hold_hold {μ : Mu} {k k2 : Nat} {c c' : Int} {ns ns' : List Int} (ne : k ≠ k2) : hold (hold μ k k2 c ns) k k2 c' ns' = hold μ k k2 c' ns' := by
  unfold hold
  rw [List.set_comm _ _ (Ne.symm ne), List.set_set, List.set_set]
theorem Hd.hold {μ : Mu} {k k2 : Nat} {c c' : Int} {ns ns' : List Int} (h : Hd k k2 c ns μ) (hc : 0 ≤ c') (hn : ns'.length = ns.length) : Hd k k2 c' ns' (Dl.hold μ k k2 c' ns') := by
  have h1 := (List.getElem?_eq_some_iff.mp h.a).1
  have h2 := (List.getElem?_eq_some_iff.mp h.b).1
  refine ⟨?_, ?_, h.ne, hc, by have := h.n0; omega, by have := h.n1; omega⟩
  · unfold Dl.hold
    rw [List.getElem?_set_ne (Ne.symm h.ne), List.getElem?_set_self h1]
  · unfold Dl.hold
    rw [List.getElem?_set_self (by simpa using h2)]
theorem Hd.app {μ : Mu} {k k2 : Nat} {c : Int} {ns : List Int} (h : Hd k k2 c ns μ) (ext : Mu) : Hd k k2 c ns (μ ++ ext) := ⟨mu_old h.a, mu_old h.b, h.ne, h.c0, h.n0, h.n1⟩
theorem hold_app {μ ext : Mu} {k k2 : Nat} {c c' : Int} {ns ns' : List Int} (h : Hd k k2 c ns μ) : hold (μ ++ ext) k k2 c' ns' = hold μ k k2 c' ns' ++ ext := by
  have h1 := (List.getElem?_eq_some_iff.mp h.a).1
  have h2 := (List.getElem?_eq_some_iff.mp h.b).1
  unfold hold
  rw [List.set_append_left _ _ h1, List.set_append_left _ _ (by simpa using h2)]
theorem hold_same {μ : Mu} {k k2 : Nat} {c : Int} {ns : List Int} (h : Hd k k2 c ns μ) : hold μ k k2 c ns = μ := by
  unfold hold
  have h1 : (μ.set k (.lst [.int c, .own k2])) = μ := by
    apply List.ext_getElem?
    intro i
    by_cases e : k = i
    · subst e; rw [List.getElem?_set_self (List.getElem?_eq_some_iff.mp h.a).1, h.a]
    · rw [List.getElem?_set_ne e]
  rw [h1]
  apply List.ext_getElem?
  intro i
  by_cases e : k2 = i
  · subst e; rw [List.getElem?_set_self (List.getElem?_eq_some_iff.mp h.b).1, h.b]
  · rw [List.getElem?_set_ne e]
theorem hold_get {μ : Mu} {k k2 j : Nat} {c : Int} {ns : List Int} (h1 : k ≠ j) (h2 : k2 ≠ j) : (hold μ k k2 c ns)[j]? = μ[j]? := by
  unfold hold
  rw [List.getElem?_set_ne h2, List.getElem?_set_ne h1]
theorem Hd.cl {μ : Mu} {k k2 : Nat} {c c' : Int} {ns ns' : List Int} (h : Hd k k2 c ns μ) (hm : MuCl μ μ.length) : MuCl (Dl.hold μ k k2 c' ns') (Dl.hold μ k k2 c' ns').length := by
  have h2 := (List.getElem?_eq_some_iff.mp h.b).1
  rw [hold_len]
  unfold Dl.hold
  refine (hm.set ?_).set ?_
  · simp [MO.cl, clL, D.cl, h2]
  · simp only [MO.cl]
    exact clL_map fun x _ => by simp [D.cl]
def c_law_draw (K : PySem.W.Frag) : CT := fun ds μ P PX => ∃ (k k2 : Nat) (c : Int) (ns : List Int) (m : Int), ds = [.own k, .int m] ∧ Hd k k2 c ns μ ∧ c < 2 ^ 40 ∧ 0 < m ∧ m < 2 ^ 200 ∧ ∀ (r : Int) (ns' : List Int), 0 ≤ r → r < m → ns'.length = ns.length → P (.int r) (hold μ k k2 (c + 1) ns')
def c_law_far (K : PySem.W.Frag) : CT := fun ds μ P PX => ∃ (k k2 : Nat) (c : Int) (ns : List Int), ds = [.own k] ∧ Hd k k2 c ns μ ∧ c < 2 ^ 39 ∧ ∀ (r c' : Int) (ns' : List Int), 0 ≤ r → r < 10 ^ 56 → c ≤ c' → c' ≤ c + 8 → ns'.length = ns.length → P (.int r) (hold μ k k2 c' ns')
def c_law_lengths (K : PySem.W.Frag) : CT := fun ds μ P PX => ∃ (k k2 : Nat) (c : Int) (ns : List Int) (most many : Int), ds = [.own k, .int most, .int many] ∧ Hd k k2 c ns μ ∧ c < 2 ^ 39 ∧ 1 ≤ most ∧ most ≤ 1000 ∧ 1 ≤ many ∧ many ≤ 100 ∧
  ∀ (ls : List Int) (c' : Int) (ns' : List Int), 0 < ls.length → (ls.length : Int) ≤ many → (∀ x ∈ ls, 1 ≤ x ∧ x ≤ max 5 most) → c ≤ c' → c' ≤ c + 2 + many → ns'.length = ns.length → P (intsD ls) (hold μ k k2 c' ns')
def c_law_is (K : PySem.W.Frag) : CT := fun ds μ P PX => ∃ a : Int, ds = [.int a, .int a] ∧ P (.bl true) μ
/-- a list, a tuple of whole numbers -/
inductive SeqI (μ : Mu) : Bool → D → List Int → Prop
  | lst (xs : List Int) : SeqI μ true (.lst (xs.map D.int)) xs
  | own {k : Nat} {xs : List Int} (h : μ[k]? = some (.lst (xs.map D.int))) : SeqI μ true (.own k) xs
  | tup (xs : List Int) : SeqI μ false (.tup (xs.map D.int)) xs
def c_law_row_is (K : PySem.W.Frag) : CT := fun ds μ P PX => ∃ (x y : D) (b : Bool) (xs : List Int), ds = [x, y] ∧ SeqI μ b x xs ∧ SeqI μ b y xs ∧ xs.length ≤ 1000 ∧ P (.bl true) μ
def t_law_draw (K : PySem.W.Frag) (E : XK) : TS :=
    (tSeq (tAsg (tOp rModA (tOp (rIx K) (tVar 0) (tC (.int 0))) (tCB (rLen K) (tCons (tOp (rIx K) (tVar 0) (tC (.int 1))) tNil))) (gName 2))
      (tSeq (tAsg (tOp (rIx K) (tOp (rIx K) (tVar 0) (tC (.int 1))) (tVar 2)) (gName 3))
      (tSeq (tAugS (tVar 0) (tC (.int 0)) (tC (.int 1)) (rIxL K) (ipI fun i j => i + j) rSetL)
      (tSeq (tIfS (tTest (tOp (rI0 fun i j => .bl (decide (j ≤ i))) (tVar 3) (tC (.int 1000000000000000000)))) (tSeq (tAsg (tOp rFdivA (tVar 3) (tVar 1)) (gSub (tOp (rIx K) (tVar 0) (tC (.int 1))) (tVar 2) rSetL))
      (tRet (tOp rModA (tVar 3) (tVar 1)))) tNext)
      (tSeq (tAsg (tOp rModA (tOp (rAddA K) (tOp rModA (tVar 3) (tC (.int 2147483629))) (tOp rMulA (tC (.int 104729)) (tOp (rIx K) (tVar 0) (tC (.int 0))))) (tC (.int 2147483647))) (gName 4))
      (tSeq (tAsg (tOp rModA (tOp rMulA (tOp rModA (tOp (rI CPow fun i j => .int (i ^ j.toNat)) (tVar 4) (tC (.int 5))) (tC (.int 2147483647))) (tC (.int 48271))) (tC (.int 2147483629))) (gName 4))
      (tRet (tOp rModA (tOp rFdivA (tOp rModA (tOp (rI CPow fun i j => .int (i ^ j.toNat)) (tOp (rAddA K) (tVar 4) (tOp rMulA (tOp rModA (tVar 3) (tC (.int 1000003))) (tOp (rIx K) (tVar 0) (tC (.int 0))))) (tC (.int 3))) (tC (.int 2147483587))) (tC (.int 11))) (tVar 1)))))))))
def t_law_far (K : PySem.W.Frag) (E : XK) : TS :=
    (tSeq (tAsg (tCall (spD K (c_law_draw K)) [] E (tCons (tVar 0) (tCons (tC (.int 4)) tNil))) (gName 1))
      (tSeq (tIfS (tTest (tOp (rI0 fun i j => .bl (decide (i < j))) (tVar 1) (tC (.int 2)))) (tRet (tCall (spD K (c_law_draw K)) [] E (tCons (tVar 0) (tCons (tOp (rIx K) (tLst (tCons (tC (.int 1000)) (tCons (tC (.int 10000000)) tNil))) (tVar 1)) tNil)))) tNext)
      (tSeq (tAsg (tC (.int 0)) (gName 2))
      (tSeq (tFor (iRng1 (tCons (tC (.int 7)) tNil)) (gName 3) (tAsg (tOp (rAddA K) (tOp rMulA (tVar 2) (tC (.int 100000000))) (tCall (spD K (c_law_draw K)) [] E (tCons (tVar 0) (tCons (tC (.int 100000000)) tNil)))) (gName 2)))
      (tRet (tVar 2))))))
def t_law_lengths (K : PySem.W.Frag) (E : XK) : TS :=
    (tSeq (tAsg (tCall (spD K (c_law_draw K)) [] E (tCons (tVar 0) (tCons (tC (.int 8)) tNil))) (gName 3))
      (tSeq (tIfS (tTest (tOp (rEqD K) (tVar 3) (tC (.int 0)))) (tRet (tOp rMulA (tLst (tCons (tVar 1) tNil)) (tVar 2))) tNext)
      (tSeq (tAsg (tOp (rIx K) (tLst (tCons (tC (.int 1)) (tCons (tC (.int 2)) (tCons (tC (.int 5)) (tCons (tVar 1) (tCons (tVar 1) (tCons (tVar 1) (tCons (tVar 1) tNil)))))))) (tOp (rI0 fun i j => .int (i - j)) (tVar 3) (tC (.int 1)))) (gName 4))
      (tRet (tLc (iRng1 (tCons (tOp (rAddA K) (tC (.int 1)) (tCall (spD K (c_law_draw K)) [] E (tCons (tVar 0) (tCons (tVar 2) tNil)))) tNil)) (gName 5) tYes (tOp (rAddA K) (tC (.int 1)) (tCall (spD K (c_law_draw K)) [] E0 (tCons (tVar 0) (tCons (tVar 4) tNil)))) [5])))))
def t_law_is (K : PySem.W.Frag) (E : XK) : TS :=
    (tRet (tAndV (tCB (rIsi K) (tCons (tVar 0) (tCons (tC (.ty "int")) tNil))) (tAndV (tNotV (tCB (rIsi K) (tCons (tVar 0) (tCons (tC (.ty "bool")) tNil)))) (tOp (rEqD K) (tVar 0) (tVar 1)))))
def t_law_row_is (K : PySem.W.Frag) (E : XK) : TS :=
    (tSeq (tIfS (tOr (tTest (tOp (rNeD K) (tCB (rIsi K) (tCons (tVar 0) (tCons (tC (.ty "list")) tNil))) (tCB (rIsi K) (tCons (tVar 1) (tCons (tC (.ty "list")) tNil))))) (tTest (tOp (rNeD K) (tCB (rIsi K) (tCons (tVar 0) (tCons (tC (.ty "tuple")) tNil))) (tCB (rIsi K) (tCons (tVar 1) (tCons (tC (.ty "tuple")) tNil)))))) (tRet (tC (.bl false))) tNext)
      (tSeq (tIfS (tTest (tOp (rNeD K) (tCB (rLen K) (tCons (tVar 0) tNil)) (tCB (rLen K) (tCons (tVar 1) tNil)))) (tRet (tC (.bl false))) tNext)
      (tRet (tOp (rEqD K) (tLc (iRng1 (tCons (tCB (rLen K) (tCons (tVar 1) tNil)) tNil)) (gName 2) (tNot (tTruth K (tCall (spD K (c_law_is K)) [] E0 (tCons (tOp (rIx K) (tVar 0) (tVar 2)) (tCons (tOp (rIx K) (tVar 1) (tVar 2)) tNil))))) (tVar 2) [2]) (tLst tNil)))))
section
variable {K : PySem.W.Frag}
theorem d_law_draw : ∀ ds μ P PX, c_law_draw K ds μ P PX → MuCl μ μ.length → clL ds μ.length = true → ∀ B E, XAg K B (RetX μ.length PX) E → DS K B (t_law_draw K E) (startD ["_law_hold", "_law_many", "_law_spot", "_law_cell", "_law_mark"] ds) μ (fnE μ.length P) := by
  intro ds μ P PX h hm hc B E hE
  obtain ⟨k, k2, c, ns, m, rfl, hd, hc40, hm0, hm1, h⟩ := h
  show DS K B _ [some (.own k), some (.int m), none, none, none] μ _
  have hn0 := hd.n0; have hc0 := hd.c0
  unfold t_law_draw
  wtm_at "A"
  refine ro_ixL (.own hd.a) (d := .int c) rfl ?_
  wtm_at "A"
  refine ro_ixL (.own hd.a) (d := .own k2) rfl ?_
  wtm_at "A"
  refine rc_lenL (.own hd.b) ?_
  rw [List.length_map]
  wtm_at "A"
  refine ro_ixL (.own hd.a) (d := .own k2) rfl ?_
  have hs0 := Int.emod_nonneg c (b := (ns.length : Int)) (by omega)
  have hs1 := Int.emod_lt_of_pos c (b := (ns.length : Int)) (by omega)
  obtain ⟨cell, hcell, hcell'⟩ := atNN (xs := ns) hs0 hs1
  wtm_at "A"
  refine ro_ixL (.own hd.b) (d := .int cell) (at_map (j := (c % ns.length).toNat) (by omega) hcell') ?_
  wtm_at "A"
  refine q_augS ?_
  wtm_at "A"
  refine ro_ixLL (.own hd.a) (d := .int c) rfl ?_
  wtm_at "A"
  refine rset_lst hd.a (j := 0) rfl ?_
  have e1 : (μ.set k (.lst ([D.int c, .own k2].set 0 (.int (c + 1))))) = hold μ k k2 (c + 1) ns := by
    unfold hold
    show μ.set k (.lst [.int (c + 1), .own k2]) = _
    apply List.ext_getElem?
    intro i
    by_cases e : k2 = i
    · subst e
      rw [List.getElem?_set_self (by simpa using (List.getElem?_eq_some_iff.mp hd.b).1), List.getElem?_set_ne hd.ne, hd.b]
    · rw [List.getElem?_set_ne e]
  rw [e1]
  have hd1 : Hd k k2 (c + 1) ns (hold μ k k2 (c + 1) ns) := hd.hold (by omega) rfl
  have ret : ∀ (r : Int) (ns' : List Int), 0 ≤ r → r < m → ns'.length = ns.length → Ret μ.length P (.int r) (hold μ k k2 (c + 1) ns') := fun r ns' h0 h1 hn => ret_same0 (by rw [hold_len]; exact Nat.le_refl _) (hd.cl hm) rfl (h r ns' h0 h1 hn)
  have hr : ∀ z : Int, 0 ≤ z % m ∧ z % m < m := fun z => ⟨Int.emod_nonneg z (by omega), Int.emod_lt_of_pos z hm0⟩
  wtm_at "A"
  · refine ro_fdiv hm0 (log2S hm0 hm1) ?_
    wtm_at "A"
    refine ro_ixL (.own hd1.a) (d := .own k2) rfl ?_
    wtm_at "A"
    refine rset_lst hd1.b (j := (c % ns.length).toNat) (by unfold ixN; rw [if_pos hs0, if_pos (by rw [List.length_map]; omega)]) ?_
    rw [show (hold μ k k2 (c + 1) ns).set k2 (.lst ((ns.map D.int).set (c % ns.length).toNat (.int (cell / m)))) = hold μ k k2 (c + 1) (ns.set (c % ns.length).toNat (cell / m)) by
      unfold hold
      rw [List.set_set, List.map_set]]
    wtm_at "A"
    exact ret _ _ (hr _).1 (hr _).2 (by simp)
  · have q1 := Int.emod_nonneg cell (b := 2147483629) (by decide)
    have q2 := Int.emod_lt_of_pos cell (b := 2147483629) (by decide)
    have q3 := Int.emod_nonneg cell (b := 1000003) (by decide)
    have q4 := Int.emod_lt_of_pos cell (b := 1000003) (by decide)
    refine ro_ixL (.own hd1.a) (d := .int (c + 1)) rfl ?_
    wtm_at "A"
    have q5 := Int.emod_nonneg (cell % 2147483629 + 104729 * (c + 1)) (b := 2147483647) (by decide)
    have q6 := Int.emod_lt_of_pos (cell % 2147483629 + 104729 * (c + 1)) (b := 2147483647) (by decide)
    refine ro_pow ⟨by decide, by decide, by omega⟩ ?_
    generalize hz : (cell % 2147483629 + 104729 * (c + 1)) % 2147483647 = z at *
    wtm_at "A"
    refine ro_ixL (.own hd1.a) (d := .int (c + 1)) rfl ?_
    wtm_at "A"
    generalize hy : z ^ (5 : Int).toNat % 2147483647 * 48271 % 2147483629 = y at *
    have q7 : 0 ≤ y ∧ y < 2147483629 := by
      rw [← hy]
      exact ⟨Int.emod_nonneg _ (by decide), Int.emod_lt_of_pos _ (by decide)⟩
    have q8 : 0 ≤ cell % 1000003 * (c + 1) ∧ cell % 1000003 * (c + 1) ≤ 1000003 * (2 ^ 40 + 1) := by
      refine ⟨Int.mul_nonneg q3 (by omega), ?_⟩
      exact Int.mul_le_mul (by omega) (by omega) (by omega) (by decide)
    refine ro_pow ⟨by decide, by decide, by omega⟩ ?_
    wtm_at "A"
    refine ro_fdiv (by decide) (by decide) ?_
    wtm_at "A"
    exact ret _ _ (hr _).1 (hr _).2 rfl
theorem d_law_far : ∀ ds μ P PX, c_law_far K ds μ P PX → MuCl μ μ.length → clL ds μ.length = true → ∀ B E, XAg K B (RetX μ.length PX) E → DS K B (t_law_far K E) (startD ["_law_hold", "_law_way", "_law_number", "_law_k"] ds) μ (fnE μ.length P) := by
  intro ds μ P PX h hm hc B E hE
  obtain ⟨k, k2, c, ns, rfl, hd, hc39, h⟩ := h
  show DS K B _ [some (.own k), none, none, none] μ _
  have hn0 := hd.n0; have hc0 := hd.c0
  have ret : ∀ (r c' : Int) (ns' : List Int), 0 ≤ r → r < 10 ^ 56 → c ≤ c' → c' ≤ c + 8 → ns'.length = ns.length → Ret μ.length P (.int r) (hold μ k k2 c' ns') := fun r c' ns' h0 h1 h2 h3 hn => ret_same0 (by rw [hold_len]; exact Nat.le_refl _) (hd.cl hm) rfl (h r c' ns' h0 h1 h2 h3 hn)
  unfold t_law_far
  wtm_at "A"
  refine ⟨k, k2, c, ns, 4, rfl, hd, by omega, by decide, by decide, fun w ns1 hw0 hw1 hn1 => ?_⟩
  have hd1 := hd.hold (c' := c + 1) (ns' := ns1) (by omega) hn1
  wtm_at "A"
  · refine de_lstZ ?_
    wtm_at "A"
    have hw : w = 0 ∨ w = 1 := by omega
    obtain ⟨top, htop, ht0, ht1⟩ : ∃ top, atI [D.int 1000, .int 10000000] w = some (.int top) ∧ 0 < top ∧ top ≤ 10000000 := by
      rcases hw with rfl | rfl
      · exact ⟨1000, rfl, by decide, by decide⟩
      · exact ⟨10000000, rfl, by decide, by decide⟩
    refine ro_ixL (.lst _) htop ?_
    wtm_at "A"
    refine ⟨k, k2, _, ns1, top, rfl, hd1, by omega, ht0, by omega, fun r ns2 hr0 hr1 hn2 => ?_⟩
    rw [hold_hold hd.ne]
    exact ret r _ ns2 hr0 (by omega) (by omega) (by omega) (by omega)
  · refine q_for ?_
    wtm_at "E"
    refine ⟨by decide, by decide, fun i ρ μ' => ∃ (num : Int) (y3 : Option D) (ns2 : List Int), ρ = [some (.own k), some (.int w), some (.int num), y3] ∧ hold μ k k2 (c + 1 + i) ns2 = μ' ∧ ns2.length = ns.length ∧ 0 ≤ num ∧ num < 100000000 ^ i ∧ i ≤ 7,
      ⟨0, none, ns1, rfl, by simp, hn1, by omega, by decide, by omega⟩, fun _ _ _ _ _ => trivial, ?_, ?_⟩
    · rintro i d ρ μ' hd' ⟨num, y3, ns2, rfl, rfl, hn2, h0, h1, hi7⟩
      obtain ⟨hi, rfl⟩ := rangeD_some hd'
      have hd2 := hd.hold (c' := c + 1 + i) (ns' := ns2) (by omega) hn2
      wtm_at "A"
      refine ⟨k, k2, _, ns2, 100000000, rfl, hd2, by omega, by decide, by decide, fun r ns3 hr0 hr1 hn3 => ?_⟩
      rw [hold_hold hd.ne]
      wtm_at "A"
      refine ⟨_, _, ns3, rfl, by rw [show c + 1 + (i : Int) + 1 = c + 1 + ((i + 1 : Nat) : Int) by omega], by omega, by omega, ?_, by omega⟩
      rw [Int.pow_succ]
      omega
    · rintro ρ μ' ⟨num, y3, ns2, rfl, rfl, hn2, h0, h1, hi7⟩
      wtm_at "A"
      refine ret num _ ns2 h0 ?_ (by omega) ?_ hn2
      · have : (100000000 : Int) ^ (rangeD 0 (Int.toNat 7)).length = 10 ^ 56 := by
          rw [rangeD_length]; decide
        omega
      · have : (rangeD 0 (Int.toNat 7)).length = 7 := by rw [rangeD_length]; rfl
        omega
theorem d_law_lengths : ∀ ds μ P PX, c_law_lengths K ds μ P PX → MuCl μ μ.length → clL ds μ.length = true → ∀ B E, XAg K B (RetX μ.length PX) E → DS K B (t_law_lengths K E) (startD ["_law_hold", "_law_most", "_law_many", "_law_way", "_law_some", "_law_k"] ds) μ (fnE μ.length P) := by
  intro ds μ P PX h hm hc B E hE
  obtain ⟨k, k2, c, ns, most, many, rfl, hd, hc39, hm0, hm1, hy0, hy1, h⟩ := h
  show DS K B _ [some (.own k), some (.int most), some (.int many), none, none, none] μ _
  have hn0 := hd.n0; have hc0 := hd.c0
  have ret : ∀ (ls : List Int) (c' : Int) (ns' : List Int), 0 < ls.length → (ls.length : Int) ≤ many → (∀ x ∈ ls, 1 ≤ x ∧ x ≤ max 5 most) → c ≤ c' → c' ≤ c + 2 + many → ns'.length = ns.length → Ret μ.length P (.lst (ls.map D.int)) (hold μ k k2 c' ns') := fun ls c' ns' h0 h1 h2 h3 h4 hn => ret_same0 (by rw [hold_len]; exact Nat.le_refl _) (hd.cl hm) (by simp [D.cl, cl_ints]) (h ls c' ns' h0 h1 h2 h3 h4 hn)
  unfold t_law_lengths
  wtm_at "A"
  refine ⟨k, k2, c, ns, 8, rfl, hd, by omega, by decide, by decide, fun w ns1 hw0 hw1 hn1 => ?_⟩
  have hd1 := hd.hold (c' := c + 1) (ns' := ns1) (by omega) hn1
  wtm_at "A"
  · refine de_lstZ ?_
    wtm_at "A"
    refine ro_rep (.lst _) (by omega) (by simp; omega) ?_
    have e : repD [D.int most] many = (List.replicate many.toNat most).map D.int := by
      simp [repD]
    rw [e]
    exact ret _ _ ns1 (by simp; omega) (by simp; omega) (fun x hx => by rw [List.mem_replicate] at hx; omega) (by omega) (by omega) hn1
  · refine de_lstZ ?_
    wtm_at "A"
    obtain ⟨top, htop, ht0, ht1⟩ : ∃ top, atI [D.int 1, .int 2, .int 5, .int most, .int most, .int most, .int most] (w - 1) = some (.int top) ∧ 0 < top ∧ top ≤ max 5 most := by
      have hw : w - 1 = 0 ∨ w - 1 = 1 ∨ w - 1 = 2 ∨ w - 1 = 3 ∨ w - 1 = 4 ∨ w - 1 = 5 ∨ w - 1 = 6 := by omega
      rcases hw with e | e | e | e | e | e | e <;> rw [e]
      · exact ⟨1, rfl, by omega, by omega⟩
      · exact ⟨2, rfl, by omega, by omega⟩
      · exact ⟨5, rfl, by omega, by omega⟩
      all_goals exact ⟨most, rfl, by omega, by omega⟩
    refine ro_ixL (.lst _) htop ?_
    wtm_at "A"
    refine de_lc (gw_name (by simp)) ?_
    wtm_at "A"
    refine ⟨k, k2, _, ns1, many, rfl, hd1, by omega, by omega, by omega, fun n ns2 hn0' hn1' hn2 => ?_⟩
    rw [hold_hold hd.ne]
    wtm_at "A"
    refine ⟨by omega, by omega, by rw [rangeD_length]; omega, fun i acc μ' => ∃ (ls ns3 : List Int), acc = ls.map D.int ∧ μ' = hold μ k k2 (c + 2 + i) ns3 ∧ ns3.length = ns.length ∧ ls.length = i ∧ ∀ x ∈ ls, 1 ≤ x ∧ x ≤ max 5 most,
      ⟨[], ns2, rfl, by rw [show c + 1 + 1 = c + 2 + ((0 : Nat) : Int) by omega], by omega, rfl, by simp⟩, fun _ _ _ _ _ => trivial, ?_, ?_⟩
    · rintro i d acc μ' hd' ⟨ls, ns3, rfl, rfl, hn3, hli, hls⟩
      obtain ⟨hi, rfl⟩ := rangeD_some hd'
      have hd3 := hd.hold (c' := c + 2 + i) (ns' := ns3) (by omega) hn3
      wtm_at "E"
      refine de_call XAg.none ?_
      wtm_at "E"
      refine ⟨k, k2, _, ns3, top, rfl, hd3, by omega, ht0, by omega, fun r ns4 hr0 hr1 hn4 => ?_⟩
      rw [hold_hold hd.ne]
      wtm_at "E"
      refine ⟨ls ++ [1 + r], ns4, by simp, by rw [show c + 2 + (i : Int) + 1 = c + 2 + ((i + 1 : Nat) : Int) by omega], by omega, by simp [hli], fun x hx => ?_⟩
      rcases List.mem_append.mp hx with m | m
      · exact hls x m
      · simp at m; subst m; omega
    · rintro acc μ' ⟨ls, ns3, rfl, rfl, hn3, hli, hls⟩
      rw [rangeD_length] at hli ⊢
      exact ret ls _ ns3 (by omega) (by omega) hls (by omega) (by omega) hn3
theorem d_law_is : ∀ ds μ P PX, c_law_is K ds μ P PX → MuCl μ μ.length → clL ds μ.length = true → ∀ B E, XAg K B (RetX μ.length PX) E → DS K B (t_law_is K E) (startD ["_law_found", "_law_due"] ds) μ (fnE μ.length P) := by
  intro ds μ P PX h hm hc B E hE
  obtain ⟨a, rfl, h⟩ := h
  show DS K B _ [some (.int a), some (.int a)] μ _
  unfold t_law_is
  wtm_at "A"
  wtm_at "r"
  simpa using h
theorem SeqI.len {μ : Mu} {b : Bool} {x : D} {xs : List Int} {P : D → Mu → Prop} (h : SeqI μ b x xs) (p : P (.int (xs.length : Int)) μ) : RC K (rLen K) [x] μ P := by
  have e : ((xs.map D.int).length : Int) = (xs.length : Int) := by rw [List.length_map]
  cases h with
  | lst => exact rc_lenL (.lst _) (by rw [e]; exact p)
  | own h => exact rc_lenL (.own h) (by rw [e]; exact p)
  | tup => exact rc_lenT' (.tup _) (by rw [e]; exact p)
theorem SeqI.ix {μ : Mu} {b : Bool} {x : D} {xs : List Int} {P : D → Mu → Prop} {i : Int} {j : Nat} {n : Int} (h : SeqI μ b x xs) (e : i = (j : Int)) (hj : xs[j]? = some n) (p : P (.int n) μ) : RO K (rIx K) x (.int i) μ P := by
  cases h with
  | lst => exact ro_ixL (.lst _) (at_map e hj) p
  | own h => exact ro_ixL (.own h) (at_map e hj) p
  | tup => exact ro_ixT (.tup _) (at_map e hj) p
theorem SeqI.isL {μ : Mu} {b : Bool} {x : D} {xs : List Int} {P : D → Mu → Prop} (h : SeqI μ b x xs) (p : P (.bl b) μ) : RC K (rIsi K) [x, .ty "list"] μ P := by
  cases h with
  | lst => exact rc_isiB rfl (by rfl) p
  | own h => exact rc_isiB (n := "list") (by simp [tyD, h]) (by rfl) p
  | tup => exact rc_isiB rfl (by rfl) p
theorem SeqI.isT {μ : Mu} {b : Bool} {x : D} {xs : List Int} {P : D → Mu → Prop} (h : SeqI μ b x xs) (p : P (.bl (!b)) μ) : RC K (rIsi K) [x, .ty "tuple"] μ P := by
  cases h with
  | lst => exact rc_isiB rfl (by rfl) p
  | own h => exact rc_isiB (n := "list") (by simp [tyD, h]) (by rfl) p
  | tup => exact rc_isiB rfl (by rfl) p
theorem d_law_row_is : ∀ ds μ P PX, c_law_row_is K ds μ P PX → MuCl μ μ.length → clL ds μ.length = true → ∀ B E, XAg K B (RetX μ.length PX) E → DS K B (t_law_row_is K E) (startD ["_law_found", "_law_due", "_law_k"] ds) μ (fnE μ.length P) := by
  intro ds μ P PX h hm hc B E hE
  obtain ⟨x, y, b, xs, rfl, hx, hy, hl, h⟩ := h
  show DS K B _ [some x, some y, none] μ _
  unfold t_law_row_is
  wtm_at "g"
  refine hx.isL ?_
  wtm_at "g"
  refine hy.isL ?_
  wtm_at "g"
  refine ⟨_, rfl, br' (fun _ => ?_) (fun hb => by simp at hb)⟩
  wtm_at "g"
  refine hx.isT ?_
  wtm_at "g"
  refine hy.isT ?_
  wtm_at "g"
  refine ⟨_, rfl, br (fun hb => by simp at hb) (fun _ => ?_)⟩
  wtm_at "g"
  refine hx.len ?_
  wtm_at "g"
  refine hy.len ?_
  wtm_at "g"
  refine ⟨_, rfl, br (fun hb => by simp at hb) (fun _ => ?_)⟩
  wtm_at "g"
  refine lc_filt (fun _ => false) id (gw_name (by simp)) ?_
  wtm_at "g"
  refine hy.len ?_
  wtm_at "g"
  refine ⟨_, rfl, by omega, by omega, trivial, by rw [rangeD_length]; omega, fun i d hd => ?_, fun out ho => ?_⟩
  · obtain ⟨hi, rfl⟩ := rangeD_some hd
    have hget : xs[i]? = some (xs[i]'(by omega)) := List.getElem?_eq_getElem (by omega)
    wtm_at "g"
    refine ⟨rfl, ?_⟩
    wtm_at "g"
    refine de_call XAg.none ?_
    wtm_at "g"
    refine hx.ix (j := i) (by omega) hget ?_
    wtm_at "g"
    refine hy.ix (j := i) (by omega) hget ?_
    wtm_at "g"
    refine ⟨_, rfl, ?_⟩
    refine ⟨true, rfl, ?_⟩
    exact ⟨rfl, rfl, fun z => by cases z⟩
  have ho' : out = [] := by rw [← ho]; simp
  subst ho'
  wtm_at "g"
  refine de_lstZ ?_
  wtm_at "A"
  refine ro_eqNil (.id _) (n := 0) rfl ?_
  wtm_at "r"
  exact h
end
section
variable {K : PySem.W.Frag}
/-- hold = [0, list(script) if script != [] else [0]] -/
theorem de_hold0 {B : Bs} {ρ : En} {μ : Mu} {ns : List Int} {P : D → Mu → Prop} (e : ρ[0]? = some (some (.rdl (ns.map D.int)))) (hl : ns.length ≤ 63) (h : ∀ cs : List Int, Hd (μ.length + 1) μ.length 0 cs (μ ++ [.lst (cs.map D.int), .lst [.int 0, .own μ.length]]) → P (.own (μ.length + 1)) (μ ++ [.lst (cs.map D.int), .lst [.int 0, .own μ.length]])) :
    DE K B (tLst (tCons (tC (.int 0)) (tCons (tIf (tTest (tOp (rNeD K) (tVar 0) (tLst tNil))) (tCB (rListOf K) (tCons (tVar 0) tNil)) (tLst (tCons (tC (.int 0)) tNil))) tNil))) ρ μ P := by
  have fin : ∀ cs : List Int, 0 < cs.length → cs.length ≤ 63 → P (.own (μ ++ [MO.lst (cs.map D.int)]).length) (μ ++ [MO.lst (cs.map D.int)] ++ [MO.lst [.int 0, .own μ.length]]) := fun cs h0 h1 => by
    have := h cs ⟨by rw [List.getElem?_append_right (by omega)]; simp, by rw [List.getElem?_append_right (by omega)]; simp, by omega, by omega, h0, by omega⟩
    rw [List.append_assoc, List.length_append]
    exact this
  refine de_lstOZ ?_
  wtm_at "E"
  refine de_lstZ ?_
  wtm_at "E"
  refine ro_neD (n := 1) (m := 1) (.id _) (.id _) (by simpa [D.shp] using shpL_map (f := D.int) (n := 0) fun x _ => rfl) rfl ?_
  rw [show eqvD (.rdl (ns.map D.int)) (.lst []) = decide (ns = []) by
    have := eqv_nil (ns.map D.int)
    simp only [List.map_eq_nil_iff] at this
    rw [← this]
    simp only [eqvD, D.py]]
  wtm_at "E"
  · rename_i hb
    refine rc_listO (.rdl _) ?_
    wtm_at "E"
    exact fin ns (by cases ns with
      | nil => simp at hb
      | cons _ _ => simp) hl
  · refine de_lstOZ ?_
    wtm_at "E"
    exact fin [0] (by decide) (by decide)
theorem cal_dat (ls : List Int) : (intsD ls).dat = true := by
  unfold intsD D.dat
  rw [datL_iff]
  intro x hx
  obtain ⟨s, _, rfl⟩ := List.mem_map.mp hx
  rfl
theorem clF_cal (ls : List Int) (n : Nat) : clF (calF ls) n = true := by simp only [clF, calF, D.cl, intsD, cl_ints, Bool.and_self]
theorem Fz.app {μ : Mu} {x d : D} (h : Fz μ x d) (ext : Mu) : Fz (μ ++ ext) x d := by
  cases h with
  | id => exact .id _
  | own h => exact .own (mu_old h)
/-- Calendar(..) -/
theorem de_cal {B : Bs} {E : XK} {PX : PXT} {ts : TA} {ρ : En} {μ : Mu} {P : D → Mu → Prop} (hE : XAg K B PX E) (h : DA K B ts ρ μ fun ds μ1 => ∃ x ls, ds = [x] ∧ Fz μ1 x (intsD ls) ∧ GCal ls ∧ P (calD K ls) μ1) : DE K B (tMake (He.ga K "Calendar") (spD K (c_Calendar_init K)) [] E ts) ρ μ P := by
  refine de_make hE da_nd ?_
  refine fun σ G H al hB hσ hA Q hQ => h σ G H al hB hσ hA Q fun vs ds μ1 G1 H1 al1 n1 A1 r1 p1 => hQ vs ds μ1 G1 H1 al1 n1 A1 r1 ?_
  obtain ⟨x, ls, rfl, fz, hg, p⟩ := p1
  have fz' := fz.app [MO.ins (He.ga K "Calendar") []]
  refine ⟨_, x, intsD ls, rfl, mu_last, fz', cal_dat ls, fun ls' e hg' => ⟨rfl, calF ls, ?_, clF_cal ls _, p⟩, fun e => ?_⟩
  · have : ls' = ls := by
      unfold intsD at e
      injection e with e
      exact (List.map_inj_right (fun a b h => by injection h)).mp e.symm
    subst this
    exact set_last
  · exact absurd (areNums_of hg) (by rw [e]; simp)
end
/-! ### draws of the feast laws: contracts -/
def c_law_name (K : PySem.W.Frag) : CT := fun ds μ P PX => ∃ (k k2 : Nat) (c : Int) (ns : List Int), ds = [.own k] ∧ Hd k k2 c ns μ ∧ c < 2 ^ 38 ∧ ∀ (s : Str) (c' : Int) (ns' : List Int), nameOk s → c ≤ c' → c' ≤ c + 10 → ns'.length = ns.length → P (.str s) (hold μ k k2 c' ns')
def c_law_kept (K : PySem.W.Frag) : CT := fun ds μ P PX => ∃ (k k2 : Nat) (c : Int) (ns : List Int), ds = [.own k] ∧ Hd k k2 c ns μ ∧ c < 2 ^ 38 ∧ ∀ (kp : Option (List Int)) (c' : Int) (ns' : List Int), KeptO kp → c ≤ c' → c' ≤ c + 30 → ns'.length = ns.length → P (keptD kp) (hold μ k k2 c' ns')
def c_law_acts (K : PySem.W.Frag) : CT := fun ds μ P PX => ∃ (k k2 : Nat) (c : Int) (ns : List Int), ds = [.own k] ∧ Hd k k2 c ns μ ∧ c < 2 ^ 37 ∧ ∀ (ps : List (Str × Str)) (c' : Int) (ns' : List Int), ActsOk ps → c ≤ c' → c' ≤ c + 60 → ns'.length = ns.length → P (actsD ps) (hold μ k k2 c' ns')
def feL (f : FeT) : List D := [.str f.name, .int f.place, .int f.lasts, keptD f.kept, actsD f.acts]
def c_law_feast (K : PySem.W.Frag) : CT := fun ds μ P PX => ∃ (k k2 : Nat) (c : Int) (ns : List Int), ds = [.own k] ∧ Hd k k2 c ns μ ∧ c < 2 ^ 36 ∧ ∀ (f : FeT) (c' : Int) (ns' : List Int), GFe f → c ≤ c' → c' ≤ c + 200 → ns'.length = ns.length → Fresh (feL f) (hold μ k k2 c' ns') P
def t_law_name (K : PySem.W.Frag) (E : XK) : TS :=
    (tSeq (tAsg (tLst (tCons (tC (.str "off")) (tCons (tC (.str "rest")) (tCons (tC (.str "free")) (tCons (tC (.str "feast")) (tCons (tC (.str "all")) (tCons (tC (.str "going")) (tCons (tC (.str "yearly")) (tCons (tC (.str "calendar")) tNil))))))))) (gName 1))
      (tSeq (tAsg (tCall (spD K (c_law_draw K)) [] E (tCons (tVar 0) (tCons (tC (.int 32)) tNil))) (gName 2))
      (tSeq (tIfS (tTest (tOp (rI0 fun i j => .bl (decide (i < j))) (tVar 2) (tC (.int 8)))) (tRet (tOp (rIx K) (tVar 1) (tVar 2))) tNext)
      (tSeq (tAsg (tC (.str "abcdefghijklmnopqrstuvwxyz")) (gName 3))
      (tRet (tBM K "str" (rJoin K) (tC (.str "")) (tCons (tLc (iRng1 (tCons (tOp (rAddA K) (tC (.int 1)) (tCall (spD K (c_law_draw K)) [] E (tCons (tVar 0) (tCons (tC (.int 8)) tNil)))) tNil)) (gName 4) tYes (tOp (rIx K) (tVar 3) (tCall (spD K (c_law_draw K)) [] E0 (tCons (tVar 0) (tCons (tC (.int 26)) tNil)))) [4]) tNil)))))))
def t_law_kept (K : PySem.W.Frag) (E : XK) : TS :=
    (tSeq (tAsg (tCall (spD K (c_law_draw K)) [] E (tCons (tVar 0) (tCons (tC (.int 4)) tNil))) (gName 1))
      (tSeq (tIfS (tTest (tOp (rEqD K) (tVar 1) (tC (.int 0)))) (tRet (tC .non)) tNext)
      (tSeq (tAsg (tCall (spD K (c_law_draw K)) [] E (tCons (tVar 0) (tCons (tC (.int 20)) tNil))) (gName 2))
      (tSeq (tIfS (tTest (tOp (rEqD K) (tVar 1) (tC (.int 1)))) (tRet (tOp (rIx K) (tLst (tCons (tLstRg (tRg1 (tC (.int 20)))) (tCons (tLst (tCons (tVar 2) tNil)) (tCons (tLst (tCons (tC (.int 0)) tNil)) (tCons (tLst (tCons (tC (.int 19)) tNil)) tNil))))) (tCall (spD K (c_law_draw K)) [] E (tCons (tVar 0) (tCons (tC (.int 4)) tNil))))) tNext)
      (tRet (tLc (iRng1 (tCons (tC (.int 20)) tNil)) (gName 3) (tOr (tTest (tOp (rEqD K) (tVar 3) (tVar 2))) (tTest (tOp (rEqD K) (tCall (spD K (c_law_draw K)) [] E0 (tCons (tVar 0) (tCons (tOp (rAddA K) (tC (.int 1)) (tVar 1)) tNil))) (tC (.int 0))))) (tVar 3) [3]))))))
def t_law_acts (K : PySem.W.Frag) (E : XK) : TS :=
    (tSeq (tAsg (tLst tNil) (gName 1))
      (tSeq (tFor (iRng1 (tCons (tCall (spD K (c_law_draw K)) [] E (tCons (tVar 0) (tCons (tC (.int 5)) tNil))) tNil)) (gName 2) (tSeq (tAsg (tCall (spD K (c_law_name K)) [] E (tCons (tVar 0) tNil)) (gName 3))
      (tIfS (tTest (tOp (rNotInA K) (tVar 3) (tLc (iAny K (tVar 1)) (gTup K 2 (gCons (gName 4) (gCons (gName 5) gNil))) tYes (tVar 4) [4, 5]))) (tDrop (tBM K "list" rAppend (tVar 1) (tCons (tTup (tCons (tVar 3) (tCons (tOp (rIx K) (tLst (tCons (tC (.str "off")) (tCons (tC (.str "rest")) tNil))) (tCall (spD K (c_law_draw K)) [] E (tCons (tVar 0) (tCons (tC (.int 2)) tNil)))) tNil))) tNil))) tNext)))
      (tRet (tVar 1))))
def t_law_feast (K : PySem.W.Frag) (E : XK) : TS :=
    (tSeq (tAsg (tCall (spD K (c_law_draw K)) [] E (tCons (tVar 0) (tCons (tC (.int 6)) tNil))) (gName 1))
      (tSeq (tPar 2 3 (tCons (tCall (spD K (c_law_draw K)) [] E (tCons (tVar 0) (tCons (tC (.int 400)) tNil))) (tCons (tCall (spD K (c_law_draw K)) [] E (tCons (tVar 0) (tCons (tC (.int 8)) tNil))) tNil)))
      (tSeq (tAsg (tOp (rIx K) (tLst (tCons (tVar 2) (tCons (tVar 3) (tCons (tOp (rI0 fun i j => .int (i - j)) (tUn (rU fun i => .int (-i)) (tC (.int 1))) (tVar 2)) (tCons (tOp (rI0 fun i j => .int (i - j)) (tUn (rU fun i => .int (-i)) (tC (.int 1))) (tVar 3)) (tCons (tC (.int 399)) (tCons (tUn (rU fun i => .int (-i)) (tC (.int 400))) tNil))))))) (tVar 1)) (gName 4))
      (tSeq (tAsg (tOp (rAddA K) (tC (.int 1)) (tCall (spD K (c_law_draw K)) [] E (tCons (tVar 0) (tCons (tOp (rIx K) (tLst (tCons (tC (.int 1)) (tCons (tC (.int 4)) (tCons (tC (.int 40)) (tCons (tC (.int 40)) tNil))))) (tCall (spD K (c_law_draw K)) [] E (tCons (tVar 0) (tCons (tC (.int 4)) tNil)))) tNil)))) (gName 5))
      (tRet (tLst (tCons (tCall (spD K (c_law_name K)) [] E (tCons (tVar 0) tNil)) (tCons (tVar 4) (tCons (tVar 5) (tCons (tCall (spD K (c_law_kept K)) [] E (tCons (tVar 0) tNil)) (tCons (tCall (spD K (c_law_acts K)) [] E (tCons (tVar 0) tNil)) tNil)))))))))))
section
variable {K : PySem.W.Frag}
theorem sum_ones : ∀ l : List Nat, (l.map fun _ => 1).sum = l.length
  | [] => rfl
  | a :: l => by rw [List.map_cons, List.sum_cons, sum_ones l, List.length_cons]; omega
theorem name_words : ∀ s ∈ (["off", "rest", "free", "feast", "all", "going", "yearly", "calendar"] : List Str), nameOk s := by decide +kernel
theorem d_law_name : ∀ ds μ P PX, c_law_name K ds μ P PX → MuCl μ μ.length → clL ds μ.length = true → ∀ B E, XAg K B (RetX μ.length PX) E → DS K B (t_law_name K E) (startD ["_law_hold", "_law_words", "_law_way", "_law_letters", "_law_k"] ds) μ (fnE μ.length P) := by
  intro ds μ P PX h hm hc B E hE
  obtain ⟨k, k2, c, ns, rfl, hd, hc38, h⟩ := h
  show DS K B _ [some (.own k), none, none, none, none] μ _
  have hc0 := hd.c0
  have ret : ∀ (s : Str) (c' : Int) (ns' : List Int), nameOk s → c ≤ c' → c' ≤ c + 10 → ns'.length = ns.length → Ret μ.length P (.str s) (hold μ k k2 c' ns') := fun s c' ns' h1 h2 h3 hn => ret_same0 (by rw [hold_len]; exact Nat.le_refl _) (hd.cl hm) rfl (h s c' ns' h1 h2 h3 hn)
  unfold t_law_name
  wtm_at "A"
  refine de_lstZ ?_
  wtm_at "A"
  refine ⟨k, k2, c, ns, 32, rfl, hd, by omega, by decide, by decide, fun w ns1 hw0 hw1 hn1 => ?_⟩
  have hd1 := hd.hold (c' := c + 1) (ns' := ns1) (by omega) hn1
  wtm_at "A"
  · obtain ⟨s, hs, hs'⟩ := atNN (xs := (["off", "rest", "free", "feast", "all", "going", "yearly", "calendar"] : List Str)) hw0 (by simpa using ‹w < 8›)
    refine ro_ixL (.lst _) (d := .str s) (at_map (f := D.str) (xs := ["off", "rest", "free", "feast", "all", "going", "yearly", "calendar"]) (j := w.toNat) (by omega) hs') ?_
    exact ret s _ ns1 (name_words s (List.mem_of_getElem? hs')) (by omega) (by omega) hn1
  · refine ⟨ty_str, ?_⟩
    refine da_cons ?_
    refine de_lc (gw_name (by simp)) ?_
    wtm_at "A"
    refine ⟨k, k2, _, ns1, 8, rfl, hd1, by omega, by decide, by decide, fun m ns2 hm0 hm1 hn2 => ?_⟩
    rw [hold_hold hd.ne]
    wtm_at "A"
    refine ⟨by omega, by omega, by rw [rangeD_length]; omega, fun i acc μ' => ∃ (cs : List Nat) (ns3 : List Int), acc = cs.map (fun c => D.str ⟨#[c]⟩) ∧ μ' = hold μ k k2 (c + 2 + i) ns3 ∧ ns3.length = ns.length ∧ cs.length = i ∧ ∀ x ∈ cs, x ∈ letters,
      ⟨[], ns2, rfl, by rw [show c + 1 + 1 = c + 2 + ((0 : Nat) : Int) by omega], by omega, rfl, by simp⟩, fun _ _ _ _ _ => trivial, ?_, ?_⟩
    · rintro i d acc μ' hd' ⟨cs, ns3, rfl, rfl, hn3, hli, hls⟩
      obtain ⟨hi, rfl⟩ := rangeD_some hd'
      have hd3 := hd.hold (c' := c + 2 + i) (ns' := ns3) (by omega) hn3
      wtm_at "E"
      refine de_call XAg.none ?_
      wtm_at "E"
      refine ⟨k, k2, _, ns3, 26, rfl, hd3, by omega, by decide, by decide, fun r ns4 hr0 hr1 hn4 => ?_⟩
      rw [hold_hold hd.ne]
      obtain ⟨ch, hch, hch'⟩ := atNN (xs := letters) (i := r) hr0 (by simpa [letters] using hr1)
      refine ro_ixS (c := ch) (by decide +kernel) (by rw [letters_str]; exact hch) ?_
      refine ⟨cs ++ [ch], ns4, by simp, by rw [show c + 2 + (i : Int) + 1 = c + 2 + ((i + 1 : Nat) : Int) by omega], by omega, by simp [hli], fun x hx => ?_⟩
      rcases List.mem_append.mp hx with m | m
      · exact hls x m
      · simp at m; subst m; exact List.mem_of_getElem? hch'
    · rintro acc μ' ⟨cs, ns3, rfl, rfl, hn3, hli, hls⟩
      rw [rangeD_length] at hli ⊢
      wtm_at "E"
      refine rm_join (ys := cs.map fun c => ⟨#[c]⟩) (by rw [List.map_map]; exact .lst _) ?_ ?_
      · have e1 : ((cs.map fun c => (⟨#[c]⟩ : Str)).map (·.length)).sum = cs.length := by
          rw [List.map_map]
          have : ((fun s : Str => s.length) ∘ fun c => (⟨#[c]⟩ : Str)) = fun _ => 1 := by
            funext x; rfl
          rw [this]
          exact sum_ones cs
        have e2 : ("" : Str).length = 0 := by decide +kernel
        rw [e1, e2]; omega
      rw [join_signs]
      refine ret _ _ ns3 ⟨?_, ?_, ?_⟩ (by omega) (by omega) hn3
      · simp [Str.length]; omega
      · simp [Str.length]; omega
      · intro x hx; exact hls x (by simpa using hx)
theorem keptOk_one {n : Int} (h0 : 0 ≤ n) (h1 : n ≤ 19) : KeptOk [n] := ⟨by simp, by simp, fun y hy => by simp at hy; omega, fun i a b ha hb => by
  have := (List.getElem?_eq_some_iff.mp hb).1
  simp at this⟩
theorem keptOk_rg : KeptOk ((List.range 20).map fun (i : Nat) => (i : Int)) := by
  refine ⟨by decide, by decide, fun y hy => ?_, fun i a b ha hb => ?_⟩
  · simp at hy; obtain ⟨a, ha, rfl⟩ := hy; omega
  · simp at ha hb
    obtain ⟨x, hx, rfl⟩ := ha
    obtain ⟨y, hy, rfl⟩ := hb
    have h1 := List.getElem?_eq_some_iff.mp hx
    have h2 := List.getElem?_eq_some_iff.mp hy
    obtain ⟨_, h1⟩ := h1
    obtain ⟨_, h2⟩ := h2
    simp at h1 h2
    omega
/-- rising numbers below i, one among them if it was met -/
structure Rise (one : Int) (i : Nat) (ys : List Int) : Prop where
  each : ∀ y ∈ ys, 0 ≤ y ∧ y < i
  up : ∀ (j : Nat) (a b : Int), ys[j]? = some a → ys[j + 1]? = some b → a < b
  met : one < i → one ∈ ys
  len : ys.length ≤ i
theorem Rise.nil {one : Int} (h : 0 ≤ one) : Rise one 0 [] := ⟨by simp, by simp, fun h' => by omega, by simp⟩
theorem Rise.keep {one : Int} {i : Nat} {ys : List Int} (h : Rise one i ys) : Rise one (i + 1) (ys ++ [(i : Int)]) := by
  refine ⟨fun y hy => ?_, fun j a b ha hb => ?_, fun hlt => ?_, by simp; exact h.len⟩
  · rcases List.mem_append.mp hy with m | m
    · have := h.each y m; omega
    · simp at m; omega
  · by_cases hj : j + 1 < ys.length
    · rw [List.getElem?_append_left (by omega)] at ha
      rw [List.getElem?_append_left hj] at hb
      exact h.up j a b ha hb
    · rw [List.getElem?_append_right (by omega)] at hb
      have hj2 : j + 1 - ys.length = 0 := by
        have := (List.getElem?_eq_some_iff.mp hb).1
        simp at this; omega
      rw [hj2] at hb
      simp at hb
      subst hb
      rw [List.getElem?_append_left (by omega)] at ha
      exact (h.each a (List.mem_of_getElem? ha)).2
  · by_cases e : one < i
    · exact List.mem_append_left _ (h.met e)
    · have : one = i := by omega
      rw [this]; simp
theorem Rise.skip {one : Int} {i : Nat} {ys : List Int} (h : Rise one i ys) (hne : one ≠ i) : Rise one (i + 1) ys := ⟨fun y hy => by have := h.each y hy; omega, h.up, fun hlt => h.met (by omega), by have := h.len; omega⟩
theorem Rise.kept {one : Int} {i : Nat} {ys : List Int} (h : Rise one i ys) (hone : one < i) (hi : i ≤ 20) : KeptOk ys := by
  refine ⟨?_, by have := h.len; omega, fun y hy => by have := h.each y hy; omega, h.up⟩
  exact List.length_pos_of_mem (h.met hone)
theorem d_law_kept : ∀ ds μ P PX, c_law_kept K ds μ P PX → MuCl μ μ.length → clL ds μ.length = true → ∀ B E, XAg K B (RetX μ.length PX) E → DS K B (t_law_kept K E) (startD ["_law_hold", "_law_way", "_law_one", "_law_number"] ds) μ (fnE μ.length P) := by
  intro ds μ P PX h hm hc B E hE
  obtain ⟨k, k2, c, ns, rfl, hd, hc38, h⟩ := h
  show DS K B _ [some (.own k), none, none, none] μ _
  have hc0 := hd.c0
  have ret : ∀ (kp : Option (List Int)) (c' : Int) (ns' : List Int), KeptO kp → c ≤ c' → c' ≤ c + 30 → ns'.length = ns.length → Ret μ.length P (keptD kp) (hold μ k k2 c' ns') := fun s c' ns' h1 h2 h3 hn => ret_same0 (by rw [hold_len]; exact Nat.le_refl _) (hd.cl hm) (cl_kept _ _) (h s c' ns' h1 h2 h3 hn)
  have ks : ∀ {ys}, KeptOk ys → KeptO (some ys) := fun h ys' e => by cases e; exact h
  unfold t_law_kept
  wtm_at "A"
  refine ⟨k, k2, c, ns, 4, rfl, hd, by omega, by decide, by decide, fun w ns1 hw0 hw1 hn1 => ?_⟩
  have hd1 := hd.hold (c' := c + 1) (ns' := ns1) (by omega) hn1
  wtm_at "A"
  · exact ret none _ ns1 (fun _ e => by cases e) (by omega) (by omega) hn1
  · refine ⟨k, k2, _, ns1, 20, rfl, hd1, by omega, by decide, by decide, fun one ns2 ho0 ho1 hn2 => ?_⟩
    rw [hold_hold hd.ne]
    have hd2 := hd.hold (c' := c + 1 + 1) (ns' := ns2) (by omega) (by omega)
    wtm_at "A"
    · refine de_lstZ ?_
      wtm_at "A"
      refine de_lstRg1 ?_
      wtm_at "A"
      refine ⟨by omega, by omega, ?_⟩
      wtm_at "A"
      refine de_lstZ ?_
      wtm_at "A"
      refine de_lstZ ?_
      wtm_at "A"
      refine de_lstZ ?_
      wtm_at "A"
      refine ⟨k, k2, _, ns2, 4, rfl, hd2, by omega, by decide, by decide, fun r ns3 hr0 hr1 hn3 => ?_⟩
      rw [hold_hold hd.ne]
      have hr : r = 0 ∨ r = 1 ∨ r = 2 ∨ r = 3 := by omega
      rcases hr with e | e | e | e <;> rw [e] <;> refine ro_ixL (.lst _) rfl ?_
      · have := ret (some ((List.range 20).map fun (i : Nat) => (i : Int))) (c + 1 + 1 + 1) ns3 (ks keptOk_rg) (by omega) (by omega) (by omega)
        exact this
      · exact ret (some [one]) _ ns3 (ks (keptOk_one ho0 (by omega))) (by omega) (by omega) (by omega)
      · exact ret (some [0]) _ ns3 (ks (keptOk_one (by omega) (by omega))) (by omega) (by omega) (by omega)
      · exact ret (some [19]) _ ns3 (ks (keptOk_one (by omega) (by omega))) (by omega) (by omega) (by omega)
    · refine de_lc (gw_name (by simp)) ?_
      wtm_at "A"
      refine ⟨by omega, by omega, by rw [rangeD_length]; decide, fun i acc μ' => ∃ (ys ns3 : List Int) (c3 : Int), acc = ys.map D.int ∧ μ' = hold μ k k2 c3 ns3 ∧ ns3.length = ns.length ∧ c ≤ c3 ∧ c3 ≤ c + 2 + i ∧ Rise one i ys,
        ⟨[], ns2, _, rfl, rfl, by omega, by omega, by omega, Rise.nil ho0⟩, fun _ _ _ _ _ => trivial, ?_, ?_⟩
      · rintro i d acc μ' hd' ⟨ys, ns3, c3, rfl, rfl, hn3, hc3, hc3', hrise⟩
        obtain ⟨hi, rfl⟩ := rangeD_some hd'
        have hi20 : i < 20 := by simpa using hi
        have hd3 := hd.hold (c' := c3) (ns' := ns3) (by omega) hn3
        wtm_at "E"
        · refine de_call XAg.none ?_
          wtm_at "E"
          refine ⟨k, k2, _, ns3, 1 + w, rfl, hd3, by omega, by omega, by omega, fun r ns4 hr0 hr1 hn4 => ?_⟩
          rw [hold_hold hd.ne]
          wtm_at "E"
          · exact ⟨ys ++ [(i : Int)], ns4, _, by simp, rfl, by omega, by omega, by omega, hrise.keep⟩
          · exact ⟨ys, ns4, _, rfl, rfl, by omega, by omega, by omega, hrise.skip (by omega)⟩
        · exact ⟨ys ++ [(i : Int)], ns3, c3, by simp, rfl, hn3, hc3, by omega, hrise.keep⟩
      · rintro acc μ' ⟨ys, ns3, c3, rfl, rfl, hn3, hc3, hc3', hrise⟩
        rw [rangeD_length] at hrise hc3'
        exact ret (some ys) c3 ns3 (ks (hrise.kept (by simpa using ho1) (by decide))) hc3 (by omega) hn3
theorem acts_add {ps : List (Str × Str)} {n s : Str} (h : ActsOk ps) (hl : ps.length < 4) (hn : nameOk n) (hs : s = "off" ∨ s = "rest") (hnot : n ∉ ps.map (·.1)) : ActsOk (ps ++ [(n, s)]) := by
  refine ⟨by simp; omega, fun p hp => ?_, ?_⟩
  · rcases List.mem_append.mp hp with m | m
    · exact h.each p m
    · simp at m; subst m; exact ⟨hn, hs⟩
  · rw [List.map_append, List.nodup_append]
    refine ⟨h.nd, by simp, fun a ha b hb => ?_⟩
    simp at hb
    subst hb
    exact fun e => hnot (e ▸ ha)
theorem d_law_acts : ∀ ds μ P PX, c_law_acts K ds μ P PX → MuCl μ μ.length → clL ds μ.length = true → ∀ B E, XAg K B (RetX μ.length PX) E → DS K B (t_law_acts K E) (startD ["_law_hold", "_law_found", "_law_k", "_law_word", "_law_one", "_law_sort"] ds) μ (fnE μ.length P) := by
  intro ds μ P PX h hm hc B E hE
  obtain ⟨k, k2, c, ns, rfl, hd, hc38, h⟩ := h
  show DS K B _ [some (.own k), none, none, none, none, none] μ _
  have hc0 := hd.c0
  have hlast : ∀ (c' : Int) (ns' : List Int) (o : MO), (hold μ k k2 c' ns' ++ [o])[μ.length]? = some o := fun c' ns' o => by rw [← hold_len (μ := μ) (k := k) (k2 := k2) (c := c') (ns := ns')]; exact mu_last
  have hsetl : ∀ (c' : Int) (ns' : List Int) (o o' : MO), (hold μ k k2 c' ns' ++ [o]).set μ.length o' = hold μ k k2 c' ns' ++ [o'] := fun c' ns' o o' => by rw [← hold_len (μ := μ) (k := k) (k2 := k2) (c := c') (ns := ns')]; exact set_last
  unfold t_law_acts
  wtm_at "A"
  refine de_lstOZ ?_
  wtm_at "A"
  refine q_for ?_
  wtm_at "E"
  refine ⟨k, k2, c, ns, 5, rfl, hd.app _, by omega, by decide, by decide, fun m ns1 hm0 hm1 hn1 => ?_⟩
  rw [hold_app hd]
  wtm_at "E"
  refine ⟨by omega, by omega, fun i ρ μ' => ∃ (y2 y3 y4 y5 : Option D) (ps : List (Str × Str)) (c3 : Int) (ns3 : List Int), ρ = [some (.own k), some (.own μ.length), y2, y3, y4, y5] ∧ μ' = hold μ k k2 c3 ns3 ++ [.lst (ps.map actD)] ∧ ns3.length = ns.length ∧ c ≤ c3 ∧ c3 ≤ c + 1 + 12 * i ∧ ActsOk ps ∧ ps.length ≤ i,
    ⟨none, none, none, none, [], _, ns1, rfl, rfl, hn1, by omega, by omega, ⟨by decide, by simp, by simp⟩, by simp⟩, fun _ _ _ _ _ => trivial, ?_, ?_⟩
  · rintro i d ρ μ' hd' ⟨y2, y3, y4, y5, ps, c3, ns3, rfl, rfl, hn3, hc3, hc3', hok, hpl⟩
    obtain ⟨hi, rfl⟩ := rangeD_some hd'
    have hd3 := hd.hold (c' := c3) (ns' := ns3) (by omega) hn3
    wtm_at "A"
    refine ⟨k, k2, _, ns3, rfl, hd3.app _, by omega, fun s c4 ns4 hs hc4 hc4' hn4 => ?_⟩
    rw [hold_app hd3, hold_hold hd.ne]
    have hd4 := hd.hold (c' := c4) (ns' := ns4) (by omega) (by omega)
    wtm_at "A"
    refine lc_map actN (gw_tup (gws_cons (i := 4) (vs := [4, 5]) (by simp) (gws_cons (i := 5) (by simp) gws_nil))) ?_
    wtm_at "A"
    refine ⟨_, _, .own (hlast _ _ _), hlast _ _ _, by simp; omega, fun j d hj => ?_, fun out ho => ?_⟩
    · obtain ⟨p, _, rfl⟩ := acts_get hj
      wtm_at "A"
      refine ⟨rfl, ?_⟩
      wtm_at "A"
      exact ⟨rfl, rfl⟩
    refine ro_notInS (ns := ps.map (·.1)) (by rw [← ho, List.map_map, List.map_map]; exact .lst _) ?_
    wtm_at "A"
    · rename_i hb
      have hnot : s ∉ ps.map (·.1) := by simpa using hb
      refine ⟨ty_list (.own (hlast _ _ _)), ?_⟩
      wtm_at "A"
      refine de_lstZ ?_
      wtm_at "A"
      refine ⟨k, k2, _, ns4, 2, rfl, hd4.app _, by omega, by decide, by decide, fun r ns5 hr0 hr1 hn5 => ?_⟩
      rw [hold_app hd4, hold_hold hd.ne]
      obtain ⟨so, hso, hso'⟩ : ∃ so : Str, atI [D.str "off", .str "rest"] r = some (.str so) ∧ (so = "off" ∨ so = "rest") := by
        have : r = 0 ∨ r = 1 := by omega
        rcases this with rfl | rfl
        · exact ⟨"off", rfl, .inl rfl⟩
        · exact ⟨"rest", rfl, .inr rfl⟩
      refine ro_ixL (.lst _) hso ?_
      wtm_at "A"
      refine rm_app (hlast _ _ _) (by simp; omega) ?_
      rw [hsetl]
      exact ⟨_, _, _, _, ps ++ [(s, so)], c4 + 1, ns5, rfl, by simp [actD], by omega, by omega, by omega, acts_add hok (by omega) hs hso' hnot, by simp; omega⟩
    · exact ⟨_, _, _, _, ps, c4, ns4, rfl, rfl, by omega, by omega, by omega, hok, by omega⟩
  · rintro ρ μ' ⟨y2, y3, y4, y5, ps, c3, ns3, rfl, rfl, hn3, hc3, hc3', hok, hpl⟩
    rw [rangeD_length] at hc3'
    refine ds_ret (de_frz ?_)
    wtm_at "v"
    refine ⟨_, _, rfl, hlast _ _ _, ?_⟩
    rw [hsetl]
    exact ret_same (by rw [hold_len]; exact Nat.le_refl _) (hd.cl hm) (cl_acts ps _) (h ps c3 ns3 hok hc3 (by omega) hn3)
theorem cl_feL (f : FeT) (n : Nat) : clL (feL f) n = true := by simp only [feL, clL, D.cl, cl_kept, cl_acts, Bool.and_self]
theorem d_law_feast : ∀ ds μ P PX, c_law_feast K ds μ P PX → MuCl μ μ.length → clL ds μ.length = true → ∀ B E, XAg K B (RetX μ.length PX) E → DS K B (t_law_feast K E) (startD ["_law_hold", "_law_way", "_law_far_here", "_law_near", "_law_spot", "_law_lasts"] ds) μ (fnE μ.length P) := by
  intro ds μ P PX h hm hc B E hE
  obtain ⟨k, k2, c, ns, rfl, hd, hc37, h⟩ := h
  show DS K B _ [some (.own k), none, none, none, none, none] μ _
  have hc0 := hd.c0
  unfold t_law_feast
  wtm_at "A"
  refine ⟨k, k2, c, ns, 6, rfl, hd, by omega, by decide, by decide, fun w ns1 hw0 hw1 hn1 => ?_⟩
  have hd1 := hd.hold (c' := c + 1) (ns' := ns1) (by omega) hn1
  wtm_at "A"
  refine ⟨k, k2, _, ns1, 400, rfl, hd1, by omega, by decide, by decide, fun fa ns2 hf0 hf1 hn2 => ?_⟩
  rw [hold_hold hd.ne]
  have hd2 := hd.hold (c' := c + 1 + 1) (ns' := ns2) (by omega) (by omega)
  wtm_at "A"
  refine ⟨k, k2, _, ns2, 8, rfl, hd2, by omega, by decide, by decide, fun ne ns3 hne0 hne1 hn3 => ?_⟩
  rw [hold_hold hd.ne]
  have hd3 := hd.hold (c' := c + 1 + 1 + 1) (ns' := ns3) (by omega) (by omega)
  wtm_at "A"
  refine de_lstZ ?_
  wtm_at "A"
  obtain ⟨sp, hsp, hsp0, hsp1⟩ : ∃ sp, atI [D.int fa, .int ne, .int (-1 - fa), .int (-1 - ne), .int 399, .int (-400)] w = some (.int sp) ∧ -400 ≤ sp ∧ sp ≤ 399 := by
    have : w = 0 ∨ w = 1 ∨ w = 2 ∨ w = 3 ∨ w = 4 ∨ w = 5 := by omega
    rcases this with rfl | rfl | rfl | rfl | rfl | rfl <;> exact ⟨_, rfl, by omega, by omega⟩
  refine ro_ixL (.lst _) hsp ?_
  wtm_at "A"
  refine de_lstZ ?_
  wtm_at "A"
  refine ⟨k, k2, _, ns3, 4, rfl, hd3, by omega, by decide, by decide, fun r4 ns4 hr40 hr41 hn4 => ?_⟩
  rw [hold_hold hd.ne]
  have hd4 := hd.hold (c' := c + 1 + 1 + 1 + 1) (ns' := ns4) (by omega) (by omega)
  obtain ⟨top, htop, ht0, ht1⟩ : ∃ top, atI [D.int 1, .int 4, .int 40, .int 40] r4 = some (.int top) ∧ 1 ≤ top ∧ top ≤ 40 := by
    have : r4 = 0 ∨ r4 = 1 ∨ r4 = 2 ∨ r4 = 3 := by omega
    rcases this with rfl | rfl | rfl | rfl <;> exact ⟨_, rfl, by omega, by omega⟩
  refine ro_ixL (.lst _) htop ?_
  wtm_at "A"
  refine ⟨k, k2, _, ns4, top, rfl, hd4, by omega, by omega, by omega, fun la ns5 hla0 hla1 hn5 => ?_⟩
  rw [hold_hold hd.ne]
  have hd5 := hd.hold (c' := c + 1 + 1 + 1 + 1 + 1) (ns' := ns5) (by omega) (by omega)
  wtm_at "A"
  -- the list
  have go : ∀ (Q : List D → Mu → Prop), (∀ (f : FeT) (c' : Int) (ns' : List Int), GFe f → c ≤ c' → c' ≤ c + 200 → ns'.length = ns.length → Q (feL f) (hold μ k k2 c' ns')) →
      DA K B (tCons (tCall (spD K (c_law_name K)) [] E (tCons (tVar 0) tNil)) (tCons (tVar 4) (tCons (tVar 5) (tCons (tCall (spD K (c_law_kept K)) [] E (tCons (tVar 0) tNil)) (tCons (tCall (spD K (c_law_acts K)) [] E (tCons (tVar 0) tNil)) tNil))))) [some (.own k), some (.int w), some (.int fa), some (.int ne), some (.int sp), some (.int (1 + la))] (hold μ k k2 (c + 1 + 1 + 1 + 1 + 1) ns5) Q := by
    intro Q hQ
    wtm_at "E"
    refine ⟨k, k2, _, ns5, rfl, hd5, by omega, fun s c6 ns6 hs hc6 hc6' hn6 => ?_⟩
    rw [hold_hold hd.ne]
    have hd6 := hd.hold (c' := c6) (ns' := ns6) (by omega) (by omega)
    wtm_at "E"
    refine ⟨k, k2, _, ns6, rfl, hd6, by omega, fun kp c7 ns7 hkp hc7 hc7' hn7 => ?_⟩
    rw [hold_hold hd.ne]
    have hd7 := hd.hold (c' := c7) (ns' := ns7) (by omega) (by omega)
    wtm_at "E"
    refine ⟨k, k2, _, ns7, rfl, hd7, by omega, fun ps c8 ns8 hps hc8 hc8' hn8 => ?_⟩
    rw [hold_hold hd.ne]
    wtm_at "E"
    exact hQ ⟨s, sp, 1 + la, kp, ps⟩ c8 ns8 ⟨hs, hsp0, hsp1, by show 1 ≤ 1 + la; omega, by show 1 + la ≤ 40; omega, hkp, hps⟩ (by omega) (by omega) (by omega)
  refine de_lstF ?_
  refine go _ fun f c' ns' hf h1 h2 h3 => ?_
  refine ⟨by simp [Sz, feL], ?_⟩
  rcases h f c' ns' hf h1 h2 h3 with q | q
  · exact .inl (ret_same0 (by rw [hold_len]; exact Nat.le_refl _) (hd.cl hm) (by simp only [D.cl, cl_feL]) q)
  · exact .inr (ret_same0 (by simp [hold_len]) ((hd.cl hm).app (by simp only [MO.cl, cl_feL])) (by simp [D.cl]) q)
end
/-! ### rows of pieces -/
structure RwT where
  going : Bool
  name : Str
  many : Int
  most : Int
  begin : Int
structure GRw (r : RwT) : Prop where
  name : nameOk r.name
  m0 : 1 ≤ r.many
  m1 : r.many ≤ 1000000
  t0 : 1 ≤ r.most
  t1 : r.most ≤ 9
  b0 : 0 ≤ r.begin
  b1 : r.begin < r.many
  yb : r.going = false → r.begin = 0
def goF (name : Str) (many most begin : Int) : List (Str × D) := [("name", .str name), ("pieces", .int many), ("most", .int most), ("begin", .int begin)]
inductive Srt where
  | free | off | rest
deriving DecidableEq
def Srt.s : Srt → Str
  | .free => "free"
  | .off => "off"
  | .rest => "rest"
/-- these make a row -/
structure RowIs (a b c : D) (name : Str) (many most : Int) : Prop where
  a : a = .str name
  b : b = .int many
  c : c = .int most
  n : nameOk name
  m0 : 1 ≤ many
  m1 : many ≤ 1000000
  t0 : 1 ≤ most
  t1 : most ≤ 9
structure RowX (a b c : D) : Prop where
  da : a.dat = true
  sa : ∀ s : Str, a = .str s → s.length ≤ 100000
  db : b.dat = true
  dc : c.dat = true
theorem RowX.ok {n : Str} {i j : Int} (h : nameOk n) : RowX (.str n) (.int i) (.int j) := ⟨rfl, fun s e => by cases e; have := h.2.1; omega, rfl, rfl⟩
theorem RowIs.of {r : RwT} (h : GRw r) : RowIs (.str r.name) (.int r.many) (.int r.most) r.name r.many r.most := ⟨rfl, rfl, rfl, h.name, h.m0, h.m1, h.t0, h.t1⟩
theorem de_is {K : PySem.W.Frag} {B : Bs} {ρ : En} {μ : Mu} {te : TE} {P : D → Mu → Prop} {d0 : D} (h : DE K B te ρ μ fun d μ1 => d = d0 ∧ μ1 = μ) (k : P d0 μ) : DE K B te ρ μ P := h.imp fun d μ1 p => by obtain ⟨rfl, rfl⟩ := p; exact k
theorem Srt.ok (w : Srt) : PyData.strOk w.s = true := by cases w <;> decide +kernel
/-! ### what the days of a year are for a row -/
structure SpT where
  a : Int
  b : Int
  w : Srt
  t : Str
abbrev SgT := SpT
/-- stretches side by side from a to b, on each of which all days are as it tells -/
def Chain (S : Int → Srt × Str) : Int → List SgT → Int → Prop
  | a, [], b => a = b
  | a, g :: r, b => g.a = a ∧ g.a < g.b ∧ (∀ x, g.a ≤ x → x < g.b → S x = (g.w, g.t)) ∧ Chain S g.b r b
theorem Chain.le {S : Int → Srt × Str} : ∀ {gs : List SgT} {a b : Int}, Chain S a gs b → a ≤ b
  | [], _, _, h => by have : _ = _ := h; omega
  | g :: r, a, b, ⟨h1, h2, h3, h4⟩ => by have := h4.le; omega
/-! ### the one list of numbers in order -/
/-! ### contracts -/
def toldFe (f : FeT) : D := .tup [.str f.name, .int f.place, .int f.lasts, keptD f.kept, actsD f.acts]
def c_Feast_told (K : PySem.W.Frag) : CT := fun ds μ P PX => ∃ f : FeT, ds = [feD K f] ∧ P (toldFe f) μ
def t_Feast_told (K : PySem.W.Frag) (E : XK) : TS :=
    (tSeq (tAsg (tIf (tB (tIsN (tFld K (tVar 0) "kept"))) (tC .non) (tCB (rListOf K) (tCons (tFld K (tVar 0) "kept") tNil))) (gName 1))
      (tRet (tTup (tCons (tFld K (tVar 0) "name") (tCons (tFld K (tVar 0) "place") (tCons (tFld K (tVar 0) "lasts") (tCons (tVar 1) (tCons (tCB (rListOf K) (tCons (tFld K (tVar 0) "acts") tNil)) tNil))))))))
section
variable {K : PySem.W.Frag}
theorem d_Feast_told (kf : KFe K) : ∀ ds μ P PX, c_Feast_told K ds μ P PX → MuCl μ μ.length → clL ds μ.length = true → ∀ B E, XAg K B (RetX μ.length PX) E → DS K B (t_Feast_told K E) (startD ["self", "years"] ds) μ (fnE μ.length P) := by
  intro ds μ P PX h hm hc B E hE
  obtain ⟨f, rfl, h⟩ := h
  have k1 := kf.cl; have k2 := kf.name; have k3 := kf.place; have k4 := kf.lasts; have k5 := kf.kept; have k6 := kf.acts
  have hcl : ∀ n, (toldFe f).cl n = true := fun n => by simp [toldFe, D.cl, clL, cl_kept, cl_acts]
  show DS K B _ [some (feD K f), none] μ _
  unfold t_Feast_told
  refine q_set (de_is (d0 := keptD f.kept) ?_ ?_)
  · cases q : f.kept with
    | none =>
      wtm_at "A"
      rw [q]
      refine np_t ?_
      wtm_at "A"
      exact ⟨rfl, rfl⟩
    | some ys =>
      have hq : keptD f.kept = intsD ys := by rw [q]; rfl
      wtm_at "A"
      rw [hq]
      refine np_lst ?_
      wtm_at "A"
      rw [hq]
      wtm_at "A"
      exact ⟨rfl, rfl⟩
  wtm_at "A"
  exact ret_same0 (Nat.le_refl _) hm (hcl _) h
end
/-- the feast is kept on the day -/
def keepsOf (ls : List Int) (f : FeT) (d : Int) : Bool := match spanOf ls f (yearY ls d) with
  | none => false
  | some p => decide (p.1 ≤ d) && decide (d < p.2)
def c_Feast_keeps (K : PySem.W.Frag) : CT := fun ds μ P PX => ∃ (f : FeT) (ls : List Int) (d : Int), ds = [feD K f, calD K ls, .int d] ∧ GCal ls ∧ (0 ≤ d → P (.bl (keepsOf ls f d)) μ) ∧ (d < 0 → PX (He.ga K "NoDay") [] μ)
theorem span_bd {ls : List Int} {f : FeT} {y : Int} (hg : GCal ls) (hf : GFe f) (hy : 0 ≤ y) {p : Int × Int} (h : spanOf ls f y = some p) : firstY ls y ≤ p.1 ∧ p.1 < p.2 ∧ p.2 ≤ firstY ls y + longY ls y := by
  have hl := hf.l0
  unfold spanOf at h
  split at h
  · cases h
  · simp only at h
    generalize (if 0 ≤ f.place then f.place else longY ls y + f.place) = q at h
    by_cases hq : 0 ≤ q ∧ q < longY ls y
    · rw [if_pos hq] at h
      cases h
      simp only
      omega
    · rw [if_neg hq] at h
      cases h
def t_Feast_keeps (K : PySem.W.Frag) (E : XK) : TS :=
    (tSeq (tAsg (tMeth (He.ga K "Calendar") "at" (spD K (c_Calendar_at K)) [] E (tVar 1) (tCons (tVar 2) tNil)) (gTup K 2 (gCons (gName 3) (gCons (gName 4) gNil))))
      (tSeq (tAsg (tMeth (He.ga K "Feast") "span" (spD K (c_Feast_span K)) [] E (tVar 0) (tCons (tVar 1) (tCons (tVar 3) tNil))) (gName 5))
      (tRet (tAndV (tNotN (tVar 5)) (tChain (rI0 fun i j => .bl (decide (i ≤ j))) (rI0 fun i j => .bl (decide (i < j))) (tOp (rIx K) (tVar 5) (tC (.int 0))) (tVar 2) (tOp (rIx K) (tVar 5) (tC (.int 1))))))))
section
variable {K : PySem.W.Frag}
theorem d_Feast_keeps : ∀ ds μ P PX, c_Feast_keeps K ds μ P PX → MuCl μ μ.length → clL ds μ.length = true → ∀ B E, XAg K B (RetX μ.length PX) E → DS K B (t_Feast_keeps K E) (startD ["self", "calendar", "day", "year", "place", "kept"] ds) μ (fnE μ.length P) := by
  intro ds μ P PX h hm hc B E hE
  obtain ⟨f, ls, d, rfl, hg, h, hx⟩ := h
  show DS K B _ [some (feD K f), some (calD K ls), some (.int d), none, none, none] μ _
  unfold t_Feast_keeps
  wtm_at "A"
  refine ⟨ls, d, rfl, hg, fun hd => ?_, fun hd => retx_same0 hm rfl (hx hd)⟩
  have h := h hd
  have pos := atY_spec hg hd
  have hy0 := pos.y0
  wtm_at "A"
  refine ⟨f, ls, _, rfl, hg, fun _ => ?_, fun hy => absurd hy (by omega)⟩
  unfold keepsOf yearY at h
  cases q : spanOf ls f (atY ls d).1 with
  | none =>
    rw [q] at h
    show DS K B _ [some (feD K f), some (calD K ls), some (.int d), some (.int (atY ls d).1), some (.int (atY ls d).2), some .non] μ _
    wtm_at "A"
    wtm_at "r"
    exact h
  | some p =>
    rw [q] at h
    show DS K B _ [some (feD K f), some (calD K ls), some (.int d), some (.int (atY ls d).1), some (.int (atY ls d).2), some (pairD p)] μ _
    wtm_at "A"
    · wtm_at "r"
      rename_i hb
      simpa [hb] using h
    · wtm_at "r"
      rename_i hb
      simpa [hb] using h
end
/-! ### the next kept day, the kept days ahead -/
def nextAux (ls : List Int) (f : FeT) (d y : Int) : Nat → Option Int
  | 0 => none
  | n + 1 => match spanOf ls f y with
    | some p => if d < p.2 then some (max d p.1) else nextAux ls f d (y + 1) n
    | none => nextAux ls f d (y + 1) n
def nextOf (ls : List Int) (f : FeT) (d : Int) : Option Int := nextAux ls f d (yearY ls d) (ls.length + 1)
def widY (ls : List Int) (f : FeT) (y : Int) : Int := match spanOf ls f y with
  | none => 0
  | some p => p.2 - p.1
def inY (ls : List Int) (f : FeT) (y e : Int) : Int := match spanOf ls f y with
  | none => 0
  | some p => max (min e p.2 - p.1) 0
def sumN (w : Nat → Int) (n : Nat) : Int := ((List.range n).map w).sum
theorem sumN_zero (w : Nat → Int) : sumN w 0 = 0 := rfl
theorem sumN_succ (w : Nat → Int) (n : Nat) : sumN w (n + 1) = sumN w n + w n := by simp [sumN, List.range_succ]
theorem sumN_congr {w v : Nat → Int} {n : Nat} (h : ∀ j, j < n → w j = v j) : sumN w n = sumN v n := by
  induction n with
  | zero => rfl
  | succ n ih => rw [sumN_succ, sumN_succ, ih fun j hj => h j (by omega), h n (by omega)]
theorem sumN_bd {w : Nat → Int} {n : Nat} {m : Int} (h : ∀ j, j < n → 0 ≤ w j ∧ w j ≤ m) : 0 ≤ sumN w n ∧ sumN w n ≤ m * n := by
  induction n with
  | zero => simp [sumN_zero]
  | succ n ih =>
    have := ih fun j hj => h j (by omega)
    have := h n (by omega)
    rw [sumN_succ]
    have e : m * ((n + 1 : Nat) : Int) = m * n + m := by push_cast; rw [Int.mul_add, Int.mul_one]
    omega
def aheadOf (ls : List Int) (f : FeT) (d : Int) : Int :=
  yearY ls d / ls.length * sumN (fun j => widY ls f j) ls.length + sumN (fun j => widY ls f j) (yearY ls d % ls.length).toNat + inY ls f (yearY ls d) d
theorem spanOf_at {ls : List Int} {f : FeT} {t : Int} {j : Nat} (hj : j < ls.length) : spanOf ls f (t * ls.length + j) = (spanOf ls f j).map fun p => (t * ls.sum + p.1, t * ls.sum + p.2) := by
  have hk : keptIn ls f (t * ls.length + j) = keptIn ls f j := by
    unfold keptIn
    rw [(year_at hj).2, Int.emod_eq_of_lt (by omega) (by omega)]
  unfold spanOf
  rw [hk, longY_at hj, firstY_at hj, firstY_in hj]
  split
  · rfl
  · simp only
    generalize (if 0 ≤ f.place then f.place else longY ls j + f.place) = q
    by_cases hq : 0 ≤ q ∧ q < longY ls j
    · rw [if_pos hq, if_pos hq]
      simp only [Option.map_some]
      rw [Int.add_assoc, Int.add_assoc]
    · rw [if_neg hq, if_neg hq]; rfl
theorem widY_at {ls : List Int} {f : FeT} {t : Int} {j : Nat} (hj : j < ls.length) : widY ls f (t * ls.length + j) = widY ls f j := by
  unfold widY
  rw [spanOf_at hj]
  cases spanOf ls f j with
  | none => rfl
  | some p => simp; omega
theorem inY_full {ls : List Int} {f : FeT} (hg : GCal ls) (hf : GFe f) {y : Int} (hy : 0 ≤ y) {e : Int} (he : firstY ls y + longY ls y ≤ e) : inY ls f y e = widY ls f y := by
  unfold inY widY
  cases q : spanOf ls f y with
  | none => rfl
  | some p =>
    have := span_bd hg hf hy q
    simp only
    omega
theorem widY_bd {ls : List Int} {f : FeT} (hg : GCal ls) (hf : GFe f) {y : Int} (hy : 0 ≤ y) : 0 ≤ widY ls f y ∧ widY ls f y ≤ 400 := by
  unfold widY
  have := longY_bd hg hy
  cases q : spanOf ls f y with
  | none => simp
  | some p =>
    have := span_bd hg hf hy q
    simp only
    omega
theorem pre_next {ls : List Int} (hg : GCal ls) {j l : Nat} (hj : j < l) (hl : l ≤ ls.length) : preY ls j + longY ls j ≤ preY ls l := by
  have e1 : ∀ x ∈ ls, 1 ≤ x := fun x hx => (hg.each x hx).1
  have h4 := preY_mono e1 (i := j + 1) (j := l) (by omega) hl
  have h5 := longY_get hg (y := (j : Int)) (by omega)
  rw [Int.emod_eq_of_lt (by omega) (by omega), Int.toNat_natCast] at h5
  rw [preY_succ h5] at h4
  omega
theorem inY_turn {ls : List Int} {f : FeT} (hg : GCal ls) (hf : GFe f) {j : Nat} (hj : j < ls.length) : inY ls f j ls.sum = widY ls f j := by
  refine inY_full hg hf (by omega) ?_
  rw [firstY_in hj]
  have := pre_next hg hj (Nat.le_refl _)
  rw [preY_all] at this
  exact this
theorem inY_past {ls : List Int} {f : FeT} (hg : GCal ls) (hf : GFe f) {d : Int} (hd : 0 ≤ d) {j : Nat} (hj : j < (yearY ls d % ls.length).toNat) : inY ls f (yearY ls d / ls.length * ls.length + j) d = widY ls f j := by
  have hp := hg.pos
  have pos := atY_spec hg hd
  have hy0 : 0 ≤ yearY ls d := pos.y0
  have hm1 := Int.emod_lt_of_pos (yearY ls d) (b := (ls.length : Int)) (by omega)
  have hq : 0 ≤ yearY ls d / ls.length := Int.ediv_nonneg hy0 (by omega)
  have hy : 0 ≤ yearY ls d / ls.length * ls.length := Int.mul_nonneg hq (by omega)
  have hd' : d = firstY ls (yearY ls d) + (atY ls d).2 := pos.d
  have hs := pos.s0
  rw [inY_full hg hf (by omega), widY_at (by omega)]
  rw [firstY_at (by omega), longY_at (by omega)]
  have h2 := pre_next hg hj (by omega)
  unfold firstY at hd'
  omega
def c_Feast_next_kept (K : PySem.W.Frag) : CT := fun ds μ P PX => ∃ (f : FeT) (ls : List Int) (d : Int), ds = [feD K f, calD K ls, .int d] ∧ GCal ls ∧ (0 ≤ d → P (optD (nextOf ls f d)) μ) ∧ (d < 0 → PX (He.ga K "NoDay") [] μ)
def c_Feast_kept_in (K : PySem.W.Frag) : CT := fun ds μ P PX => ∃ (f : FeT) (ls : List Int) (y e : Int), ds = [feD K f, calD K ls, .int y, .int e] ∧ GCal ls ∧ 0 ≤ y ∧ P (.int (inY ls f y e)) μ
def c_Feast_kept_ahead (K : PySem.W.Frag) : CT := fun ds μ P PX => ∃ (f : FeT) (ls : List Int) (d : Int), ds = [feD K f, calD K ls, .int d] ∧ GCal ls ∧ GFe f ∧ (0 ≤ d → P (.int (aheadOf ls f d)) μ) ∧ (d < 0 → PX (He.ga K "NoDay") [] μ)
def t_Feast_next_kept (K : PySem.W.Frag) (E : XK) : TS :=
    (tSeq (tAsg (tMeth (He.ga K "Calendar") "at" (spD K (c_Calendar_at K)) [] E (tVar 1) (tCons (tVar 2) tNil)) (gTup K 2 (gCons (gName 3) (gCons (gName 4) gNil))))
      (tSeq (tFor (iRng2W (tCons (tVar 3) (tCons (tOp (rAddA K) (tOp (rAddA K) (tVar 3) (tCB (rLen K) (tCons (tMeth (He.ga K "Calendar") "years" (spD K (c_Calendar_years K)) [] E (tVar 1) tNil) tNil))) (tC (.int 1))) tNil))) (gName 5) (tSeq (tAsg (tMeth (He.ga K "Feast") "span" (spD K (c_Feast_span K)) [] E (tVar 0) (tCons (tVar 1) (tCons (tVar 5) tNil))) (gName 6))
      (tIfS (tAnd (tB (tNotN (tVar 6))) (tTest (tOp (rI0 fun i j => .bl (decide (i < j))) (tVar 2) (tOp (rIx K) (tVar 6) (tC (.int 1)))))) (tRet (tCB (rMaxA K) (tCons (tVar 2) (tCons (tOp (rIx K) (tVar 6) (tC (.int 0))) tNil)))) tNext)))
      (tRet (tC .non))))
def t_Feast_kept_in (K : PySem.W.Frag) (E : XK) : TS :=
    (tSeq (tAsg (tMeth (He.ga K "Feast") "span" (spD K (c_Feast_span K)) [] E (tVar 0) (tCons (tVar 1) (tCons (tVar 2) tNil))) (gName 4))
      (tSeq (tIfS (tB (tIsN (tVar 4))) (tRet (tC (.int 0))) tNext)
      (tRet (tCB (rMaxA K) (tCons (tOp (rI0 fun i j => .int (i - j)) (tCB (rMinA K) (tCons (tVar 3) (tCons (tOp (rIx K) (tVar 4) (tC (.int 1))) tNil))) (tOp (rIx K) (tVar 4) (tC (.int 0)))) (tCons (tC (.int 0)) tNil))))))
def t_Feast_kept_ahead (K : PySem.W.Frag) (E : XK) : TS :=
    (tSeq (tAsg (tMeth (He.ga K "Calendar") "at" (spD K (c_Calendar_at K)) [] E (tVar 1) (tCons (tVar 2) tNil)) (gTup K 2 (gCons (gName 3) (gCons (gName 4) gNil))))
      (tSeq (tAsg (tCB (rLen K) (tCons (tMeth (He.ga K "Calendar") "years" (spD K (c_Calendar_years K)) [] E (tVar 1) tNil) tNil)) (gName 5))
      (tSeq (tAsg (tOp rFdivA (tVar 3) (tVar 5)) (gName 6))
      (tSeq (tAsg (tOp rMulA (tVar 6) (tCB (rSum K) (tCons (tLc (iRng1 (tCons (tVar 5) tNil)) (gName 8) tYes (tMeth (He.ga K "Feast") "kept_in" (spD K (c_Feast_kept_in K)) [] E0 (tVar 0) (tCons (tVar 1) (tCons (tVar 8) (tCons (tMeth (He.ga K "Calendar") "turn" (spD K (c_Calendar_turn K)) [] E0 (tVar 1) tNil) tNil)))) [8]) tNil))) (gName 7))
      (tSeq (tFor (iRng2W (tCons (tOp rMulA (tVar 6) (tVar 5)) (tCons (tOp (rAddA K) (tVar 3) (tC (.int 1))) tNil))) (gName 8) (tAug 7 (tMeth (He.ga K "Feast") "kept_in" (spD K (c_Feast_kept_in K)) [] E (tVar 0) (tCons (tVar 1) (tCons (tVar 8) (tCons (tVar 2) tNil)))) (ipI fun i j => i + j)))
      (tRet (tVar 7)))))))
section
variable {K : PySem.W.Frag}
theorem nextAux_none {ls : List Int} {f : FeT} {d y : Int} {n : Nat} (q : spanOf ls f y = none) : nextAux ls f d y (n + 1) = nextAux ls f d (y + 1) n := by simp [nextAux, q]
theorem nextAux_pass {ls : List Int} {f : FeT} {d y : Int} {n : Nat} {p : Int × Int} (q : spanOf ls f y = some p) (h : ¬ d < p.2) : nextAux ls f d y (n + 1) = nextAux ls f d (y + 1) n := by simp [nextAux, q, h]
theorem nextAux_hit {ls : List Int} {f : FeT} {d y : Int} {n : Nat} {p : Int × Int} (q : spanOf ls f y = some p) (h : d < p.2) : nextAux ls f d y (n + 1) = some (max d p.1) := by simp [nextAux, q, h]
theorem d_Feast_next_kept : ∀ ds μ P PX, c_Feast_next_kept K ds μ P PX → MuCl μ μ.length → clL ds μ.length = true → ∀ B E, XAg K B (RetX μ.length PX) E → DS K B (t_Feast_next_kept K E) (startD ["self", "calendar", "day", "year", "place", "number", "kept"] ds) μ (fnE μ.length P) := by
  intro ds μ P PX h hm hc B E hE
  obtain ⟨f, ls, d, rfl, hg, h, hx⟩ := h
  show DS K B _ [some (feD K f), some (calD K ls), some (.int d), none, none, none, none] μ _
  unfold t_Feast_next_kept
  wtm_at "A"
  refine ⟨ls, d, rfl, hg, fun hd => ?_, fun hd => retx_same0 hm rfl (hx hd)⟩
  have h := h hd
  have pos := atY_spec hg hd
  have hy0 : 0 ≤ yearY ls d := pos.y0
  show DG K B _ (.tup [.int (yearY ls d), .int (atY ls d).2]) _ _ _
  wtm_at "A"
  refine q_for ?_
  refine di_range2W ?_
  wtm_at "E"
  refine ⟨ls, rfl, .inl ?_⟩
  wtm_at "E"
  refine ⟨_, _, rfl, fun i ρ μ' => ∃ (y5 y6 : Option D), ρ = [some (feD K f), some (calD K ls), some (.int d), some (.int (yearY ls d)), some (.int (atY ls d).2), y5, y6] ∧ μ = μ' ∧ nextOf ls f d = nextAux ls f d (yearY ls d + i) (ls.length + 1 - i),
    ⟨none, none, rfl, rfl, by simp [nextOf]⟩, fun _ _ _ _ _ => trivial, ?_, ?_⟩
  · rintro i z ρ μ' hz ⟨y5, y6, rfl, rfl, hn⟩
    obtain ⟨hi, rfl⟩ := rangeD_some hz
    have hi' : i < ls.length + 1 := by simp at hi; omega
    rw [show ls.length + 1 - i = (ls.length - i) + 1 by omega] at hn
    wtm_at "A"
    refine ⟨f, ls, _, rfl, hg, fun _ => ?_, fun hy => absurd hy (by omega)⟩
    cases q : spanOf ls f (yearY ls d + i) with
    | none =>
      show DS K B _ [some (feD K f), some (calD K ls), some (.int d), some (.int (yearY ls d)), some (.int (atY ls d).2), some (.int (yearY ls d + i)), some .non] μ _
      wtm_at "A"
      rw [nextAux_none q] at hn
      refine ⟨_, _, rfl, rfl, ?_⟩
      rw [hn]
      congr 1 <;> omega
    | some p =>
      show DS K B _ [some (feD K f), some (calD K ls), some (.int d), some (.int (yearY ls d)), some (.int (atY ls d).2), some (.int (yearY ls d + i)), some (pairD p)] μ _
      wtm_at "A"
      · rename_i hb
        rw [nextAux_hit q hb] at hn
        rw [hn] at h
        wtm_at "r"
        exact h
      · rename_i hb
        rw [nextAux_pass q hb] at hn
        refine ⟨_, _, rfl, rfl, ?_⟩
        rw [hn]
        congr 1 <;> omega
  · rintro ρ μ' ⟨y5, y6, rfl, rfl, hn⟩
    wtm_at "A"
    wtm_at "r"
    have : nextOf ls f d = none := by
      rw [hn, rangeD_length]
      rw [show ls.length + 1 - (yearY ls d + ((ls.map D.int).length : Int) + 1 - yearY ls d).toNat = 0 by simp; omega]
      rfl
    rw [this] at h
    exact h
theorem d_Feast_kept_in : ∀ ds μ P PX, c_Feast_kept_in K ds μ P PX → MuCl μ μ.length → clL ds μ.length = true → ∀ B E, XAg K B (RetX μ.length PX) E → DS K B (t_Feast_kept_in K E) (startD ["self", "calendar", "year", "end", "kept"] ds) μ (fnE μ.length P) := by
  intro ds μ P PX h hm hc B E hE
  obtain ⟨f, ls, y, e, rfl, hg, hy, h⟩ := h
  show DS K B _ [some (feD K f), some (calD K ls), some (.int y), some (.int e), none] μ _
  unfold t_Feast_kept_in
  wtm_at "A"
  refine ⟨f, ls, _, rfl, hg, fun _ => ?_, fun hy => absurd hy (by omega)⟩
  unfold inY at h
  cases q : spanOf ls f y with
  | none =>
    rw [q] at h
    show DS K B _ [some (feD K f), some (calD K ls), some (.int y), some (.int e), some .non] μ _
    wtm_at "A"
    wtm_at "r"
    exact h
  | some p =>
    rw [q] at h
    show DS K B _ [some (feD K f), some (calD K ls), some (.int y), some (.int e), some (pairD p)] μ _
    wtm_at "A"
    wtm_at "r"
    exact h
theorem d_Feast_kept_ahead : ∀ ds μ P PX, c_Feast_kept_ahead K ds μ P PX → MuCl μ μ.length → clL ds μ.length = true → ∀ B E, XAg K B (RetX μ.length PX) E → DS K B (t_Feast_kept_ahead K E) (startD ["self", "calendar", "day", "year", "place", "many", "turns", "found", "number"] ds) μ (fnE μ.length P) := by
  intro ds μ P PX h hm hc B E hE
  obtain ⟨f, ls, d, rfl, hg, hf, h, hx⟩ := h
  show DS K B _ [some (feD K f), some (calD K ls), some (.int d), none, none, none, none, none, none] μ _
  unfold t_Feast_kept_ahead
  wtm_at "A"
  refine ⟨ls, d, rfl, hg, fun hd => ?_, fun hd => retx_same0 hm rfl (hx hd)⟩
  have h := h hd
  have pos := atY_spec hg hd
  have hy0 : 0 ≤ yearY ls d := pos.y0
  have hp := hg.pos
  have hmost := hg.most
  show DG K B _ (.tup [.int (yearY ls d), .int (atY ls d).2]) _ _ _
  wtm_at "A"
  refine ⟨ls, rfl, .inl ?_⟩
  wtm_at "A"
  rw [List.length_map]
  wtm_at "A"
  refine ro_fdiv (by omega) (log2S (by omega) (by omega)) ?_
  wtm_at "A"
  refine lc_map (fun z => match z with | .int j => .int (widY ls f j) | _ => .non) (gw_name (by simp)) ?_
  wtm_at "A"
  refine ⟨by omega, by omega, trivial, by rw [rangeD_length]; omega, fun i z hz => ?_, fun out ho => ?_⟩
  · obtain ⟨hi, rfl⟩ := rangeD_some hz
    wtm_at "A"
    refine ⟨rfl, ?_⟩
    refine de_methZ XAg.none ?_
    wtm_at "A"
    refine de_methZ XAg.none ?_
    wtm_at "A"
    refine ⟨ls, rfl, ?_⟩
    wtm_at "A"
    refine ⟨f, ls, _, _, rfl, hg, by omega, ?_⟩
    have e := inY_turn hg hf (j := i) (by simpa using hi)
    simp only [Int.zero_add]
    rw [e]
    exact ⟨rfl, trivial⟩
  have ho' : out = ((List.range ls.length).map fun j => widY ls f (j : Nat)).map D.int := by
    rw [← ho]
    simp [rangeD, List.map_map, Function.comp_def]
  wtm_at "A"
  refine rc_sum (ns := (List.range ls.length).map fun j => widY ls f (j : Nat)) (by rw [ho']; exact .lst _) ?_
  show RO K rMulA (.int (yearY ls d / ls.length)) (.int (sumN (fun j => widY ls f j) ls.length)) _ _
  have hsb := sumN_bd (w := fun j => widY ls f (j : Nat)) (n := ls.length) (m := 400) fun j _ => widY_bd hg hf (by omega)
  wtm_at "A"
  refine q_for ?_
  refine di_range2W ?_
  wtm_at "E"
  have hq : 0 ≤ yearY ls d / ls.length := Int.ediv_nonneg hy0 (by omega)
  have hqn : 0 ≤ yearY ls d / ls.length * ls.length := Int.mul_nonneg hq (by omega)
  have hdm := Int.ediv_mul_add_emod (yearY ls d) ls.length
  have hm0 := Int.emod_nonneg (yearY ls d) (b := (ls.length : Int)) (by omega)
  have hlen : (yearY ls d + 1 - yearY ls d / ls.length * ls.length).toNat = (yearY ls d % ls.length).toNat + 1 := by omega
  refine ⟨_, _, rfl, fun i ρ μ' => ∃ (y8 : Option D), ρ = [some (feD K f), some (calD K ls), some (.int d), some (.int (yearY ls d)), some (.int (atY ls d).2), some (.int ls.length), some (.int (yearY ls d / ls.length)), some (.int (yearY ls d / ls.length * sumN (fun j => widY ls f j) ls.length + sumN (fun j => inY ls f (yearY ls d / ls.length * ls.length + j) d) i)), y8] ∧ μ = μ',
    ⟨none, by rw [sumN_zero, Int.add_zero]; rfl, rfl⟩, fun _ _ _ _ _ => trivial, ?_, ?_⟩
  · rintro i z ρ μ' hz ⟨y8, rfl, rfl⟩
    obtain ⟨hi, rfl⟩ := rangeD_some hz
    wtm_at "E"
    refine ds_aug (x := .int _) rfl ?_
    wtm_at "E"
    refine ⟨f, ls, _, _, rfl, hg, by omega, ?_⟩
    wtm_at "E"
    refine ⟨some (.int (yearY ls d / ls.length * ls.length + i)), ?_, rfl⟩
    rw [sumN_succ, ← Int.add_assoc]
    rfl
  · rintro ρ μ' ⟨y8, rfl, rfl⟩
    wtm_at "A"
    wtm_at "r"
    rw [rangeD_length, hlen, sumN_succ, sumN_congr (v := fun j => widY ls f (j : Nat)) fun j hj => inY_past hg hf hd hj]
    rw [show yearY ls d / ↑ls.length * ↑ls.length + ((yearY ls d % ls.length).toNat : Int) = yearY ls d by omega, ← Int.add_assoc]
    exact h
end
local macro_rules | `(tactic| wtm_at "d7") => `(tactic| with_reducible (first | refine de_xfZ ?_ | refine np_exc ?_))
local macro_rules | `(tactic| wtm_at "g7") => `(tactic| first | refine xf_i (by assumption) (by simp) (by rfl) ?_ | refine ro_eqSS (by decide +kernel) ?_ | refine ro_neSS (by decide +kernel) ?_ | refine ro_eqSd (by decide +kernel) (by decide +kernel) (by decide +kernel) ?_ | refine ro_neSd (by decide +kernel) (by decide +kernel) (by decide +kernel) ?_)
local macro_rules | `(tactic| wtm_at "Q7") => `(tactic| wtm_at "g7")
local macro_rules | `(tactic| wtm_at "Q7") => `(tactic| wtm_at "d7")
local macro_rules | `(tactic| wtm_at "Q7") => `(tactic| wtm_at "Q")
local macro_rules | `(tactic| wtm_at "E") => `(tactic| repeat' first | wtm_at "Q7" | fail)
local macro_rules | `(tactic| wtm_at "QA7") => `(tactic| wtm_at "Q7")
local macro_rules | `(tactic| wtm_at "QA7") => `(tactic| wtm_at "Qs")
local macro_rules | `(tactic| wtm_at "A") => `(tactic| repeat' first | wtm_at "QA7" | fail)
/-! ### feasts refused: contracts -/
structure FeX (a b c dk dp : D) : Prop where
  da : a.dat = true
  sa : ∀ s : Str, a = .str s → s.length ≤ 100000
  db : b.dat = true
  dc : c.dat = true
  xk : datA dk
  xp : PutsX dp
  cl : ∀ n, clL [a, b, c, dk, dp] n = true
def BadF (a b c dk dp : D) : Prop := ∀ f, ¬ FeIs a b c dk dp f
def due15 : List D := [.bl true, .bl true, .bl false, .bl false, .bl false, .bl false, .bl false, .bl false, .bl false, .bl false, .bl false, .bl false, .bl false, .bl false, .bl false]
theorem BadF.name {a b c dk dp : D} (h : isNameD a = false) : BadF a b c dk dp := fun f q => by
  rw [q.a] at h
  exact absurd q.good.name (by simpa [isNameD] using h)
theorem BadF.place {a b c dk dp : D} (h : isNum b (-400) 399 = false) : BadF a b c dk dp := fun f q => by
  rw [q.b] at h
  have h1 := q.good.p0; have h2 := q.good.p1
  simp [isNum] at h
  omega
theorem BadF.days {a b c dk dp : D} (h : isNum c 1 40 = false) : BadF a b c dk dp := fun f q => by
  rw [q.c] at h
  have h1 := q.good.l0; have h2 := q.good.l1
  simp [isNum] at h
  omega
theorem BadF.years {a b c dk dp : D} (h : goodYs dk = false) : BadF a b c dk dp := fun f q => by
  rw [q.k, goodYs_of q.good.kept] at h
  cases h
theorem BadF.puts {a b c dk dp : D} (h : ∀ ps, ¬ PutsIs dp ps) : BadF a b c dk dp := fun f q => h _ q.p
def c_law_beyond (K : PySem.W.Frag) : CT := fun ds μ P PX => ∃ (k k2 : Nat) (c : Int) (ns : List Int), ds = [.own k] ∧ Hd k k2 c ns μ ∧ c < 2 ^ 37 ∧ ∀ (r c' : Int) (ns' : List Int), 0 ≤ r → r < 10 ^ 57 → c ≤ c' → c' ≤ c + 9 → ns'.length = ns.length → P (.int r) (hold μ k k2 c' ns')
def c_law_bad_name (K : PySem.W.Frag) : CT := fun ds μ P PX => ∃ (k k2 : Nat) (c : Int) (ns : List Int), ds = [.own k] ∧ Hd k k2 c ns μ ∧ c < 2 ^ 36 ∧ ∀ (d : D) (c' : Int) (ns' : List Int), d.dat = true → (∀ s : Str, d = .str s → s.length ≤ 100000) → (∀ n, d.cl n = true) → isNameD d = false → c ≤ c' → c' ≤ c + 20 → ns'.length = ns.length → P d (hold μ k k2 c' ns')
def c_law_bad_years (K : PySem.W.Frag) : CT := fun ds μ P PX => ∃ (k k2 : Nat) (c : Int) (ns : List Int), ds = [.own k] ∧ Hd k k2 c ns μ ∧ c < 2 ^ 36 ∧ ∀ (d : D) (c' : Int) (ns' : List Int), datA d → (∀ n, d.cl n = true) → goodYs d = false → c ≤ c' → c' ≤ c + 60 → ns'.length = ns.length → P d (hold μ k k2 c' ns')
def c_law_bad_puts (K : PySem.W.Frag) : CT := fun ds μ P PX => ∃ (k k2 : Nat) (c : Int) (ns : List Int), ds = [.own k] ∧ Hd k k2 c ns μ ∧ c < 2 ^ 35 ∧ ∀ (d : D) (c' : Int) (ns' : List Int), PutsX d → (∀ n, d.cl n = true) → (∀ ps, ¬ PutsIs d ps) → c ≤ c' → c' ≤ c + 60 → ns'.length = ns.length → P d (hold μ k k2 c' ns')
def c_law_spoil (K : PySem.W.Frag) : CT := fun ds μ P PX => ∃ (k k2 : Nat) (c : Int) (ns : List Int) (j : Nat) (w : Int) (a b cc dk dp : D), ds = [.own j, .int w, .own k] ∧ Hd k k2 c ns μ ∧ c < 2 ^ 34 ∧ k ≠ j ∧ k2 ≠ j ∧ μ[j]? = some (.lst [a, b, cc, dk, dp]) ∧ FeX a b cc dk dp ∧ 0 ≤ w ∧ w < 5 ∧
  ∀ (a' b' cc' dk' dp' : D) (c' : Int) (ns' : List Int), FeX a' b' cc' dk' dp' → BadF a' b' cc' dk' dp' → c ≤ c' → c' ≤ c + 80 → ns'.length = ns.length → P .non ((hold μ k k2 c' ns').set j (.lst [a', b', cc', dk', dp']))
def c_law_bad (K : PySem.W.Frag) : CT := fun ds μ P PX => ∃ (x a b c dk dp : D), ds = [x] ∧ Ls μ x [a, b, c, dk, dp] ∧ FeX a b c dk dp ∧ BadF a b c dk dp ∧ P (.lst due15) μ
def c_law_asked (K : PySem.W.Frag) : CT := fun ds μ P PX => ∃ (f : FeT) (ls : List Int) (d n : Int), ds = [feD K f, calD K ls, .int d, .int n] ∧ GCal ls ∧ GFe f ∧ 0 ≤ d ∧ d < 4 ∧ n < 0 ∧ P (.lst due15) μ
def c_law_told_is (K : PySem.W.Frag) : CT := fun ds μ P PX => ∃ (f : FeT) (y : D), ds = [toldFe f, y] ∧ GFe f ∧ Ls μ y (feL f) ∧ P (.bl true) μ
def c_law (K : PySem.W.Frag) : CT := fun ds μ P PX => ∃ ns : List Int, ds = [.rdl (ns.map D.int)] ∧ ns.length ≤ 63 ∧ ∀ μ', P (.bl true) μ'
/-! ### bad years -/
theorem rise_bad {ys : List Int} {i : Nat} {a b : Int} (h1 : ys[i]? = some a) (h2 : ys[i + 1]? = some b) (h : b ≤ a) : goodYs (.lst (ys.map D.int)) = false := by
  show (areNums (.lst (ys.map D.int)) 20 0 19 && rises (intsOf (ys.map D.int))) = false
  rw [intsOf_int]
  have : rises ys = false := by
    cases q : rises ys with
    | false => rfl
    | true =>
      have := rises_iff.mp q i a b h1 h2
      omega
  rw [this, Bool.and_false]
theorem nums_bad {xs : List D} {x : D} (hx : x ∈ xs) (h : isNum x 0 19 = false) : goodYs (.lst xs) = false := by
  show (areNums (.lst xs) 20 0 19 && rises (intsOf xs)) = false
  have : areNums (.lst xs) 20 0 19 = false := by
    unfold areNums
    have : xs.all (fun x => isNum x 0 19) = false := by
      rw [List.all_eq_false]
      exact ⟨x, hx, by rw [h]; simp⟩
    show (decide (1 ≤ xs.length) && decide ((xs.length : Int) ≤ 20) && xs.all fun x => isNum x 0 19) = false
    rw [this, Bool.and_false]
  rw [this, Bool.false_and]
theorem long_bad {xs : List D} (h : ¬ (1 ≤ xs.length ∧ xs.length ≤ 20)) : goodYs (.lst xs) = false := by
  show (areNums (.lst xs) 20 0 19 && rises (intsOf xs)) = false
  have : areNums (.lst xs) 20 0 19 = false := by
    unfold areNums
    by_cases h1 : 1 ≤ xs.length
    · have : decide ((xs.length : Int) ≤ 20) = false := decide_eq_false (by omega)
      simp [this]
    · have : decide (1 ≤ xs.length) = false := decide_eq_false h1
      simp [this]
  rw [this, Bool.false_and]
theorem ints_dat (ys : List Int) : (D.lst (ys.map D.int)).dat = true := by
  rw [D.dat, datL_iff]
  intro z hz
  obtain ⟨w, _, rfl⟩ := List.mem_map.mp hz
  rfl
theorem lst_dat {xs : List D} (h : ∀ x ∈ xs, x.dat = true) : (D.lst xs).dat = true := by
  rw [D.dat, datL_iff]
  exact h
theorem lst_clN {xs : List D} (h : ∀ x ∈ xs, ∀ n, x.cl n = true) (n : Nat) : (D.lst xs).cl n = true := by
  rw [D.cl, clL_iff]
  exact fun x hx => h x hx n
theorem cut_toK {xs : List D} (n : Nat) : cutD xs none (some (n : Int)) = xs.take n := by
  unfold cutD
  rw [HT.sIx_none, HT.sIx_nat]
  simp only [List.drop_zero, Nat.sub_zero]
  rcases Nat.le_total n xs.length with h | h
  · rw [Nat.min_eq_left h]
  · rw [Nat.min_eq_right h, List.take_of_length_le (Nat.le_refl _), List.take_of_length_le h]
theorem cut_frK {xs : List D} {n : Nat} : cutD xs (some (n : Int)) none = xs.drop n := by
  unfold cutD
  rw [HT.sIx_none, HT.sIx_nat]
  rcases Nat.le_total n xs.length with h | h
  · rw [Nat.min_eq_left h, List.take_of_length_le (by simp)]
  · rw [Nat.min_eq_right h, List.drop_of_length_le (Nat.le_refl _), List.drop_of_length_le h, List.take_nil]
/-- the numbers below twenty but for one -/
def lessN (one : Int) : List Int := ((List.range 20).map fun i : Nat => (i : Int)).filter fun i => !decide (i = one)
theorem lessN_is (one : Int) : ((rangeD 0 20).filter (fun d => match d with | .int i => !decide (i = one) | _ => false)).map id = (lessN one).map D.int := by
  have e : (fun i : Nat => D.int (0 + (i : Int))) = (D.int ∘ fun i : Nat => (i : Int)) := by funext i; simp
  unfold rangeD lessN
  rw [List.map_id, e, List.filter_map, List.filter_map, List.map_map]
  refine congrArg _ (List.filter_congr fun i _ => ?_)
  simp
theorem lessN_ok {one : Int} (h0 : 0 ≤ one) (h1 : one < 20) : (lessN one).length = 19 ∧ (∀ (i : Nat) (a b : Int), (lessN one)[i]? = some a → (lessN one)[i + 1]? = some b → a < b) ∧ True ∧ True := by
  have key : ∀ j : Fin 20, (lessN (j.val : Int)).length = 19 ∧ rises (lessN (j.val : Int)) = true := by decide +kernel
  obtain ⟨n, rfl⟩ : ∃ n : Nat, one = n := ⟨one.toNat, by omega⟩
  obtain ⟨a, b⟩ := key ⟨n, by omega⟩
  exact ⟨a, rises_iff.mp b, trivial, trivial⟩
def t_law_beyond (K : PySem.W.Frag) (E : XK) : TS :=
    (tRet (tOp rMulA (tCall (spD K (c_law_draw K)) [] E (tCons (tVar 0) (tCons (tC (.int 2)) tNil))) (tCall (spD K (c_law_far K)) [] E (tCons (tVar 0) tNil))))
def t_law_told_is (K : PySem.W.Frag) (E : XK) : TS :=
    (tSeq (tIfS (tOr (tNot (tTruth K (tCB (rIsi K) (tCons (tVar 0) (tCons (tC (.ty "tuple")) tNil))))) (tOr (tTest (tOp (rNeD K) (tCB (rLen K) (tCons (tVar 0) tNil)) (tC (.int 5)))) (tOr (tTest (tOp (rNeD K) (tOp (rIx K) (tVar 0) (tC (.int 0))) (tOp (rIx K) (tVar 1) (tC (.int 0))))) (tTest (tOp (rNeD K) (tOp (rIx K) (tVar 0) (tC (.int 4))) (tOp (rIx K) (tVar 1) (tC (.int 4)))))))) (tRet (tC (.bl false))) tNext)
      (tSeq (tIfS (tOr (tNot (tTruth K (tCall (spD K (c_law_is K)) [] E (tCons (tOp (rIx K) (tVar 0) (tC (.int 1))) (tCons (tOp (rIx K) (tVar 1) (tC (.int 1))) tNil))))) (tOr (tNot (tTruth K (tCall (spD K (c_law_is K)) [] E (tCons (tOp (rIx K) (tVar 0) (tC (.int 2))) (tCons (tOp (rIx K) (tVar 1) (tC (.int 2))) tNil))))) (tNot (tTruth K (tCB (rIsi K) (tCons (tOp (rIx K) (tVar 0) (tC (.int 4))) (tCons (tC (.ty "list")) tNil))))))) (tRet (tC (.bl false))) tNext)
      (tSeq (tIfS (tB (tIsN (tOp (rIx K) (tVar 1) (tC (.int 3))))) (tRet (tIsN (tOp (rIx K) (tVar 0) (tC (.int 3))))) tNext)
      (tRet (tAndV (tCB (rIsi K) (tCons (tOp (rIx K) (tVar 0) (tC (.int 3))) (tCons (tC (.ty "list")) tNil))) (tCall (spD K (c_law_row_is K)) [] E (tCons (tOp (rIx K) (tVar 0) (tC (.int 3))) (tCons (tOp (rIx K) (tVar 1) (tC (.int 3))) tNil))))))))
def t_law_bad_years (K : PySem.W.Frag) (E : XK) : TS :=
    (tSeq (tAsg (tCall (spD K (c_law_draw K)) [] E (tCons (tVar 0) (tCons (tC (.int 9)) tNil))) (gName 1))
      (tSeq (tAsg (tCall (spD K (c_law_draw K)) [] E (tCons (tVar 0) (tCons (tC (.int 20)) tNil))) (gName 2))
      (tSeq (tAsg (tLc (iRng1 (tCons (tC (.int 20)) tNil)) (gName 4) (tOr (tTest (tOp (rEqD K) (tVar 4) (tVar 2))) (tTest (tOp (rEqD K) (tCall (spD K (c_law_draw K)) [] E0 (tCons (tVar 0) (tCons (tC (.int 2)) tNil))) (tC (.int 0))))) (tVar 4) [4]) (gName 3))
      (tSeq (tAsg (tCall (spD K (c_law_draw K)) [] E (tCons (tVar 0) (tCons (tCB (rLen K) (tCons (tVar 3) tNil)) tNil))) (gName 5))
      (tSeq (tIfS (tTest (tOp (rI0 fun i j => .bl (decide (i < j))) (tVar 1) (tC (.int 2)))) (tRet (tOp (rIx K) (tLst (tCons (tLst tNil) (tCons (tOp (rAddA K) (tLstRg (tRg1 (tC (.int 20)))) (tLst (tCons (tOp (rAddA K) (tC (.int 20)) (tCall (spD K (c_law_draw K)) [] E (tCons (tVar 0) (tCons (tC (.int 2)) tNil)))) tNil))) tNil))) (tVar 1))) tNext)
      (tSeq (tIfS (tTest (tOp (rEqD K) (tVar 1) (tC (.int 2)))) (tRet (tOp (rAddA K) (tSl (rSlA K) (tVar 3) tNoPart (tPart (tOp (rAddA K) (tVar 5) (tC (.int 1))))) (tSl (rSlA K) (tVar 3) (tPart (tVar 5)) tNoPart))) tNext)
      (tSeq (tIfS (tTest (tOp (rEqD K) (tVar 1) (tC (.int 3)))) (tRet (tOp (rAddA K) (tOp (rAddA K) (tSl (rSlA K) (tVar 3) tNoPart (tPart (tVar 5))) (tLst (tCons (tOp (rAddA K) (tC (.int 20)) (tCall (spD K (c_law_beyond K)) [] E (tCons (tVar 0) tNil))) tNil))) (tSl (rSlA K) (tVar 3) (tPart (tOp (rAddA K) (tVar 5) (tC (.int 1)))) tNoPart))) tNext)
      (tSeq (tIfS (tTest (tOp (rEqD K) (tVar 1) (tC (.int 4)))) (tRet (tOp (rAddA K) (tOp (rAddA K) (tSl (rSlA K) (tVar 3) tNoPart (tPart (tVar 5))) (tLst (tCons (tOp (rI0 fun i j => .int (i - j)) (tUn (rU fun i => .int (-i)) (tC (.int 1))) (tCall (spD K (c_law_beyond K)) [] E (tCons (tVar 0) tNil))) tNil))) (tSl (rSlA K) (tVar 3) (tPart (tOp (rAddA K) (tVar 5) (tC (.int 1)))) tNoPart))) tNext)
      (tSeq (tIfS (tTest (tOp (rEqD K) (tVar 1) (tC (.int 5)))) (tRet (tOp (rAddA K) (tOp (rAddA K) (tSl (rSlA K) (tVar 3) tNoPart (tPart (tVar 5))) (tLst (tCons (tOp (rIx K) (tLst (tCons (tC (.bl true)) (tCons (tC (.bl false)) (tCons (tC .non) (tCons (tC (.str "3")) (tCons (tTup (tCons (tC (.int 3)) tNil)) tNil)))))) (tCall (spD K (c_law_draw K)) [] E (tCons (tVar 0) (tCons (tC (.int 5)) tNil)))) tNil))) (tSl (rSlA K) (tVar 3) (tPart (tOp (rAddA K) (tVar 5) (tC (.int 1)))) tNoPart))) tNext)
      (tSeq (tIfS (tTest (tOp (rEqD K) (tVar 1) (tC (.int 6)))) (tRet (tThen (tVar 3) (kTup K))) tNext)
      (tSeq (tIfS (tTest (tOp (rEqD K) (tVar 1) (tC (.int 7)))) (tRet (tOp (rIx K) (tLst (tCons (tC (.int 0)) (tCons (tC (.int 3)) (tCons (tC (.bl true)) (tCons (tC (.str "all")) (tCons (tDisp [((tC (.int 0)), (tC (.int 0)))]) tNil)))))) (tCall (spD K (c_law_draw K)) [] E (tCons (tVar 0) (tCons (tC (.int 5)) tNil))))) tNext)
      (tSeq (tAsg (tLc (iRng1 (tCons (tC (.int 20)) tNil)) (gName 4) (tTest (tOp (rNeD K) (tVar 4) (tVar 2))) (tVar 4) [4]) (gName 6))
      (tSeq (tAsg (tCall (spD K (c_law_draw K)) [] E (tCons (tVar 0) (tCons (tC (.int 18)) tNil))) (gName 5))
      (tRet (tOp (rAddA K) (tOp (rAddA K) (tSl (rSlA K) (tVar 6) tNoPart (tPart (tVar 5))) (tLst (tCons (tOp (rIx K) (tVar 6) (tOp (rAddA K) (tVar 5) (tC (.int 1)))) (tCons (tOp (rIx K) (tVar 6) (tVar 5)) tNil)))) (tSl (rSlA K) (tVar 6) (tPart (tOp (rAddA K) (tVar 5) (tC (.int 2)))) tNoPart))))))))))))))))
def t_law_bad_name (K : PySem.W.Frag) (E : XK) : TS :=
    (tSeq (tAsg (tCall (spD K (c_law_draw K)) [] E (tCons (tVar 0) (tCons (tC (.int 6)) tNil))) (gName 1))
      (tSeq (tAsg (tCall (spD K (c_law_name K)) [] E (tCons (tVar 0) tNil)) (gName 2))
      (tSeq (tAsg (tCall (spD K (c_law_draw K)) [] E (tCons (tVar 0) (tCons (tCB (rLen K) (tCons (tVar 2) tNil)) tNil))) (gName 3))
      (tSeq (tIfS (tTest (tOp (rEqD K) (tVar 1) (tC (.int 0)))) (tRet (tC (.str ""))) tNext)
      (tSeq (tIfS (tTest (tOp (rEqD K) (tVar 1) (tC (.int 1)))) (tRet (tOp (rAddA K) (tSl (rSlA K) (tOp (rAddA K) (tVar 2) (tC (.str "abcdefgh"))) tNoPart (tPart (tC (.int 8)))) (tOp (rIx K) (tC (.str "qz")) (tCall (spD K (c_law_draw K)) [] E (tCons (tVar 0) (tCons (tC (.int 2)) tNil)))))) tNext)
      (tSeq (tIfS (tTest (tOp (rI0 fun i j => .bl (decide (i < j))) (tVar 1) (tC (.int 5)))) (tSeq (tAsg (tOp (rIx K) (tC (.str "AZ09 -_',/~")) (tCall (spD K (c_law_draw K)) [] E (tCons (tVar 0) (tCons (tC (.int 11)) tNil)))) (gName 4))
      (tRet (tOp (rAddA K) (tOp (rAddA K) (tSl (rSlA K) (tVar 2) tNoPart (tPart (tVar 3))) (tVar 4)) (tSl (rSlA K) (tVar 2) (tPart (tOp (rAddA K) (tVar 3) (tC (.int 1)))) tNoPart)))) tNext)
      (tRet (tOp (rIx K) (tLst (tCons (tC .non) (tCons (tC (.int 7)) (tCons (tC (.bl true)) (tCons (tTup (tCons (tC (.str "ash")) tNil)) (tCons (tLst (tCons (tC (.str "ash")) tNil)) tNil)))))) (tCall (spD K (c_law_draw K)) [] E (tCons (tVar 0) (tCons (tC (.int 5)) tNil)))))))))))
def t_law_bad_puts (K : PySem.W.Frag) (E : XK) : TS :=
    (tSeq (tAsg (tCall (spD K (c_law_draw K)) [] E (tCons (tVar 0) (tCons (tC (.int 8)) tNil))) (gName 1))
      (tSeq (tAsg (tLst (tCons (tTup (tCons (tOp (rAddA K) (tC (.str "a")) (tSl (rSlA K) (tCall (spD K (c_law_name K)) [] E (tCons (tVar 0) tNil)) tNoPart (tPart (tC (.int 7))))) (tCons (tC (.str "off")) tNil))) (tCons (tTup (tCons (tOp (rAddA K) (tC (.str "b")) (tSl (rSlA K) (tCall (spD K (c_law_name K)) [] E (tCons (tVar 0) tNil)) tNoPart (tPart (tC (.int 7))))) (tCons (tC (.str "rest")) tNil))) (tCons (tTup (tCons (tC (.str "c")) (tCons (tC (.str "off")) tNil))) (tCons (tTup (tCons (tC (.str "d")) (tCons (tC (.str "rest")) tNil))) tNil))))) (gName 2))
      (tSeq (tAsg (tCall (spD K (c_law_draw K)) [] E (tCons (tVar 0) (tCons (tC (.int 4)) tNil))) (gName 3))
      (tSeq (tAsg (tOp (rIx K) (tVar 2) (tVar 3)) (gTup K 2 (gCons (gName 4) (gCons (gName 5) gNil))))
      (tSeq (tIfS (tTest (tOp (rEqD K) (tVar 1) (tC (.int 0)))) (tRet (tOp (rAddA K) (tVar 2) (tLst (tCons (tTup (tCons (tC (.str "e")) (tCons (tC (.str "off")) tNil))) tNil)))) tNext)
      (tSeq (tIfS (tTest (tOp (rEqD K) (tVar 1) (tC (.int 1)))) (tRet (tOp (rAddA K) (tSl (rSlA K) (tVar 2) tNoPart (tPart (tC (.int 3)))) (tLst (tCons (tTup (tCons (tOp (rIx K) (tOp (rIx K) (tVar 2) (tOp rModA (tVar 3) (tC (.int 3)))) (tC (.int 0))) (tCons (tVar 5) tNil))) tNil)))) tNext)
      (tSeq (tIfS (tTest (tOp (rEqD K) (tVar 1) (tC (.int 2)))) (tAsg (tTup (tCons (tVar 4) (tCons (tOp (rIx K) (tLst (tCons (tC (.str "free")) (tCons (tC (.str "")) (tCons (tC (.str "Off")) (tCons (tC (.str "rests")) (tCons (tC .non) (tCons (tC (.int 0)) tNil))))))) (tCall (spD K (c_law_draw K)) [] E (tCons (tVar 0) (tCons (tC (.int 6)) tNil)))) tNil))) (gSub (tVar 2) (tVar 3) rSetL)) tNext)
      (tSeq (tIfS (tTest (tOp (rEqD K) (tVar 1) (tC (.int 3)))) (tAsg (tTup (tCons (tCall (spD K (c_law_bad_name K)) [] E (tCons (tVar 0) tNil)) (tCons (tVar 5) tNil))) (gSub (tVar 2) (tVar 3) rSetL)) tNext)
      (tSeq (tIfS (tTest (tOp (rEqD K) (tVar 1) (tC (.int 4)))) (tAsg (tOp (rIx K) (tLst (tCons (tLst (tCons (tVar 4) (tCons (tVar 5) tNil))) (tCons (tTup (tCons (tVar 4) (tCons (tVar 5) (tCons (tC (.str "off")) tNil)))) (tCons (tTup (tCons (tVar 4) tNil)) (tCons (tVar 4) (tCons (tC .non) (tCons (tTup (tCons (tVar 5) (tCons (tVar 4) tNil))) tNil))))))) (tCall (spD K (c_law_draw K)) [] E (tCons (tVar 0) (tCons (tC (.int 6)) tNil)))) (gSub (tVar 2) (tVar 3) rSetL)) tNext)
      (tSeq (tIfS (tTest (tOp (rEqD K) (tVar 1) (tC (.int 5)))) (tRet (tThen (tVar 2) (kTup K))) tNext)
      (tSeq (tIfS (tTest (tOp (rEqD K) (tVar 1) (tC (.int 6)))) (tRet (tOp (rIx K) (tLst (tCons (tC (.int 7)) (tCons (tC (.bl true)) (tCons (tC (.str "off")) (tCons (tDisp [((tC (.str "a")), (tC (.str "off")))]) tNil))))) (tCall (spD K (c_law_draw K)) [] E (tCons (tVar 0) (tCons (tC (.int 4)) tNil))))) tNext)
      (tSeq (tIfS (tTest (tOp (rEqD K) (tVar 1) (tC (.int 7)))) (tAsg (tTup (tCons (tOp (rIx K) (tOp (rIx K) (tVar 2) (tOp (rI0 fun i j => .int (i - j)) (tVar 3) (tC (.int 1)))) (tC (.int 0))) (tCons (tVar 5) tNil))) (gSub (tVar 2) (tVar 3) rSetL)) tNext)
      (tRet (tVar 2))))))))))))))
def t_law_spoil (K : PySem.W.Frag) (E : XK) : TS :=
    (tSeq (tAsg (tCall (spD K (c_law_draw K)) [] E (tCons (tVar 2) (tCons (tC (.int 5)) tNil))) (gName 3))
      (tIfS (tTest (tOp (rEqD K) (tVar 1) (tC (.int 0)))) (tAsg (tCall (spD K (c_law_bad_name K)) [] E (tCons (tVar 2) tNil)) (gSub (tVar 0) (tC (.int 0)) rSetL)) (tIfS (tTest (tOp (rEqD K) (tVar 1) (tC (.int 1)))) (tAsg (tOp (rIx K) (tLst (tCons (tOp (rI0 fun i j => .int (i - j)) (tUn (rU fun i => .int (-i)) (tC (.int 401))) (tCall (spD K (c_law_beyond K)) [] E (tCons (tVar 2) tNil))) (tCons (tOp (rAddA K) (tC (.int 400)) (tCall (spD K (c_law_beyond K)) [] E (tCons (tVar 2) tNil))) (tCons (tC (.bl true)) (tCons (tC .non) (tCons (tC (.str "3")) tNil)))))) (tVar 3)) (gSub (tVar 0) (tC (.int 1)) rSetL)) (tIfS (tTest (tOp (rEqD K) (tVar 1) (tC (.int 2)))) (tAsg (tOp (rIx K) (tLst (tCons (tOp (rI0 fun i j => .int (i - j)) (tC (.int 0)) (tCall (spD K (c_law_beyond K)) [] E (tCons (tVar 2) tNil))) (tCons (tOp (rAddA K) (tC (.int 41)) (tCall (spD K (c_law_beyond K)) [] E (tCons (tVar 2) tNil))) (tCons (tC (.bl true)) (tCons (tC .non) (tCons (tC (.str "3")) tNil)))))) (tVar 3)) (gSub (tVar 0) (tC (.int 2)) rSetL)) (tIfS (tTest (tOp (rEqD K) (tVar 1) (tC (.int 3)))) (tAsg (tCall (spD K (c_law_bad_years K)) [] E (tCons (tVar 2) tNil)) (gSub (tVar 0) (tC (.int 3)) rSetL)) (tAsg (tCall (spD K (c_law_bad_puts K)) [] E (tCons (tVar 2) tNil)) (gSub (tVar 0) (tC (.int 4)) rSetL)))))))
def t_law_bad (K : PySem.W.Frag) (E : XK) : TS :=
    (tSeq (tAsg (tLst tNil) (gName 1))
      (tSeq (tTry K (.ref (He.ga K "ReadError")) 2 (fun W => (tDrop (tMakeS (He.ga K "Feast") (spD K (c_Feast_init K)) [] (WE W) (tCons (tOp (rIx K) (tVar 0) (tC (.int 0))) (tCons (tOp (rIx K) (tVar 0) (tC (.int 1))) (tCons (tOp (rIx K) (tVar 0) (tC (.int 2))) (tCons (tOp (rIx K) (tVar 0) (tC (.int 3))) (tCons (tOp (rIx K) (tVar 0) (tC (.int 4))) tNil)))))))) (tSeq (tAsg (tLst (tCons (tCB (rIsX K) (tCons (tVar 2) (tCons (tC (.ty "ValueError")) tNil))) (tCons (tCB (rIsX K) (tCons (tVar 2) (tCons (tC (.ref (He.ga K "BadFeast"))) tNil))) (tCons (tCB (rIsX K) (tCons (tVar 2) (tCons (tC (.ref (He.ga K "BadBook"))) tNil))) (tCons (tCB (rIsX K) (tCons (tVar 2) (tCons (tC (.ref (He.ga K "BadCalendar"))) tNil))) tNil))))) (gName 1))
      (tSeq (tAsg (tOp (rAddA K) (tVar 1) (tLst (tCons (tCB (rIsX K) (tCons (tVar 2) (tCons (tC (.ref (He.ga K "BadHouse"))) tNil))) (tCons (tCB (rIsX K) (tCons (tVar 2) (tCons (tC (.ref (He.ga K "BadNumber"))) tNil))) (tCons (tCB (rIsX K) (tCons (tVar 2) (tCons (tC (.ref (He.ga K "BadRow"))) tNil))) (tCons (tCB (rIsX K) (tCons (tVar 2) (tCons (tC (.ref (He.ga K "BadText"))) tNil))) tNil)))))) (gName 1))
      (tSeq (tAsg (tOp (rAddA K) (tVar 1) (tLst (tCons (tCB (rIsX K) (tCons (tVar 2) (tCons (tC (.ref (He.ga K "NeverDone"))) tNil))) (tCons (tCB (rIsX K) (tCons (tVar 2) (tCons (tC (.ref (He.ga K "NoDay"))) tNil))) (tCons (tCB (rIsX K) (tCons (tVar 2) (tCons (tC (.ref (He.ga K "NoDeed"))) tNil))) (tCons (tCB (rIsX K) (tCons (tVar 2) (tCons (tC (.ref (He.ga K "NoPiece"))) tNil))) tNil)))))) (gName 1))
      (tAsg (tOp (rAddA K) (tVar 1) (tLst (tCons (tCB (rIsX K) (tCons (tVar 2) (tCons (tC (.ref (He.ga K "NoRow"))) tNil))) (tCons (tCB (rIsX K) (tCons (tVar 2) (tCons (tC (.ref (He.ga K "TooFar"))) tNil))) (tCons (tCB (rIsX K) (tCons (tVar 2) (tCons (tC (.ref (He.ga K "TooTight"))) tNil))) tNil))))) (gName 1))))) (fun _ _ _ _ => False))
      (tRet (tVar 1))))
def t_law_asked (K : PySem.W.Frag) (E : XK) : TS :=
    (tSeq (tAsg (tLst tNil) (gName 4))
      (tSeq (tTry K (.ref (He.ga K "ReadError")) 5 (fun W => (tIfS (tTest (tOp (rEqD K) (tVar 2) (tC (.int 0)))) (tDrop (tMethS (He.ga K "Feast") "span" (spD K (c_Feast_span K)) (WE W) (tVar 0) (tCons (tVar 1) (tCons (tVar 3) tNil)))) (tIfS (tTest (tOp (rEqD K) (tVar 2) (tC (.int 1)))) (tDrop (tMethS (He.ga K "Feast") "keeps" (spD K (c_Feast_keeps K)) (WE W) (tVar 0) (tCons (tVar 1) (tCons (tVar 3) tNil)))) (tIfS (tTest (tOp (rEqD K) (tVar 2) (tC (.int 2)))) (tDrop (tMethS (He.ga K "Feast") "next_kept" (spD K (c_Feast_next_kept K)) (WE W) (tVar 0) (tCons (tVar 1) (tCons (tVar 3) tNil)))) (tDrop (tMethS (He.ga K "Feast") "kept_ahead" (spD K (c_Feast_kept_ahead K)) (WE W) (tVar 0) (tCons (tVar 1) (tCons (tVar 3) tNil)))))))) (tSeq (tAsg (tLst (tCons (tCB (rIsX K) (tCons (tVar 5) (tCons (tC (.ty "ValueError")) tNil))) (tCons (tCB (rIsX K) (tCons (tVar 5) (tCons (tC (.ref (He.ga K "NoDay"))) tNil))) (tCons (tCB (rIsX K) (tCons (tVar 5) (tCons (tC (.ref (He.ga K "BadBook"))) tNil))) (tCons (tCB (rIsX K) (tCons (tVar 5) (tCons (tC (.ref (He.ga K "BadFeast"))) tNil))) tNil))))) (gName 4))
      (tSeq (tAsg (tOp (rAddA K) (tVar 4) (tLst (tCons (tCB (rIsX K) (tCons (tVar 5) (tCons (tC (.ref (He.ga K "BadHouse"))) tNil))) (tCons (tCB (rIsX K) (tCons (tVar 5) (tCons (tC (.ref (He.ga K "BadNumber"))) tNil))) (tCons (tCB (rIsX K) (tCons (tVar 5) (tCons (tC (.ref (He.ga K "BadRow"))) tNil))) (tCons (tCB (rIsX K) (tCons (tVar 5) (tCons (tC (.ref (He.ga K "BadText"))) tNil))) tNil)))))) (gName 4))
      (tSeq (tAsg (tOp (rAddA K) (tVar 4) (tLst (tCons (tCB (rIsX K) (tCons (tVar 5) (tCons (tC (.ref (He.ga K "NeverDone"))) tNil))) (tCons (tCB (rIsX K) (tCons (tVar 5) (tCons (tC (.ref (He.ga K "BadCalendar"))) tNil))) (tCons (tCB (rIsX K) (tCons (tVar 5) (tCons (tC (.ref (He.ga K "NoDeed"))) tNil))) tNil))))) (gName 4))
      (tAsg (tOp (rAddA K) (tVar 4) (tLst (tCons (tCB (rIsX K) (tCons (tVar 5) (tCons (tC (.ref (He.ga K "NoPiece"))) tNil))) (tCons (tCB (rIsX K) (tCons (tVar 5) (tCons (tC (.ref (He.ga K "NoRow"))) tNil))) (tCons (tCB (rIsX K) (tCons (tVar 5) (tCons (tC (.ref (He.ga K "TooFar"))) tNil))) (tCons (tCB (rIsX K) (tCons (tVar 5) (tCons (tC (.ref (He.ga K "TooTight"))) tNil))) tNil)))))) (gName 4))))) (fun _ _ _ _ => False))
      (tRet (tVar 4))))
def t_law (K : PySem.W.Frag) (E : XK) : TS :=
    (tSeq (tAsg (tLst (tCons (tC (.int 0)) (tCons (tIf (tTest (tOp (rNeD K) (tVar 0) (tLst tNil))) (tCB (rListOf K) (tCons (tVar 0) tNil)) (tLst (tCons (tC (.int 0)) tNil))) tNil))) (gName 1))
      (tSeq (tAsg (tOp (rAddA K) (tLst (tCons (tC (.bl true)) (tCons (tC (.bl true)) tNil))) (tOp rMulA (tLst (tCons (tC (.bl false)) tNil)) (tC (.int 13)))) (gName 2))
      (tSeq (tFor (iRng1 (tCons (tCB (rMaxA K) (tCons (tC (.int 1)) (tCons (tCB (rMinA K) (tCons (tC (.int 20)) (tCons (tCB (rLen K) (tCons (tVar 0) tNil)) tNil))) tNil))) tNil)) (gName 3) (tSeq (tAsg (tCall (spD K (c_law_feast K)) [] E (tCons (tVar 1) tNil)) (gName 4))
      (tSeq (tPar 5 6 (tCons (tCall (spD K (c_law_draw K)) [] E (tCons (tVar 1) (tCons (tC (.int 5)) tNil))) (tCons (tCall (spD K (c_law_draw K)) [] E (tCons (tVar 1) (tCons (tC (.int 20)) tNil))) tNil)))
      (tSeq (tDrop (tCall (spD K (c_law_spoil K)) [] E (tCons (tVar 4) (tCons (tVar 5) (tCons (tVar 1) tNil)))))
      (tSeq (tIfS (tAnd (tTest (tOp (rI0 fun i j => .bl (decide (i < j))) (tVar 6) (tC (.int 5)))) (tTest (tOp (rNeD K) (tVar 6) (tVar 5)))) (tDrop (tCall (spD K (c_law_spoil K)) [] E (tCons (tVar 4) (tCons (tVar 6) (tCons (tVar 1) tNil))))) tNext)
      (tIfS (tTest (tOp (rNeD K) (tCall (spD K (c_law_bad K)) [] E (tCons (tVar 4) tNil)) (tVar 2))) (tRet (tC (.bl false))) tNext))))))
      (tSeq (tAsg (tCall (spD K (c_law_feast K)) [] E (tCons (tVar 1) tNil)) (gName 4))
      (tSeq (tAsg (tMake (He.ga K "Feast") (spD K (c_Feast_init K)) [] E (tCons (tOp (rIx K) (tVar 4) (tC (.int 0))) (tCons (tOp (rIx K) (tVar 4) (tC (.int 1))) (tCons (tOp (rIx K) (tVar 4) (tC (.int 2))) (tCons (tIf (tB (tIsN (tOp (rIx K) (tVar 4) (tC (.int 3))))) (tC .non) (tCB (rListOf K) (tCons (tOp (rIx K) (tVar 4) (tC (.int 3))) tNil))) (tCons (tCB (rListOf K) (tCons (tOp (rIx K) (tVar 4) (tC (.int 4))) tNil)) tNil)))))) (gName 7))
      (tSeq (tAsg (tMake (He.ga K "Calendar") (spD K (c_Calendar_init K)) [] E (tCons (tCall (spD K (c_law_lengths K)) [] E (tCons (tVar 1) (tCons (tC (.int 400)) (tCons (tC (.int 20)) tNil)))) tNil)) (gName 8))
      (tSeq (tFor (iRng1 (tCons (tC (.int 4)) tNil)) (gName 9) (tSeq (tIfS (tTest (tOp (rNeD K) (tCall (spD K (c_law_asked K)) [] E (tCons (tVar 7) (tCons (tVar 8) (tCons (tVar 9) (tCons (tOp (rI0 fun i j => .int (i - j)) (tUn (rU fun i => .int (-i)) (tC (.int 1))) (tCall (spD K (c_law_beyond K)) [] E (tCons (tVar 1) tNil))) tNil))))) (tVar 2))) (tRet (tC (.bl false))) tNext)
      (tIfS (tNot (tTruth K (tCall (spD K (c_law_told_is K)) [] E (tCons (tMeth (He.ga K "Feast") "told" (spD K (c_Feast_told K)) [] E (tVar 7) tNil) (tCons (tVar 4) tNil))))) (tRet (tC (.bl false))) tNext)))
      (tRet (tC (.bl true))))))))))
section
variable {K : PySem.W.Frag}
theorem d_law_beyond : ∀ ds μ P PX, c_law_beyond K ds μ P PX → MuCl μ μ.length → clL ds μ.length = true → ∀ B E, XAg K B (RetX μ.length PX) E → DS K B (t_law_beyond K E) (startD ["_law_hold"] ds) μ (fnE μ.length P) := by
  intro ds μ P PX h hm hc B E hE
  obtain ⟨k, k2, c, ns, rfl, hd, hc1, h⟩ := h
  show DS K B _ [some (.own k)] μ _
  have hc0 := hd.c0
  unfold t_law_beyond
  refine ds_ret (de_op (de_call hE ?_))
  wtm_at "E"
  refine ⟨k, k2, c, ns, 2, rfl, hd, by omega, by decide, by decide, fun r ns1 hr0 hr1 hn1 => ?_⟩
  have hd1 := hd.hold (c' := c + 1) (ns' := ns1) (by omega) hn1
  wtm_at "E"
  refine ⟨k, k2, _, ns1, rfl, hd1, by omega, fun q c2 ns2 hq0 hq1 hc2 hc3 hn2 => ?_⟩
  rw [hold_hold hd.ne]
  refine ro_mulI (.inl ⟨by omega, by omega⟩) ?_
  have hq : 0 ≤ r * q ∧ r * q < 10 ^ 57 := by
    rcases (show r = 0 ∨ r = 1 by omega) with rfl | rfl
    · rw [Int.zero_mul]; omega
    · rw [Int.one_mul]; omega
  exact ret_same0 (by rw [hold_len]; exact Nat.le_refl _) (hd.cl hm) rfl (h _ c2 ns2 hq.1 hq.2 (by omega) (by omega) (by omega))
theorem d_law_bad_years : ∀ ds μ P PX, c_law_bad_years K ds μ P PX → MuCl μ μ.length → clL ds μ.length = true → ∀ B E, XAg K B (RetX μ.length PX) E → DS K B (t_law_bad_years K E) (startD ["_law_hold", "_law_way", "_law_one", "_law_good", "_law_number", "_law_spot", "_law_some"] ds) μ (fnE μ.length P) := by
  intro ds μ P PX h hm hc B E hE
  obtain ⟨k, k2, c, ns, rfl, hd, hc1, h⟩ := h
  show DS K B _ [some (.own k), none, none, none, none, none, none] μ _
  have hc0 := hd.c0
  have ret : ∀ (d : D) (c' : Int) (ns' : List Int) (ext : Mu), datA d → (∀ n, d.cl n = true) → goodYs d = false → c ≤ c' → c' ≤ c + 60 → ns'.length = ns.length → Ret μ.length P d (hold μ k k2 c' ns' ++ ext) := fun d c' ns' ext h1 h2 h3 h4 h5 h6 =>
    ret_same (by rw [hold_len]; exact Nat.le_refl _) (hd.cl hm) (h2 _) (h d c' ns' h1 h2 h3 h4 h5 h6)
  have ret0 : ∀ (d : D) (c' : Int) (ns' : List Int), datA d → (∀ n, d.cl n = true) → goodYs d = false → c ≤ c' → c' ≤ c + 60 → ns'.length = ns.length → Ret μ.length P d (hold μ k k2 c' ns') := fun d c' ns' h1 h2 h3 h4 h5 h6 => by
    have := ret d c' ns' [] h1 h2 h3 h4 h5 h6
    rwa [List.append_nil] at this
  have hh : ∀ c1 ns1 c2 ns2, hold (hold μ k k2 c1 ns1) k k2 c2 ns2 = hold μ k k2 c2 ns2 := fun _ _ _ _ => hold_hold hd.ne
  unfold t_law_bad_years
  refine q_set ?_
  wtm_at "E"
  refine ⟨k, k2, c, ns, 9, rfl, hd, by omega, by decide, by decide, fun w ns1 hw0 hw1 hn1 => ?_⟩
  have hd1 := hd.hold (c' := c + 1) (ns' := ns1) (by omega) hn1
  refine q_set ?_
  wtm_at "E"
  refine ⟨k, k2, _, ns1, 20, rfl, hd1, by omega, by decide, by decide, fun one ns2 ho0 ho1 hn2 => ?_⟩
  rw [hh]
  have hd2 := hd.hold (c' := c + 1 + 1) (ns' := ns2) (by omega) (by omega)
  refine q_set ?_
  refine de_lc (gw_name (by simp)) ?_
  wtm_at "E"
  refine ⟨by omega, by omega, by rw [rangeD_length]; decide, fun i acc μ' => ∃ (ys ns3 : List Int) (c3 : Int), acc = ys.map D.int ∧ μ' = hold μ k k2 c3 ns3 ∧ ns3.length = ns.length ∧ c ≤ c3 ∧ c3 ≤ c + 2 + i ∧ Rise one i ys,
    ⟨[], ns2, _, rfl, rfl, by omega, by omega, by omega, Rise.nil ho0⟩, fun _ _ _ _ _ => trivial, ?_, ?_⟩
  · rintro i d acc μ' hd' ⟨ys, ns3, c3, rfl, rfl, hn3, hc3, hc3', hrise⟩
    obtain ⟨hi, rfl⟩ := rangeD_some hd'
    have hi20 : i < 20 := by simpa using hi
    have hd3 := hd.hold (c' := c3) (ns' := ns3) (by omega) hn3
    wtm_at "E"
    · refine de_call XAg.none ?_
      wtm_at "E"
      refine ⟨k, k2, _, ns3, 2, rfl, hd3, by omega, by omega, by omega, fun r ns4 hr0 hr1 hn4 => ?_⟩
      rw [hh]
      wtm_at "E"
      · exact ⟨ys ++ [(i : Int)], ns4, _, by simp, rfl, by omega, by omega, by omega, hrise.keep⟩
      · exact ⟨ys, ns4, _, rfl, rfl, by omega, by omega, by omega, hrise.skip (by omega)⟩
    · exact ⟨ys ++ [(i : Int)], ns3, c3, by simp, rfl, hn3, hc3, by omega, hrise.keep⟩
  rintro acc μ' ⟨ys, ns3, c3, rfl, rfl, hn3, hc3, hc3', hrise⟩
  rw [rangeD_length] at hrise hc3'
  have hk : KeptOk ys := hrise.kept (by simpa using ho1) (by decide)
  have hp := hk.pos; have hmo := hk.most
  have hc4 : c3 ≤ c + 22 := by simp at hc3'; omega
  clear hrise hc3'
  have hd3 := hd.hold (c' := c3) (ns' := ns3) (by omega) hn3
  refine q_set ?_
  wtm_at "E"
  rw [List.length_map]
  refine ⟨k, k2, _, ns3, (ys.length : Int), rfl, hd3, by omega, by omega, by omega, fun sp ns4 hs0 hs1 hn4 => ?_⟩
  rw [hh]
  have hd4 := hd.hold (c' := c3 + 1) (ns' := ns4) (by omega) (by omega)
  obtain ⟨q, rfl⟩ : ∃ n : Nat, sp = n := ⟨sp.toNat, by omega⟩
  have ycl : ∀ y ∈ ys.map D.int, ∀ n, y.cl n = true := fun y hy n => by obtain ⟨z, _, rfl⟩ := List.mem_map.mp hy; rfl
  have ydat : ∀ y ∈ ys.map D.int, y.dat = true := fun y hy => by obtain ⟨z, _, rfl⟩ := List.mem_map.mp hy; rfl
  -- one of them put otherwise
  have sub : ∀ (d : D) (c' : Int) (ns' : List Int), d.dat = true → (∀ n, d.cl n = true) → isNum d 0 19 = false → c ≤ c' → c' ≤ c + 60 → ns'.length = ns.length → Ret μ.length P (.lst ((ys.map D.int).take q ++ [d] ++ (ys.map D.int).drop (q + 1))) (hold μ k k2 c' ns') := fun d c' ns' h1 h2 h3 h4 h5 h6 => by
    have hmem : ∀ x ∈ (ys.map D.int).take q ++ [d] ++ (ys.map D.int).drop (q + 1), x = d ∨ x ∈ ys.map D.int := fun x hx => by
      rcases List.mem_append.mp hx with z | z
      · rcases List.mem_append.mp z with z | z
        · exact .inr (List.mem_of_mem_take z)
        · exact .inl (by simpa using z)
      · exact .inr (List.mem_of_mem_drop z)
    refine ret0 _ c' ns' (.inl (lst_dat fun x hx => ?_)) (lst_clN fun x hx n => ?_) (nums_bad (x := d) (by simp) h3) h4 h5 h6
    · rcases hmem x hx with rfl | z
      · exact h1
      · exact ydat x z
    · rcases hmem x hx with rfl | z
      · exact h2 n
      · exact ycl x z n
  refine q_when (dt_test ?_)
  wtm_at "E"
  · refine ds_ret (de_op (de_lstZ ?_))
    refine da_cons (de_lstZ ?_)
    wtm_at "E"
    refine de_lstRg1 ?_
    wtm_at "E"
    refine ⟨by omega, by omega, ?_⟩
    refine de_lstZ ?_
    wtm_at "E"
    refine ⟨k, k2, _, ns4, 2, rfl, hd4, by omega, by decide, by decide, fun r ns5 hr0 hr1 hn5 => ?_⟩
    rw [hh]
    wtm_at "E"
    refine ro_addL (.lst _) (.lst _) (by rw [rangeD_length]; simp) ?_
    wtm_at "E"
    rcases (show w = 0 ∨ w = 1 by omega) with rfl | rfl
    · refine ro_ixL (.lst _) rfl ?_
      exact ret0 (.lst []) _ ns5 (.inl rfl) (fun _ => rfl) (long_bad (by simp)) (by omega) (by omega) (by omega)
    · refine ro_ixL (.lst _) rfl ?_
      refine ret0 _ _ ns5 (.inl (lst_dat fun x hx => ?_)) (lst_clN fun x hx n => ?_) (long_bad (by rw [List.length_append, rangeD_length]; simp)) (by omega) (by omega) (by omega)
      · rcases List.mem_append.mp hx with z | z
        · obtain ⟨i, hi⟩ := List.mem_iff_getElem?.mp z
          obtain ⟨_, rfl⟩ := rangeD_some hi
          rfl
        · rw [List.mem_singleton] at z; subst z; rfl
      · rcases List.mem_append.mp hx with z | z
        · obtain ⟨i, hi⟩ := List.mem_iff_getElem?.mp z
          obtain ⟨_, rfl⟩ := rangeD_some hi
          rfl
        · rw [List.mem_singleton] at z; subst z; rfl
  rename_i hw2
  refine q_when (dt_test ?_)
  wtm_at "E"
  · refine ds_ret (de_op ?_)
    wtm_at "E"
    rw [show ((q : Int) + 1) = ((q + 1 : Nat) : Int) by omega, cut_toK, cut_frK]
    refine ro_addL (.lst _) (.lst _) (by simp; omega) ?_
    have hq1 : ys[q]? = some (ys[q]'(by omega)) := List.getElem?_eq_getElem _
    generalize ys[q]'(by omega) = y at hq1
    rw [show (ys.map D.int).take (q + 1) ++ (ys.map D.int).drop q = (ys.take (q + 1) ++ ys.drop q).map D.int by simp]
    have e1 : (ys.take (q + 1) ++ ys.drop q)[q]? = some y := by
      rw [List.getElem?_append_left (by simp; omega), List.getElem?_take_of_lt (by omega)]
      exact hq1
    have e2 : (ys.take (q + 1) ++ ys.drop q)[q + 1]? = some y := by
      rw [List.getElem?_append_right (by simp; omega), List.getElem?_drop]
      have : q + (q + 1 - (ys.take (q + 1)).length) = q := by simp; omega
      rw [this]
      exact hq1
    exact ret0 _ _ ns4 (.inl (ints_dat _)) (fun n => by rw [D.cl]; exact cl_ints _ _) (rise_bad e1 e2 (Int.le_refl _)) (by omega) (by omega) (by omega)
  refine q_when (dt_test ?_)
  wtm_at "E"
  · refine ds_ret (de_op (de_op ?_))
    wtm_at "E"
    refine de_lstZ ?_
    wtm_at "E"
    refine ⟨k, k2, _, ns4, rfl, hd4, by omega, fun r c5 ns5 hr0 hr1 hc5 hc5' hn5 => ?_⟩
    rw [hh]
    wtm_at "E"
    rw [cut_toK]
    refine ro_addL (.lst _) (.lst _) (by simp; omega) ?_
    wtm_at "E"
    rw [show ((q : Int) + 1) = ((q + 1 : Nat) : Int) by omega, cut_frK]
    refine ro_addL (.lst _) (.lst _) (by simp; omega) ?_
    exact sub (.int (20 + r)) c5 ns5 rfl (fun _ => rfl) (by simp [isNum]; omega) (by omega) (by omega) (by omega)
  refine q_when (dt_test ?_)
  wtm_at "E"
  · refine ds_ret (de_op (de_op ?_))
    wtm_at "E"
    refine de_lstZ ?_
    wtm_at "E"
    refine ⟨k, k2, _, ns4, rfl, hd4, by omega, fun r c5 ns5 hr0 hr1 hc5 hc5' hn5 => ?_⟩
    rw [hh]
    wtm_at "E"
    rw [cut_toK]
    refine ro_addL (.lst _) (.lst _) (by simp; omega) ?_
    wtm_at "E"
    rw [show ((q : Int) + 1) = ((q + 1 : Nat) : Int) by omega, cut_frK]
    refine ro_addL (.lst _) (.lst _) (by simp; omega) ?_
    exact sub (.int (-1 - r)) c5 ns5 rfl (fun _ => rfl) (by simp [isNum]; omega) (by omega) (by omega) (by omega)
  refine q_when (dt_test ?_)
  wtm_at "E"
  · refine ds_ret (de_op (de_op ?_))
    wtm_at "E"
    refine de_lstZ ?_
    refine da_cons (de_op (de_lstZ ?_))
    wtm_at "E"
    refine ⟨k, k2, _, ns4, 5, rfl, hd4, by omega, by decide, by decide, fun r ns5 hr0 hr1 hn5 => ?_⟩
    rw [hh]
    obtain ⟨d, hd5, h1, h2, h3⟩ : ∃ d, atI [D.bl true, .bl false, .non, .str "3", .tup [.int 3]] r = some d ∧ d.dat = true ∧ (∀ n, d.cl n = true) ∧ isNum d 0 19 = false := by
      rcases (show r = 0 ∨ r = 1 ∨ r = 2 ∨ r = 3 ∨ r = 4 by omega) with rfl | rfl | rfl | rfl | rfl
      all_goals exact ⟨_, rfl, rfl, fun _ => rfl, rfl⟩
    refine ro_ixL (.lst _) hd5 ?_
    wtm_at "E"
    rw [cut_toK]
    refine ro_addL (.lst _) (.lst _) (by simp; omega) ?_
    wtm_at "E"
    rw [show ((q : Int) + 1) = ((q + 1 : Nat) : Int) by omega, cut_frK]
    refine ro_addL (.lst _) (.lst _) (by simp; omega) ?_
    exact sub d _ ns5 h1 h2 h3 (by omega) (by omega) (by omega)
  refine q_when (dt_test ?_)
  wtm_at "E"
  · refine ds_ret (de_tupOf ?_)
    wtm_at "E"
    refine ret0 _ _ ns4 (.inl ?_) (fun n => ?_) rfl (by omega) (by omega) (by omega)
    · exact (show datL (ys.map D.int) = true from ints_dat ys)
    · rw [D.cl]; exact cl_ints _ _
  refine q_when (dt_test ?_)
  wtm_at "E"
  · refine ds_ret (de_op (de_lstZ ?_))
    wtm_at "E"
    refine de_dispF ?_
    show DE K B (tC (.int 0)) _ _ _
    wtm_at "E"
    refine ⟨[(.inl 0, .int 0)], rfl, by decide, mu_last, ?_⟩
    rw [set_last]
    wtm_at "E"
    refine ⟨k, k2, _, ns4, 5, rfl, hd4.app _, by omega, by decide, by decide, fun r ns5 hr0 hr1 hn5 => ?_⟩
    rw [hold_app hd4, hh]
    obtain ⟨d, hd5, h1, h2, h3⟩ : ∃ d, atI [D.int 0, .int 3, .bl true, .str "all", .dct (mergeKD [] [(.inl 0, .int 0)])] r = some d ∧ d.dat = true ∧ (∀ n, d.cl n = true) ∧ goodYs d = false := by
      rcases (show r = 0 ∨ r = 1 ∨ r = 2 ∨ r = 3 ∨ r = 4 by omega) with rfl | rfl | rfl | rfl | rfl
      all_goals exact ⟨_, rfl, rfl, fun _ => rfl, rfl⟩
    refine ro_ixL (.lst _) hd5 ?_
    exact ret d _ ns5 _ (.inl h1) h2 h3 (by omega) (by omega) (by omega)
  rename_i hw3 hw4 hw5 hw6 hw7
  refine q_set ?_
  refine lc_filt (fun d => match d with | .int i => !decide (i = one) | _ => false) id (gw_name (by simp)) ?_
  wtm_at "E"
  refine ⟨by omega, by omega, trivial, by rw [rangeD_length]; decide, fun i d hi => ?_, fun out ho => ?_⟩
  · obtain ⟨hi, rfl⟩ := rangeD_some hi
    refine dg_name ⟨rfl, dt_test ?_⟩
    wtm_at "E"
    refine ⟨by rw [Int.zero_add], rfl, fun _ => ?_⟩
    wtm_at "E"
    exact ⟨rfl, rfl⟩
  have eo : out = (lessN one).map D.int := by
    rw [← ho]
    exact lessN_is one
  subst eo
  clear ho
  obtain ⟨l19, l1, l2, l3⟩ := lessN_ok (one := one) ho0 (by simpa using ho1)
  refine q_set ?_
  wtm_at "E"
  refine ⟨k, k2, _, ns4, 18, rfl, hd4, by omega, by decide, by decide, fun sp ns5 hr0 hr1 hn5 => ?_⟩
  rw [hh]
  obtain ⟨t, rfl⟩ : ∃ n : Nat, sp = n := ⟨sp.toNat, by omega⟩
  have ha : (lessN one)[t]? = some ((lessN one)[t]'(by omega)) := List.getElem?_eq_getElem _
  have hb : (lessN one)[t + 1]? = some ((lessN one)[t + 1]'(by omega)) := List.getElem?_eq_getElem _
  generalize (lessN one)[t]'(by omega) = ya at ha
  generalize (lessN one)[t + 1]'(by omega) = yb at hb
  have hab := l1 t ya yb ha hb
  refine ds_ret (de_op (de_op ?_))
  wtm_at "E"
  refine de_lstZ ?_
  wtm_at "E"
  refine ro_ixL (.lst _) (at_map (f := D.int) (j := t + 1) (by omega) hb) ?_
  wtm_at "E"
  refine ro_ixL (.lst _) (at_map (f := D.int) (j := t) rfl ha) ?_
  wtm_at "E"
  rw [cut_toK]
  refine ro_addL (.lst _) (.lst _) (by simp; omega) ?_
  wtm_at "E"
  rw [show ((t : Int) + 2) = ((t + 2 : Nat) : Int) by omega, cut_frK]
  refine ro_addL (.lst _) (.lst _) (by simp; omega) ?_
  rw [show ((lessN one).map D.int).take t ++ [.int yb, .int ya] ++ ((lessN one).map D.int).drop (t + 2) = ((lessN one).take t ++ [yb, ya] ++ (lessN one).drop (t + 2)).map D.int by simp]
  have e1 : ((lessN one).take t ++ [yb, ya] ++ (lessN one).drop (t + 2))[t]? = some yb := by
    rw [List.getElem?_append_left (by simp; omega), List.getElem?_append_right (by simp; omega)]
    have : t - ((lessN one).take t).length = 0 := by simp; omega
    rw [this]
    rfl
  have e2 : ((lessN one).take t ++ [yb, ya] ++ (lessN one).drop (t + 2))[t + 1]? = some ya := by
    rw [List.getElem?_append_left (by simp; omega), List.getElem?_append_right (by simp; omega)]
    have : t + 1 - ((lessN one).take t).length = 1 := by simp; omega
    rw [this]
    rfl
  exact ret0 _ _ ns5 (.inl (ints_dat _)) (fun n => by rw [D.cl]; exact cl_ints _ _) (rise_bad e1 e2 (by omega)) (by omega) (by omega) (by omega)
end
theorem cutS_to (z : Str) (n : Nat) : (cutS z none (some (n : Int))).cps.toList = z.cps.toList.take n := by
  unfold cutS
  simp only [List.toList_toArray]
  rw [HT.sIx_none, HT.sIx_nat]
  simp only [List.drop_zero, Nat.sub_zero]
  have e : z.length = z.cps.toList.length := by simp [Str.length]
  rw [e]
  rcases Nat.le_total n z.cps.toList.length with h | h
  · rw [Nat.min_eq_left h]
  · rw [Nat.min_eq_right h, List.take_of_length_le (Nat.le_refl _), List.take_of_length_le h]
theorem cutS_fr (z : Str) (n : Nat) : (cutS z (some (n : Int)) none).cps.toList = z.cps.toList.drop n := by
  unfold cutS
  simp only [List.toList_toArray]
  rw [HT.sIx_none, HT.sIx_nat]
  have e : z.length = z.cps.toList.length := by simp [Str.length]
  rw [e]
  rcases Nat.le_total n z.cps.toList.length with h | h
  · rw [Nat.min_eq_left h, List.take_of_length_le (by simp)]
  · rw [Nat.min_eq_right h, List.drop_of_length_le (Nat.le_refl _), List.drop_of_length_le h, List.take_nil]
theorem add_cps (a b : Str) : (a ++ b).cps.toList = a.cps.toList ++ b.cps.toList := by
  have e : (a ++ b).cps = a.cps ++ b.cps := rfl
  rw [e, Array.toList_append]
theorem len_cps (a : Str) : a.length = a.cps.toList.length := by simp [Str.length]
def badSigns : List Nat := ("AZ09 -_',/~" : Str).cps.toList
theorem badSigns_ok : ∀ c ∈ badSigns, c ∉ letters := by decide +kernel
theorem badSigns_len : badSigns.length = 11 := by decide +kernel
section
variable {K : PySem.W.Frag}
theorem d_law_bad_name : ∀ ds μ P PX, c_law_bad_name K ds μ P PX → MuCl μ μ.length → clL ds μ.length = true → ∀ B E, XAg K B (RetX μ.length PX) E → DS K B (t_law_bad_name K E) (startD ["_law_hold", "_law_way", "_law_good", "_law_spot", "_law_sign"] ds) μ (fnE μ.length P) := by
  intro ds μ P PX h hm hc B E hE
  obtain ⟨k, k2, c, ns, rfl, hd, hc1, h⟩ := h
  show DS K B _ [some (.own k), none, none, none, none] μ _
  have hc0 := hd.c0
  have ret0 : ∀ (d : D) (c' : Int) (ns' : List Int), d.dat = true → (∀ s : Str, d = .str s → s.length ≤ 100000) → (∀ n, d.cl n = true) → isNameD d = false → c ≤ c' → c' ≤ c + 20 → ns'.length = ns.length → Ret μ.length P d (hold μ k k2 c' ns') := fun d c' ns' h1 h2 h3 h4 h5 h6 h7 =>
    ret_same0 (by rw [hold_len]; exact Nat.le_refl _) (hd.cl hm) (h3 _) (h d c' ns' h1 h2 h3 h4 h5 h6 h7)
  have rets : ∀ (s : Str) (c' : Int) (ns' : List Int), s.length ≤ 100000 → ¬ nameOk s → c ≤ c' → c' ≤ c + 20 → ns'.length = ns.length → Ret μ.length P (.str s) (hold μ k k2 c' ns') := fun s c' ns' h1 h2 h3 h4 h5 =>
    ret0 (.str s) c' ns' rfl (fun s' e => by cases e; exact h1) (fun _ => rfl) (by simp [isNameD, h2]) h3 h4 h5
  have hh : ∀ c1 ns1 c2 ns2, hold (hold μ k k2 c1 ns1) k k2 c2 ns2 = hold μ k k2 c2 ns2 := fun _ _ _ _ => hold_hold hd.ne
  unfold t_law_bad_name
  refine q_set ?_
  wtm_at "E"
  refine ⟨k, k2, c, ns, 6, rfl, hd, by omega, by decide, by decide, fun w ns1 hw0 hw1 hn1 => ?_⟩
  have hd1 := hd.hold (c' := c + 1) (ns' := ns1) (by omega) hn1
  refine q_set ?_
  wtm_at "E"
  refine ⟨k, k2, _, ns1, rfl, hd1, by omega, fun g c2 ns2 hg hc2 hc2' hn2 => ?_⟩
  rw [hh]
  have hd2 := hd.hold (c' := c2) (ns' := ns2) (by omega) (by omega)
  have g1 := hg.1; have g2 := hg.2.1
  refine q_set (de_call hE ?_)
  refine da_cons ?_
  wtm_at "v"
  refine da_cons (de_cb ?_)
  wtm_at "E"
  refine rc_lenS' (by omega) ?_
  wtm_at "E"
  refine ⟨k, k2, _, ns2, (g.length : Int), rfl, hd2, by omega, by omega, by omega, fun sp ns3 hs0 hs1 hn3 => ?_⟩
  rw [hh]
  have hd3 := hd.hold (c' := c2 + 1) (ns' := ns3) (by omega) (by omega)
  obtain ⟨q, rfl⟩ : ∃ n : Nat, sp = n := ⟨sp.toNat, by omega⟩
  refine q_when (dt_test ?_)
  wtm_at "E"
  · refine ds_ret ?_
    wtm_at "E"
    exact rets _ _ ns3 (by decide) (fun e => absurd e.1 (by decide)) (by omega) (by omega) (by omega)
  refine q_when (dt_test ?_)
  wtm_at "E"
  · refine ds_ret (de_op (de_sl ?_))
    wtm_at "E"
    refine ro_addS (by have : (Str.ofString "abcdefgh").length = 8 := by decide +kernel
                       omega) ?_
    wtm_at "E"
    refine rs_anyS (by show (g.cps ++ (Str.ofString "abcdefgh").cps).size ≤ 100000; have e1 : g.cps.size = g.length := rfl; have e2 : (Str.ofString "abcdefgh").cps.size = 8 := by decide +kernel
                       rw [Array.size_append]; omega) ?_
    wtm_at "E"
    refine ⟨k, k2, _, ns3, 2, rfl, hd3, by omega, by decide, by decide, fun r ns4 hr0 hr1 hn4 => ?_⟩
    rw [hh]
    obtain ⟨ch, hch⟩ : ∃ ch, atI ("qz" : Str).cps.toList r = some ch := by
      rcases (show r = 0 ∨ r = 1 by omega) with rfl | rfl
      · exact ⟨_, rfl⟩
      · exact ⟨_, rfl⟩
    refine ro_ixS (by decide +kernel) hch ?_
    have l8 : (cutS (g ++ "abcdefgh") none (some 8)).length = 8 := by
      rw [len_cps, show (8 : Int) = ((8 : Nat) : Int) by rfl, cutS_to, List.length_take, add_cps, List.length_append, ← len_cps, ← len_cps, show (Str.ofString "abcdefgh").length = 8 by decide +kernel]
      omega
    have l9 : (cutS (g ++ "abcdefgh") none (some 8) ++ (⟨#[ch]⟩ : Str)).length = 9 := by
      rw [len_cps, add_cps, List.length_append, ← len_cps, l8]
      rfl
    refine ro_addS (by rw [l8]; show 8 + 1 ≤ 100000; decide) ?_
    exact rets _ _ ns4 (by omega) (fun e => by have := e.2.1; omega) (by omega) (by omega) (by omega)
  rename_i hw2 hw3
  refine q_when (dt_test ?_)
  wtm_at "E"
  · refine q_set ?_
    wtm_at "E"
    refine ⟨k, k2, _, ns3, 11, rfl, hd3, by omega, by decide, by decide, fun r ns4 hr0 hr1 hn4 => ?_⟩
    rw [hh]
    obtain ⟨ch, hch, hch'⟩ := atNN (xs := badSigns) (i := r) hr0 (by rw [badSigns_len]; exact hr1)
    have hbad := badSigns_ok ch (List.mem_of_getElem? hch')
    refine ro_ixS (by decide +kernel) (c := ch) hch ?_
    refine ds_ret (de_op (de_op (de_sl ?_)))
    wtm_at "E"
    refine rs_anyS (by omega) ?_
    wtm_at "E"
    have l1 : (cutS g none (some (q : Int))).length ≤ 8 := by
      rw [len_cps, cutS_to, List.length_take, ← len_cps]; omega
    have l2 : (cutS g (some ((q : Int) + 1)) none).length ≤ 8 := by
      rw [len_cps, show ((q : Int) + 1) = ((q + 1 : Nat) : Int) by omega, cutS_fr, List.length_drop, ← len_cps]; omega
    have l3 : (cutS g none (some (q : Int)) ++ (⟨#[ch]⟩ : Str)).length ≤ 9 := by
      rw [len_cps, add_cps, List.length_append, ← len_cps]
      show _ + 1 ≤ 9
      omega
    refine ro_addS (by show _ + 1 ≤ 100000; omega) ?_
    wtm_at "E"
    refine rs_anyS (by omega) ?_
    refine ro_addS (by omega) ?_
    refine rets _ _ ns4 ?_ (fun e => hbad (e.2.2 ch ?_)) (by omega) (by omega) (by omega)
    · rw [len_cps, add_cps, List.length_append, ← len_cps, ← len_cps]; omega
    · rw [add_cps, add_cps]; simp
  refine ds_ret (de_op (de_lstZ ?_))
  wtm_at "E"
  refine de_lstZ ?_
  wtm_at "E"
  refine ⟨k, k2, _, ns3, 5, rfl, hd3, by omega, by decide, by decide, fun r ns4 hr0 hr1 hn4 => ?_⟩
  rw [hh]
  obtain ⟨d, hd5, h1, h2, h3, h4⟩ : ∃ d, atI [D.non, .int 7, .bl true, .tup [.str "ash"], .lst [.str "ash"]] r = some d ∧ d.dat = true ∧ (∀ s : Str, d = .str s → s.length ≤ 100000) ∧ (∀ n, d.cl n = true) ∧ isNameD d = false := by
    rcases (show r = 0 ∨ r = 1 ∨ r = 2 ∨ r = 3 ∨ r = 4 by omega) with rfl | rfl | rfl | rfl | rfl
    all_goals exact ⟨_, rfl, rfl, fun _ e => (by cases e), fun _ => rfl, rfl⟩
  refine ro_ixL (.lst _) hd5 ?_
  exact ret0 d _ ns4 h1 h2 h3 h4 (by omega) (by omega) (by omega)
end
/-! ### bad names with sorts -/
theorem np_elem {xs : List D} {x : D} (hx : x ∈ xs) (h : ∀ p : Str × Str, nameOk p.1 → (p.2 = "off" ∨ p.2 = "rest") → x ≠ actD p) : ∀ ps, ¬ PutsIs (.lst xs) ps := fun ps q => by
  rcases q.2 with e | ⟨e, _⟩
  · unfold actsD at e
    cases e
    obtain ⟨p, hp, rfl⟩ := List.mem_map.mp hx
    exact h p (q.1.each p hp).1 (q.1.each p hp).2 rfl
  · cases e
theorem np_dup {qs : List (Str × Str)} {i j : Nat} {a b : Str × Str} (hij : i < j) (hi : qs[i]? = some a) (hj : qs[j]? = some b) (e : a.1 = b.1) : ∀ ps, ¬ PutsIs (.lst (qs.map actD)) ps := fun ps q => by
  rcases q.2 with e' | ⟨e', _⟩
  · have := actsD_inj (ps := qs) (qs := ps) e'
    subst this
    have nd := q.1.nd
    obtain ⟨h1, h2⟩ := List.getElem?_eq_some_iff.mp hi
    obtain ⟨h3, h4⟩ := List.getElem?_eq_some_iff.mp hj
    have := List.pairwise_iff_getElem.mp nd i j (by simpa using h1) (by simpa using h3) hij
    simp [h2, h4] at this
    exact this e
  · cases e'
theorem np_len {xs : List D} (h : 4 < xs.length) : ∀ ps, ¬ PutsIs (.lst xs) ps := fun ps q => by
  rcases q.2 with e | ⟨e, _⟩
  · unfold actsD at e
    cases e
    have := q.1.most
    rw [List.length_map] at h
    omega
  · cases e
theorem np_other {d : D} (h1 : ∀ xs, d ≠ .lst xs) (h2 : d ≠ .non) : ∀ ps, ¬ PutsIs d ps := fun ps q => by
  rcases q.2 with e | ⟨e, _⟩
  · exact h1 _ e
  · exact h2 e
theorem putsX_lst {xs : List D} (h : ∀ x ∈ xs, PutX x) : PutsX (.lst xs) := ⟨.inl (lst_dat fun x hx => (h x hx).dat), fun ys e _ p hp => by cases e; exact h p hp⟩
theorem putX_act {p : Str × Str} (h : p.1.length ≤ 100000) : PutX (actD p) := ⟨rfl, fun x y e => by
  unfold actD at e
  injection e with e
  injection e with e1 e
  injection e with e2 _
  subst e1 e2
  exact ⟨fun s e => by cases e; exact h, rfl⟩⟩
theorem putX_pair {x y : D} (hx : x.dat = true) (hy : y.dat = true) (h : ∀ s : Str, x = .str s → s.length ≤ 100000) (hf : flatD y = true) : PutX (.tup [x, y]) := ⟨show datL [x, y] = true by rw [datL_iff]; intro z hz; simp at hz; rcases hz with rfl | rfl; exact hx; exact hy, fun x' y' e => by cases e; exact ⟨h, hf⟩⟩
def gd4 (na nb : Str) : List (Str × Str) := [(na, "off"), (nb, "rest"), ("c", "off"), ("d", "rest")]
theorem gd4_word {na nb : Str} (ha : na.cps.toList.head? = some 97) (hb : nb.cps.toList.head? = some 98) : ∀ p ∈ gd4 na nb, (p.2 = "off" ∨ p.2 = "rest") ∧ p.1 ≠ "off" ∧ p.1 ≠ "rest" := by
  have o1 : (Str.ofString "off").cps.toList.head? = some 111 := by decide +kernel
  have o2 : (Str.ofString "rest").cps.toList.head? = some 114 := by decide +kernel
  intro p hp
  simp only [gd4, List.mem_cons, List.not_mem_nil, or_false] at hp
  rcases hp with rfl | rfl | rfl | rfl
  · exact ⟨.inl rfl, (show na ≠ Str.ofString "off" by intro e; rw [e, o1] at ha; cases ha), (show na ≠ Str.ofString "rest" by intro e; rw [e, o2] at ha; cases ha)⟩
  · exact ⟨.inr rfl, (show nb ≠ Str.ofString "off" by intro e; rw [e, o1] at hb; cases hb), (show nb ≠ Str.ofString "rest" by intro e; rw [e, o2] at hb; cases hb)⟩
  · exact ⟨.inl rfl, by decide +kernel, by decide +kernel⟩
  · exact ⟨.inr rfl, by decide +kernel, by decide +kernel⟩
theorem ixN_natQ {n q : Nat} (h : q < n) : ixN n (q : Int) = some q := by
  unfold ixN
  simp
  omega
/-- what stands while the names with sorts are spoilt -/
def PuM (k k2 : Nat) (way : Int) (q : Nat) (w0 s0 : Str) (gs : List (Str × Str)) (c : Int) (ns : List Int) (μ : Mu) (b : Int) : En → Mu → Prop := fun ρ1 μ1 => ∃ (L : List D) (c' : Int) (ns' : List Int),
  ρ1 = [some (.own k), some (.int way), some (.own μ.length), some (.int (q : Int)), some (.str w0), some (.str s0)] ∧ μ1 = hold μ k k2 c' ns' ++ [.lst L] ∧ c ≤ c' ∧ c' ≤ c + 50 ∧ ns'.length = ns.length ∧
  ((b ≤ way ∧ L = gs.map actD ∧ c' ≤ c + 24) ∨ (way < b ∧ (∀ x ∈ L, PutX x) ∧ (∀ x ∈ L, ∀ n, x.cl n = true) ∧ ∀ ps, ¬ PutsIs (.lst L) ps))
section
variable {K : PySem.W.Frag}
set_option maxHeartbeats 1000000 in
theorem d_law_bad_puts : ∀ ds μ P PX, c_law_bad_puts K ds μ P PX → MuCl μ μ.length → clL ds μ.length = true → ∀ B E, XAg K B (RetX μ.length PX) E → DS K B (t_law_bad_puts K E) (startD ["_law_hold", "_law_way", "_law_good", "_law_spot", "_law_word", "_law_sort"] ds) μ (fnE μ.length P) := by
  intro ds μ P PX h hm hc B E hE
  obtain ⟨k, k2, c, ns, rfl, hd, hc1, h⟩ := h
  show DS K B _ [some (.own k), none, none, none, none, none] μ _
  have hc0 := hd.c0
  have ret : ∀ (d : D) (c' : Int) (ns' : List Int) (ext : Mu), PutsX d → (∀ n, d.cl n = true) → (∀ ps, ¬ PutsIs d ps) → c ≤ c' → c' ≤ c + 60 → ns'.length = ns.length → Ret μ.length P d (hold μ k k2 c' ns' ++ ext) := fun d c' ns' ext h1 h2 h3 h4 h5 h6 =>
    ret_same (by rw [hold_len]; exact Nat.le_refl _) (hd.cl hm) (h2 _) (h d c' ns' h1 h2 h3 h4 h5 h6)
  have hh : ∀ c1 ns1 c2 ns2, hold (hold μ k k2 c1 ns1) k k2 c2 ns2 = hold μ k k2 c2 ns2 := fun _ _ _ _ => hold_hold hd.ne
  unfold t_law_bad_puts
  refine q_set ?_
  wtm_at "E"
  refine ⟨k, k2, c, ns, 8, rfl, hd, by omega, by decide, by decide, fun w ns1 hw0 hw1 hn1 => ?_⟩
  have hd1 := hd.hold (c' := c + 1) (ns' := ns1) (by omega) hn1
  refine q_set (de_lstOZ ?_)
  refine da_cons (de_tupZ ?_)
  wtm_at "E"
  refine ⟨k, k2, _, ns1, rfl, hd1, by omega, fun sa c2 ns2 hsa hc2 hc2' hn2 => ?_⟩
  rw [hh]
  have hd2 := hd.hold (c' := c2) (ns' := ns2) (by omega) (by omega)
  have a2 := hsa.2.1
  wtm_at "E"
  refine rs_anyS (by omega) ?_
  have la : (cutS sa none (some 7)).length ≤ 7 := by
    rw [len_cps, show (7 : Int) = ((7 : Nat) : Int) by rfl, cutS_to, List.length_take]; omega
  refine ro_addS (by have : (Str.ofString "a").length = 1 := by decide +kernel
                     omega) ?_
  wtm_at "E"
  refine ⟨k, k2, _, ns2, rfl, hd2, by omega, fun sb c3 ns3 hsb hc3 hc3' hn3 => ?_⟩
  rw [hh]
  have hd3 := hd.hold (c' := c3) (ns' := ns3) (by omega) (by omega)
  have b2 := hsb.2.1
  wtm_at "E"
  refine rs_anyS (by omega) ?_
  have lb : (cutS sb none (some 7)).length ≤ 7 := by
    rw [len_cps, show (7 : Int) = ((7 : Nat) : Int) by rfl, cutS_to, List.length_take]; omega
  refine ro_addS (by have : (Str.ofString "b").length = 1 := by decide +kernel
                     omega) ?_
  wtm_at "E"
  obtain ⟨na, hna⟩ : ∃ na, na = Str.ofString "a" ++ cutS sa none (some 7) := ⟨_, rfl⟩
  obtain ⟨nb, hnb⟩ : ∃ nb, nb = Str.ofString "b" ++ cutS sb none (some 7) := ⟨_, rfl⟩
  have ha97 : na.cps.toList.head? = some 97 := by rw [hna, add_cps]; rfl
  have hb98 : nb.cps.toList.head? = some 98 := by rw [hnb, add_cps]; rfl
  have lna : na.length ≤ 8 := by
    rw [hna, len_cps, add_cps, List.length_append, ← len_cps, ← len_cps]
    have : (Str.ofString "a").length = 1 := by decide +kernel
    omega
  have lnb : nb.length ≤ 8 := by
    rw [hnb, len_cps, add_cps, List.length_append, ← len_cps, ← len_cps]
    have : (Str.ofString "b").length = 1 := by decide +kernel
    omega
  rw [← hna, ← hnb]
  have hword := gd4_word ha97 hb98
  have hlen : ∀ p ∈ gd4 na nb, p.1.length ≤ 8 := by
    intro p hp
    simp only [gd4, List.mem_cons, List.not_mem_nil, or_false] at hp
    rcases hp with rfl | rfl | rfl | rfl
    · exact lna
    · exact lnb
    · decide +kernel
    · decide +kernel
  show DS K B _ _ (hold μ k k2 c3 ns3 ++ [.lst ((gd4 na nb).map actD)]) _
  generalize hgs : gd4 na nb = gs at hword hlen ⊢
  have lgs : gs.length = 4 := by rw [← hgs]; rfl
  have gN : ∀ (c' : Int) (ns' : List Int) (o : MO), (hold μ k k2 c' ns' ++ [o])[μ.length]? = some o := fun c' ns' o => by rw [← hold_len (μ := μ) (k := k) (k2 := k2) (c := c') (ns := ns')]; exact mu_last
  have sN : ∀ (c' : Int) (ns' : List Int) (o o' : MO), (hold μ k k2 c' ns' ++ [o]).set μ.length o' = hold μ k k2 c' ns' ++ [o'] := fun c' ns' o o' => by rw [← hold_len (μ := μ) (k := k) (k2 := k2) (c := c') (ns := ns')]; exact set_last
  have hA : ∀ (c1 : Int) (ns1 : List Int) (o : MO) (c2 : Int) (ns2 : List Int), 0 ≤ c1 → ns1.length = ns.length → hold (hold μ k k2 c1 ns1 ++ [o]) k k2 c2 ns2 = hold μ k k2 c2 ns2 ++ [o] := fun c1 ns1 o c2 ns2 h1 h2 => by
    rw [hold_app (hd.hold (c' := c1) (ns' := ns1) h1 h2), hh]
  have gput : ∀ x ∈ gs.map actD, PutX x := fun x hx => by
    obtain ⟨p, hp, rfl⟩ := List.mem_map.mp hx
    exact putX_act (by have := hlen p hp; omega)
  have gcl : ∀ x ∈ gs.map actD, ∀ n, x.cl n = true := fun x hx n => by
    obtain ⟨p, hp, rfl⟩ := List.mem_map.mp hx
    rfl
  rw [hold_len]
  show DS K B _ [some (.own k), some (.int w), some (.own μ.length), none, none, none] _ _
  refine q_set (de_call hE ?_)
  wtm_at "E"
  refine ⟨k, k2, _, ns3, 4, rfl, hd3.app _, by omega, by decide, by decide, fun sp ns4 hs0 hs1 hn4 => ?_⟩
  rw [hA _ _ _ _ _ (by omega) (by omega)]
  have hd4 := hd.hold (c' := c3 + 1) (ns' := ns4) (by omega) (by omega)
  obtain ⟨q, rfl⟩ : ∃ n : Nat, sp = n := ⟨sp.toNat, by omega⟩
  have hq : gs[q]? = some (gs[q]'(by omega)) := List.getElem?_eq_getElem _
  have hqm := List.getElem_mem (l := gs) (n := q) (by omega)
  generalize gs[q]'(by omega) = pq at hq hqm
  obtain ⟨w0, s0⟩ := pq
  obtain ⟨hs0', hwo, hwr⟩ := hword _ hqm
  have hwl := hlen _ hqm
  simp only at hs0' hwo hwr hwl
  refine q_asg (de_op ?_)
  wtm_at "E"
  refine ro_ixL (.own (gN _ _ _)) (at_map (f := actD) rfl hq) ?_
  show DG K B _ (.tup [.str w0, .str s0]) _ _ _
  refine dg_tup rfl ?_
  refine dgs_cons (dg_name (dgs_cons (dg_name (dgs_nil ?_))))
  have hc4 : c3 + 1 ≤ c + 24 := by omega
  have hcl4 : c ≤ c3 + 1 := by omega
  generalize c3 + 1 = c4 at hd4 hc4 hcl4 ⊢
  have hcc4 := hd4.c0
  have n4 : ns4.length = ns.length := by omega
  have wput : PutX (actD (w0, s0)) := putX_act (by show w0.length ≤ 100000; omega)
  -- five of them
  refine q_when (dt_test ?_)
  wtm_at "E"
  · refine ds_ret (de_op ?_)
    wtm_at "E"
    refine de_lstZ ?_
    wtm_at "E"
    refine ro_addL (.own (gN _ _ _)) (.lst _) (by simp; omega) ?_
    refine ret _ c4 ns4 _ (putsX_lst fun x hx => ?_) (lst_clN fun x hx n => ?_) (np_len (by simp; omega)) hcl4 (by omega) n4
    · rcases List.mem_append.mp hx with z | z
      · exact gput x z
      · rw [List.mem_singleton] at z
        subst z
        exact putX_act (p := ("e", "off")) (by decide +kernel)
    · rcases List.mem_append.mp hx with z | z
      · exact gcl x z n
      · rw [List.mem_singleton] at z
        subst z
        rfl
  -- a name twice
  refine q_when (dt_test ?_)
  wtm_at "E"
  · refine ds_ret (de_op (de_sl ?_))
    wtm_at "E"
    refine rs_anyL (.own (gN _ _ _)) ?_
    refine de_lstZ ?_
    wtm_at "E"
    obtain ⟨j, hj, hj3⟩ : ∃ j : Nat, ((q : Int) % 3) = (j : Int) ∧ j < 3 := ⟨((q : Int) % 3).toNat, by omega, by omega⟩
    rw [hj]
    have hgj : gs[j]? = some (gs[j]'(by omega)) := List.getElem?_eq_getElem _
    have hgm := List.getElem_mem (l := gs) (n := j) (by omega)
    generalize gs[j]'(by omega) = pj at hgj hgm
    refine ro_ixL (.own (gN _ _ _)) (at_map (f := actD) rfl hgj) ?_
    rw [show actD pj = D.tup [.str pj.1, .str pj.2] from rfl]
    wtm_at "E"
    rw [show (3 : Int) = ((3 : Nat) : Int) by rfl, cut_toK]
    refine ro_addL (.lst _) (.lst _) (by simp; omega) ?_
    have e : (gs.map actD).take 3 ++ [D.tup [.str pj.1, .str s0]] = (gs.take 3 ++ [(pj.1, s0)]).map actD := by simp [actD]
    rw [e]
    have p1 : (gs.take 3 ++ [(pj.1, s0)])[j]? = some pj := by
      rw [List.getElem?_append_left (by simp; omega), List.getElem?_take_of_lt hj3]
      exact hgj
    have p2 : (gs.take 3 ++ [(pj.1, s0)])[3]? = some (pj.1, s0) := by
      rw [List.getElem?_append_right (by simp; omega)]
      have : 3 - (gs.take 3).length = 0 := by simp; omega
      rw [this]
      rfl
    have hmem : ∀ x ∈ (gs.take 3 ++ [(pj.1, s0)]).map actD, ∃ p : Str × Str, x = actD p ∧ p.1.length ≤ 8 := fun x hx => by
      obtain ⟨p, hp, rfl⟩ := List.mem_map.mp hx
      rcases List.mem_append.mp hp with z | z
      · exact ⟨p, rfl, hlen p (List.mem_of_mem_take z)⟩
      · rw [List.mem_singleton] at z
        subst z
        exact ⟨_, rfl, hlen pj hgm⟩
    refine ret _ c4 ns4 _ (putsX_lst fun x hx => ?_) (lst_clN fun x hx n => ?_) (np_dup hj3 p1 p2 rfl) hcl4 (by omega) n4
    · obtain ⟨p, rfl, hp⟩ := hmem x hx
      exact putX_act (by omega)
    · obtain ⟨p, rfl, hp⟩ := hmem x hx
      rfl
  rename_i hw2 hw3
  have hixq : ∀ {L : List D}, L.length = 4 → ixN L.length (q : Int) = some q := fun e => by rw [e]; exact ixN_natQ (by omega)
  -- one of them otherwise
  have setq : ∀ (x : D), PutX x → (∀ n, x.cl n = true) → (∀ p : Str × Str, nameOk p.1 → (p.2 = "off" ∨ p.2 = "rest") → x ≠ actD p) → (∀ y ∈ (gs.map actD).set q x, PutX y) ∧ (∀ y ∈ (gs.map actD).set q x, ∀ n, y.cl n = true) ∧ ∀ ps, ¬ PutsIs (.lst ((gs.map actD).set q x)) ps := fun x h1 h2 h3 => by
    have hm : ∀ y ∈ (gs.map actD).set q x, y = x ∨ y ∈ gs.map actD := fun y hy => (List.mem_or_eq_of_mem_set hy).symm
    refine ⟨fun y hy => ?_, fun y hy n => ?_, np_elem (x := x) (List.mem_set (by rw [List.length_map]; omega) x) h3⟩
    · rcases hm y hy with rfl | z
      · exact h1
      · exact gput y z
    · rcases hm y hy with rfl | z
      · exact h2 n
      · exact gcl y z n
  have skip : ∀ {b b' : Int} {L : List D} {c' : Int}, ((b ≤ w ∧ L = gs.map actD ∧ c' ≤ c + 24) ∨ (w < b ∧ (∀ x ∈ L, PutX x) ∧ (∀ x ∈ L, ∀ n, x.cl n = true) ∧ ∀ ps, ¬ PutsIs (.lst L) ps)) → (b ≤ w → b' ≤ w) → b ≤ b' → ((b' ≤ w ∧ L = gs.map actD ∧ c' ≤ c + 24) ∨ (w < b' ∧ (∀ x ∈ L, PutX x) ∧ (∀ x ∈ L, ∀ n, x.cl n = true) ∧ ∀ ps, ¬ PutsIs (.lst L) ps)) := fun h h1 h2 => by
    rcases h with z | z
    · exact .inl ⟨h1 z.1, z.2⟩
    · exact .inr ⟨by omega, z.2⟩
  refine ds_cut (M := PuM k k2 w q w0 s0 gs c ns μ 3) ?_ ?_
  · refine s_when (dt_test ?_)
    wtm_at "E"
    · rename_i hw
      refine ds_asg (de_tupZ ?_)
      wtm_at "E"
      refine de_lstZ ?_
      wtm_at "E"
      refine ⟨k, k2, _, ns4, 6, rfl, hd4.app _, by omega, by decide, by decide, fun r ns5 hr0 hr1 hn5 => ?_⟩
      rw [hA _ _ _ _ _ (by omega) n4]
      obtain ⟨d, hd5, h1, h2, h3, h4⟩ : ∃ d, atI [D.str "free", .str "", .str "Off", .str "rests", .non, .int 0] r = some d ∧ d.dat = true ∧ (∀ n, d.cl n = true) ∧ flatD d = true ∧ ∀ z : Str, (z = "off" ∨ z = "rest") → d ≠ .str z := by
        have o : ∀ {x : Str}, (decide (x = "off" ∨ x = "rest")) = false → ∀ z : Str, (z = "off" ∨ z = "rest") → D.str x ≠ .str z := fun hx z hz e => by
          cases e
          exact absurd hz (by simpa using hx)
        rcases (show r = 0 ∨ r = 1 ∨ r = 2 ∨ r = 3 ∨ r = 4 ∨ r = 5 by omega) with rfl | rfl | rfl | rfl | rfl | rfl
        · exact ⟨_, rfl, rfl, fun _ => rfl, rfl, o (by decide +kernel)⟩
        · exact ⟨_, rfl, rfl, fun _ => rfl, rfl, o (by decide +kernel)⟩
        · exact ⟨_, rfl, rfl, fun _ => rfl, rfl, o (by decide +kernel)⟩
        · exact ⟨_, rfl, rfl, fun _ => rfl, rfl, o (by decide +kernel)⟩
        · exact ⟨_, rfl, rfl, fun _ => rfl, rfl, fun _ _ e => (nomatch e)⟩
        · exact ⟨_, rfl, rfl, fun _ => rfl, rfl, fun _ _ e => (nomatch e)⟩
      refine ro_ixL (.lst _) hd5 ?_
      wtm_at "E"
      refine rset_lst (gN _ _ _) (hixq (by simp [lgs])) ?_
      rw [sN]
      obtain ⟨g1, g2, g3⟩ := setq (.tup [.str w0, d]) (putX_pair rfl h1 (fun s e => by cases e; omega) h3) (fun n => by simp [D.cl, clL, h2 n]) (fun p p1 p2 e => by
        unfold actD at e
        injection e with e
        injection e with _ e
        injection e with e _
        exact h4 p.2 p2 e)
      exact ⟨_, c4 + 1, ns5, rfl, rfl, by omega, by omega, by omega, .inr ⟨by omega, g1, g2, g3⟩⟩
    · exact ⟨_, c4, ns4, rfl, rfl, hcl4, by omega, n4, .inl ⟨by omega, rfl, hc4⟩⟩
  rintro ρ1 μ1 ⟨L, c5, ns5, rfl, rfl, hc5, hc5', n5, alt⟩
  have hd5 := hd.hold (c' := c5) (ns' := ns5) (by omega) (by omega)
  refine ds_cut (M := PuM k k2 w q w0 s0 gs c ns μ 4) ?_ ?_
  · refine s_when (dt_test ?_)
    wtm_at "E"
    · rename_i hw
      obtain ⟨_, rfl, hcx⟩ : 3 ≤ w ∧ L = gs.map actD ∧ c5 ≤ c + 24 := by
        rcases alt with z | z
        · exact z
        · omega
      refine ds_asg (de_tupZ ?_)
      wtm_at "E"
      refine ⟨k, k2, _, ns5, rfl, hd5.app _, by omega, fun d c6 ns6 h1 h2 h3 h4 hc6 hc6' hn6 => ?_⟩
      rw [hA _ _ _ _ _ (by omega) n5]
      wtm_at "E"
      refine rset_lst (gN _ _ _) (hixq (by simp [lgs])) ?_
      rw [sN]
      obtain ⟨g1, g2, g3⟩ := setq (.tup [d, .str s0]) (putX_pair h1 rfl h2 rfl) (fun n => by simp [D.cl, clL, h3 n]) (fun p p1 p2 e => by
        unfold actD at e
        injection e with e
        injection e with e _
        subst e
        simp [isNameD, p1] at h4)
      exact ⟨_, c6, ns6, rfl, rfl, by omega, by omega, by omega, .inr ⟨by omega, g1, g2, g3⟩⟩
    · exact ⟨_, c5, ns5, rfl, rfl, hc5, hc5', n5, skip alt (by omega) (by omega)⟩
  rintro ρ1 μ1 ⟨L, c5, ns5, rfl, rfl, hc5, hc5', n5, alt⟩
  have hd5 := hd.hold (c' := c5) (ns' := ns5) (by omega) (by omega)
  refine ds_cut (M := PuM k k2 w q w0 s0 gs c ns μ 5) ?_ ?_
  · refine s_when (dt_test ?_)
    wtm_at "E"
    · rename_i hw
      obtain ⟨_, rfl, hcx⟩ : 4 ≤ w ∧ L = gs.map actD ∧ c5 ≤ c + 24 := by
        rcases alt with z | z
        · exact z
        · omega
      refine ds_asg (de_op (de_lstZ ?_))
      refine da_cons (de_lstZ ?_)
      wtm_at "E"
      refine ⟨k, k2, _, ns5, 6, rfl, hd5.app _, by omega, by decide, by decide, fun r ns6 hr0 hr1 hn6 => ?_⟩
      rw [hA _ _ _ _ _ (by omega) n5]
      obtain ⟨x, hx5, h1, h2, h3⟩ : ∃ x, atI [D.lst [.str w0, .str s0], .tup [.str w0, .str s0, .str "off"], .tup [.str w0], .str w0, .non, .tup [.str s0, .str w0]] r = some x ∧ PutX x ∧ (∀ n, x.cl n = true) ∧ ∀ p : Str × Str, nameOk p.1 → (p.2 = "off" ∨ p.2 = "rest") → x ≠ actD p := by
        rcases (show r = 0 ∨ r = 1 ∨ r = 2 ∨ r = 3 ∨ r = 4 ∨ r = 5 by omega) with rfl | rfl | rfl | rfl | rfl | rfl
        · exact ⟨_, rfl, ⟨rfl, fun _ _ e => (nomatch e)⟩, fun _ => rfl, fun _ _ _ e => (nomatch e)⟩
        · exact ⟨_, rfl, ⟨rfl, fun _ _ e => (nomatch e)⟩, fun _ => rfl, fun _ _ _ e => (nomatch e)⟩
        · exact ⟨_, rfl, ⟨rfl, fun _ _ e => (nomatch e)⟩, fun _ => rfl, fun _ _ _ e => (nomatch e)⟩
        · exact ⟨_, rfl, ⟨rfl, fun _ _ e => (nomatch e)⟩, fun _ => rfl, fun _ _ _ e => (nomatch e)⟩
        · exact ⟨_, rfl, ⟨rfl, fun _ _ e => (nomatch e)⟩, fun _ => rfl, fun _ _ _ e => (nomatch e)⟩
        · refine ⟨_, rfl, putX_pair rfl rfl (fun s e => ?_) rfl, fun _ => rfl, fun p _ p2 e => ?_⟩
          · cases e
            rcases hs0' with e | e <;> rw [e] <;> decide +kernel
          · unfold actD at e
            injection e with e
            injection e with _ e
            injection e with e _
            injection e with e
            rw [← e] at p2
            rcases p2 with z | z
            · exact hwo z
            · exact hwr z
      refine ro_ixL (.lst _) hx5 ?_
      refine dg_sub ?_
      wtm_at "E"
      refine rset_lst (gN _ _ _) (hixq (by simp [lgs])) ?_
      rw [sN]
      obtain ⟨g1, g2, g3⟩ := setq x h1 h2 h3
      exact ⟨_, c5 + 1, ns6, rfl, rfl, by omega, by omega, by omega, .inr ⟨by omega, g1, g2, g3⟩⟩
    · exact ⟨_, c5, ns5, rfl, rfl, hc5, hc5', n5, skip alt (by omega) (by omega)⟩
  rintro ρ1 μ1 ⟨L, c5, ns5, rfl, rfl, hc5, hc5', n5, alt⟩
  have hd5 := hd.hold (c' := c5) (ns' := ns5) (by omega) (by omega)
  refine q_when (dt_test ?_)
  wtm_at "E"
  · rename_i hw
    obtain ⟨_, rfl, hcx⟩ : 5 ≤ w ∧ L = gs.map actD ∧ c5 ≤ c + 24 := by
      rcases alt with z | z
      · exact z
      · omega
    refine ds_ret (de_tupOf ?_)
    wtm_at "E"
    refine ⟨_, .own (gN _ _ _), ?_⟩
    refine ret _ c5 ns5 _ ⟨.inl ?_, fun _ e => (nomatch e)⟩ (fun n => ?_) (np_other (fun _ e => (nomatch e)) (fun e => (nomatch e))) hc5 (by omega) n5
    · exact (show datL (gs.map actD) = true by rw [datL_iff]; exact fun x hx => (gput x hx).dat)
    · rw [D.cl, clL_iff]
      exact fun x hx => gcl x hx n
  refine q_when (dt_test ?_)
  wtm_at "E"
  · rename_i hw
    obtain ⟨_, rfl, hcx⟩ : 5 ≤ w ∧ L = gs.map actD ∧ c5 ≤ c + 24 := by
      rcases alt with z | z
      · exact z
      · omega
    refine ds_ret (de_op (de_lstZ ?_))
    wtm_at "E"
    refine de_dispF ?_
    show DE K B (tC (.str "a")) _ _ _
    wtm_at "E"
    refine ⟨[(.inr "a", .str "off")], rfl, by decide, mu_last, ?_⟩
    rw [set_last]
    wtm_at "E"
    refine ⟨k, k2, _, ns5, 4, rfl, (hd5.app _).app _, by omega, by decide, by decide, fun r ns6 hr0 hr1 hn6 => ?_⟩
    rw [hold_app (hd5.app _), hA _ _ _ _ _ (by omega) n5, List.append_assoc]
    obtain ⟨x, hx5, h1, h2, h3⟩ : ∃ x, atI [D.int 7, .bl true, .str "off", .dct (mergeKD [] [(.inr "a", .str "off")])] r = some x ∧ x.dat = true ∧ (∀ n, x.cl n = true) ∧ ((∀ xs, x ≠ .lst xs) ∧ x ≠ .non) := by
      rcases (show r = 0 ∨ r = 1 ∨ r = 2 ∨ r = 3 by omega) with rfl | rfl | rfl | rfl
      all_goals exact ⟨_, rfl, rfl, fun _ => rfl, fun _ e => (nomatch e), fun e => (nomatch e)⟩
    refine ro_ixL (.lst _) hx5 ?_
    exact ret x _ ns6 _ ⟨.inl h1, fun xs e => absurd e (h3.1 xs)⟩ h2 (np_other h3.1 h3.2) (by omega) (by omega) (by omega)
  rename_i hw5 hw6
  refine ds_cut (M := PuM k k2 w q w0 s0 gs c ns μ 8) ?_ ?_
  · refine s_when (dt_test ?_)
    wtm_at "E"
    · rename_i hw
      obtain ⟨_, rfl, hcx⟩ : 5 ≤ w ∧ L = gs.map actD ∧ c5 ≤ c + 24 := by
        rcases alt with z | z
        · exact z
        · omega
      obtain ⟨j, pj, hjq, hgj, hat⟩ : ∃ (j : Nat) (pj : Str × Str), j ≠ q ∧ gs[j]? = some pj ∧ atI (gs.map actD) ((q : Int) - 1) = some (actD pj) := by
        have l3 : ∃ p, gs[3]? = some p := ⟨_, List.getElem?_eq_getElem (by omega)⟩
        cases q with
        | zero =>
          obtain ⟨p, hp⟩ := l3
          refine ⟨3, p, by decide, hp, ?_⟩
          unfold atI ixN
          rw [List.length_map, lgs]
          show (gs.map actD)[3]? = _
          rw [List.getElem?_map, hp]
          rfl
        | succ m =>
          obtain ⟨p, hp⟩ : ∃ p, gs[m]? = some p := ⟨_, List.getElem?_eq_getElem (by omega)⟩
          exact ⟨m, p, by omega, hp, at_map (f := actD) (by omega) hp⟩
      have hpl := hlen pj (List.mem_of_getElem? hgj)
      refine ds_asg (de_tupZ ?_)
      wtm_at "E"
      refine ro_ixL (.own (gN _ _ _)) hat ?_
      rw [show actD pj = D.tup [.str pj.1, .str pj.2] from rfl]
      wtm_at "E"
      refine rset_lst (gN _ _ _) (hixq (by simp [lgs])) ?_
      rw [sN]
      have e : (gs.map actD).set q (.tup [.str pj.1, .str s0]) = (gs.set q (pj.1, s0)).map actD := by
        rw [List.map_set]
        rfl
      rw [e]
      have hm : ∀ x ∈ (gs.set q (pj.1, s0)).map actD, ∃ p : Str × Str, x = actD p ∧ p.1.length ≤ 8 := fun x hx => by
        obtain ⟨p, hp, rfl⟩ := List.mem_map.mp hx
        rcases List.mem_or_eq_of_mem_set hp with z | rfl
        · exact ⟨p, rfl, hlen p z⟩
        · exact ⟨_, rfl, hpl⟩
      have i1 : (gs.set q (pj.1, s0))[q]? = some (pj.1, s0) := List.getElem?_set_self (by omega)
      have i2 : (gs.set q (pj.1, s0))[j]? = some pj := by rw [List.getElem?_set_ne (Ne.symm hjq)]; exact hgj
      refine ⟨_, c5, ns5, rfl, rfl, hc5, hc5', n5, .inr ⟨by omega, fun x hx => ?_, fun x hx n => ?_, ?_⟩⟩
      · obtain ⟨p, rfl, hp⟩ := hm x hx
        exact putX_act (by omega)
      · obtain ⟨p, rfl, hp⟩ := hm x hx
        rfl
      · rcases Nat.lt_or_gt_of_ne hjq with z | z
        · exact np_dup z i2 i1 rfl
        · exact np_dup z i1 i2 rfl
    · exact ⟨_, c5, ns5, rfl, rfl, hc5, hc5', n5, skip alt (by omega) (by omega)⟩
  rintro ρ1 μ1 ⟨L, c6, ns6, rfl, rfl, hc6, hc6', n6, alt⟩
  obtain ⟨_, g1, g2, g3⟩ : w < 8 ∧ (∀ x ∈ L, PutX x) ∧ (∀ x ∈ L, ∀ n, x.cl n = true) ∧ ∀ ps, ¬ PutsIs (.lst L) ps := by
    rcases alt with z | z
    · omega
    · exact z
  refine ds_freeze (i := 2) (k := μ.length) (by rfl) (gN _ _ _) ?_
  rw [sN]
  refine ds_ret ?_
  wtm_at "E"
  exact ret (.lst L) c6 ns6 _ (putsX_lst g1) (lst_clN g2) g3 hc6 (by omega) n6
end
section
variable {K : PySem.W.Frag}
theorem FeX.of {f : FeT} (h : GFe f) : FeX (.str f.name) (.int f.place) (.int f.lasts) (keptD f.kept) (actsD f.acts) := by
  refine ⟨rfl, fun s e => by cases e; have := h.name.2.1; omega, rfl, rfl, .inl (kept_datF _), actsX fun p hp => (h.acts.each p hp).1, fun n => ?_⟩
  simp [clL, D.cl, cl_kept, cl_acts]
theorem clL5 {a b c d e : D} (h : ∀ n, clL [a, b, c, d, e] n = true) : (∀ n, a.cl n = true) ∧ (∀ n, b.cl n = true) ∧ (∀ n, c.cl n = true) ∧ (∀ n, d.cl n = true) ∧ (∀ n, e.cl n = true) := by
  simp only [clL, Bool.and_true, Bool.and_eq_true] at h
  exact ⟨fun n => (h n).1, fun n => (h n).2.1, fun n => (h n).2.2.1, fun n => (h n).2.2.2.1, fun n => (h n).2.2.2.2⟩
theorem clL5' {a b c d e : D} (h1 : ∀ n, a.cl n = true) (h2 : ∀ n, b.cl n = true) (h3 : ∀ n, c.cl n = true) (h4 : ∀ n, d.cl n = true) (h5 : ∀ n, e.cl n = true) (n : Nat) : clL [a, b, c, d, e] n = true := by
  simp [clL, h1 n, h2 n, h3 n, h4 n, h5 n]
set_option maxHeartbeats 1000000 in
theorem d_law_spoil : ∀ ds μ P PX, c_law_spoil K ds μ P PX → MuCl μ μ.length → clL ds μ.length = true → ∀ B E, XAg K B (RetX μ.length PX) E → DS K B (t_law_spoil K E) (startD ["_law_some", "_law_which", "_law_hold", "_law_way"] ds) μ (fnE μ.length P) := by
  intro ds μ P PX h hm hc B E hE
  obtain ⟨k, k2, c, ns, j, w, a, b, cc, dk, dp, rfl, hd, hc1, hkj, hkj2, hj, hX, hw0, hw1, h⟩ := h
  show DS K B _ [some (.own j), some (.int w), some (.own k), none] μ _
  have hc0 := hd.c0
  obtain ⟨la, lb, lcc, lk, lp⟩ := clL5 hX.cl
  have hh : ∀ c1 ns1 c2 ns2, hold (hold μ k k2 c1 ns1) k k2 c2 ns2 = hold μ k k2 c2 ns2 := fun _ _ _ _ => hold_hold hd.ne
  have gj : ∀ c' ns', (hold μ k k2 c' ns')[j]? = some (.lst [a, b, cc, dk, dp]) := fun c' ns' => by rw [hold_get hkj hkj2]; exact hj
  have ret : ∀ (a' b' cc' dk' dp' : D) (c' : Int) (ns' : List Int), FeX a' b' cc' dk' dp' → BadF a' b' cc' dk' dp' → c ≤ c' → c' ≤ c + 80 → ns'.length = ns.length → Ret μ.length P .non ((hold μ k k2 c' ns').set j (.lst [a', b', cc', dk', dp'])) := fun a' b' cc' dk' dp' c' ns' h1 h2 h3 h4 h5 => by
    refine ret_same0 (by rw [List.length_set, hold_len]; exact Nat.le_refl _) ?_ rfl (h a' b' cc' dk' dp' c' ns' h1 h2 h3 h4 h5)
    rw [List.length_set]
    exact (hd.cl hm).set (h1.cl _)
  unfold t_law_spoil
  refine q_set ?_
  wtm_at "E"
  refine ⟨k, k2, c, ns, 5, rfl, hd, by omega, by decide, by decide, fun way ns1 hw0 hw1 hn1 => ?_⟩
  have hd1 := hd.hold (c' := c + 1) (ns' := ns1) (by omega) hn1
  have fin : ∀ {i : Nat} {d : D} {c' : Int} {ns' : List Int} {μ2 : Mu}, μ2 = hold μ k k2 c' ns' → (∀ (Q : Mu → Prop), Q (μ2.set j (.lst ([a, b, cc, dk, dp].set i d))) → RSet K rSetL (.own j) (.int (i : Int)) d μ2 Q) → True := fun _ _ => trivial
  refine ds_if (dt_test ?_)
  wtm_at "E"
  · refine ds_asg (de_call hE ?_)
    wtm_at "E"
    refine ⟨k, k2, _, ns1, rfl, hd1, by omega, fun d c2 ns2 h1 h2 h3 h4 hc2 hc2' hn2 => ?_⟩
    rw [hh]
    refine dg_sub ?_
    wtm_at "E"
    refine rset_lst (gj _ _) rfl ?_
    exact ret d b cc dk dp c2 ns2 ⟨h1, h2, hX.db, hX.dc, hX.xk, hX.xp, clL5' h3 lb lcc lk lp⟩ (BadF.name h4) (by omega) (by omega) (by omega)
  refine ds_if (dt_test ?_)
  wtm_at "E"
  · refine ds_asg (de_op (de_lstZ ?_))
    wtm_at "E"
    refine ⟨k, k2, _, ns1, rfl, hd1, by omega, fun r c2 ns2 hr0 hr1 hc2 hc2' hn2 => ?_⟩
    rw [hh]
    have hd2 := hd.hold (c' := c2) (ns' := ns2) (by omega) (by omega)
    wtm_at "E"
    refine ⟨k, k2, _, ns2, rfl, hd2, by omega, fun q c3 ns3 hq0 hq1 hc3 hc3' hn3 => ?_⟩
    rw [hh]
    wtm_at "E"
    obtain ⟨d, hd5, h1, h2, h3⟩ : ∃ d, atI [D.int (-401 - r), .int (400 + q), .bl true, .non, .str "3"] way = some d ∧ d.dat = true ∧ (∀ n, d.cl n = true) ∧ isNum d (-400) 399 = false := by
      rcases (show way = 0 ∨ way = 1 ∨ way = 2 ∨ way = 3 ∨ way = 4 by omega) with rfl | rfl | rfl | rfl | rfl
      · exact ⟨_, rfl, rfl, fun _ => rfl, by simp [isNum]; omega⟩
      · exact ⟨_, rfl, rfl, fun _ => rfl, by simp [isNum]; omega⟩
      all_goals exact ⟨_, rfl, rfl, fun _ => rfl, rfl⟩
    refine ro_ixL (.lst _) hd5 ?_
    refine dg_sub ?_
    wtm_at "E"
    refine rset_lst (gj _ _) rfl ?_
    exact ret a d cc dk dp c3 ns3 ⟨hX.da, hX.sa, h1, hX.dc, hX.xk, hX.xp, clL5' la h2 lcc lk lp⟩ (BadF.place h3) (by omega) (by omega) (by omega)
  refine ds_if (dt_test ?_)
  wtm_at "E"
  · refine ds_asg (de_op (de_lstZ ?_))
    wtm_at "E"
    refine ⟨k, k2, _, ns1, rfl, hd1, by omega, fun r c2 ns2 hr0 hr1 hc2 hc2' hn2 => ?_⟩
    rw [hh]
    have hd2 := hd.hold (c' := c2) (ns' := ns2) (by omega) (by omega)
    wtm_at "E"
    refine ⟨k, k2, _, ns2, rfl, hd2, by omega, fun q c3 ns3 hq0 hq1 hc3 hc3' hn3 => ?_⟩
    rw [hh]
    wtm_at "E"
    obtain ⟨d, hd5, h1, h2, h3⟩ : ∃ d, atI [D.int (0 - r), .int (41 + q), .bl true, .non, .str "3"] way = some d ∧ d.dat = true ∧ (∀ n, d.cl n = true) ∧ isNum d 1 40 = false := by
      rcases (show way = 0 ∨ way = 1 ∨ way = 2 ∨ way = 3 ∨ way = 4 by omega) with rfl | rfl | rfl | rfl | rfl
      · exact ⟨_, rfl, rfl, fun _ => rfl, by simp [isNum]; omega⟩
      · exact ⟨_, rfl, rfl, fun _ => rfl, by simp [isNum]; omega⟩
      all_goals exact ⟨_, rfl, rfl, fun _ => rfl, rfl⟩
    refine ro_ixL (.lst _) hd5 ?_
    refine dg_sub ?_
    wtm_at "E"
    refine rset_lst (gj _ _) rfl ?_
    exact ret a b d dk dp c3 ns3 ⟨hX.da, hX.sa, hX.db, h1, hX.xk, hX.xp, clL5' la lb h2 lk lp⟩ (BadF.days h3) (by omega) (by omega) (by omega)
  refine ds_if (dt_test ?_)
  wtm_at "E"
  · refine ds_asg (de_call hE ?_)
    wtm_at "E"
    refine ⟨k, k2, _, ns1, rfl, hd1, by omega, fun d c2 ns2 h1 h2 h3 hc2 hc2' hn2 => ?_⟩
    rw [hh]
    refine dg_sub ?_
    wtm_at "E"
    refine rset_lst (gj _ _) rfl ?_
    exact ret a b cc d dp c2 ns2 ⟨hX.da, hX.sa, hX.db, hX.dc, h1, hX.xp, clL5' la lb lcc h2 lp⟩ (BadF.years h3) (by omega) (by omega) (by omega)
  · refine ds_asg (de_call hE ?_)
    wtm_at "E"
    refine ⟨k, k2, _, ns1, rfl, hd1, by omega, fun d c2 ns2 h1 h2 h3 hc2 hc2' hn2 => ?_⟩
    rw [hh]
    refine dg_sub ?_
    wtm_at "E"
    refine rset_lst (gj _ _) rfl ?_
    exact ret a b cc dk d c2 ns2 ⟨hX.da, hX.sa, hX.db, hX.dc, hX.xk, h1, clL5' la lb lcc lk h2⟩ (BadF.puts h3) (by omega) (by omega) (by omega)
theorem d_law_bad (kx : KExc K excNames) : ∀ ds μ P PX, c_law_bad K ds μ P PX → MuCl μ μ.length → clL ds μ.length = true → ∀ B E, XAg K B (RetX μ.length PX) E → DS K B (t_law_bad K E) (startD ["_law_some", "_law_told", "e"] ds) μ (fnE μ.length P) := by
  intro ds μ P PX h hm hc B E hE
  obtain ⟨x, a, b, c, dk, dp, rfl, hl, hX, hb, h⟩ := h
  show DS K B _ [some x, none, none] μ _
  unfold t_law_bad
  have hx : ("BadFeast" : Str) ∈ excNames := by simp [excNames]
  wtm_at "A"
  refine de_lstZ ?_
  wtm_at "A"
  refine ds_cut (M := fun ρ1 μ1 => ρ1 = [some x, some (.lst due15), none] ∧ μ = μ1) ?_ ?_
  · refine ds_try fun B' hB' W hW => ?_
    refine ds_drop (de_makeS hW da_nd ?_)
    wtm_at "A"
    refine ro_ixL hl (d := a) rfl ?_
    wtm_at "A"
    refine ro_ixL hl (d := b) rfl ?_
    wtm_at "A"
    refine ro_ixL hl (d := c) rfl ?_
    wtm_at "A"
    refine ro_ixL hl (d := dk) rfl ?_
    wtm_at "A"
    refine ro_ixL hl (d := dp) rfl ?_
    wtm_at "A"
    refine ⟨_, a, b, c, dk, dk, dp, dp, rfl, mu_last, hX.da, hX.sa, hX.db, hX.dc, .id _, hX.xk, .id _, hX.xp, fun f hf => absurd hf (hb f), fun _ => ?_⟩
    refine ⟨μ, [.ins (He.ga K "Feast") []], rfl, rfl, hm, rfl, kx.re _ hx, ?_⟩
    have is : ∀ {y : Str} {Q : D → Mu → Prop}, y ∈ excNames → Q (.bl (decide (("BadFeast" : Str) = y))) μ → RC K (rIsX K) [.exc (He.ga K "BadFeast") [], .loc (He.ga K y)] μ Q := fun hy q => rc_isX (kx.ec _ hx) (.loc _) (kx.is _ hx _ hy) q
    have isv : ∀ {Q : D → Mu → Prop}, Q (.bl true) μ → RC K (rIsX K) [.exc (He.ga K "BadFeast") [], .ty "ValueError"] μ Q := fun q => rc_isX (kx.ec _ hx) (.ty _) (kx.ve _ hx) q
    wtm_at "A"
    repeat (first | (refine isv ?_; wtm_at "A") | (refine is (by simp [excNames]) ?_; wtm_at "A") | (refine de_lstZ ?_; wtm_at "A") | (refine ro_addL (.lst _) (.lst _) (by simp) ?_; wtm_at "A"))
    refine ⟨?_, rfl⟩
    show [some x, _, none] = _
    congr 2
  rintro ρ1 μ1 ⟨rfl, rfl⟩
  wtm_at "A"
  exact ret_same0 (Nat.le_refl _) hm (by simp [D.cl, due15, clL]) h
set_option maxHeartbeats 4000000 in
theorem d_law_asked (kx : KExc K excNames) : ∀ ds μ P PX, c_law_asked K ds μ P PX → MuCl μ μ.length → clL ds μ.length = true → ∀ B E, XAg K B (RetX μ.length PX) E → DS K B (t_law_asked K E) (startD ["_law_feast_here", "_law_calendar", "_law_door", "_law_number", "_law_told", "e"] ds) μ (fnE μ.length P) := by
  intro ds μ P PX h hm hc B E hE
  obtain ⟨f, ls, door, num, rfl, hg, gf, hd0, hd4, hn, h⟩ := h
  show DS K B _ [some (feD K f), some (calD K ls), some (.int door), some (.int num), none, none] μ _
  unfold t_law_asked
  have hx : ("NoDay" : Str) ∈ excNames := by simp [excNames]
  wtm_at "A"
  refine de_lstZ ?_
  wtm_at "A"
  refine ds_cut (M := fun ρ1 μ1 => ρ1 = [some (feD K f), some (calD K ls), some (.int door), some (.int num), some (.lst due15), none] ∧ μ = μ1) ?_ ?_
  · have is : ∀ {y : Str} {Q : D → Mu → Prop}, y ∈ excNames → Q (.bl (decide (("NoDay" : Str) = y))) μ → RC K (rIsX K) [.exc (He.ga K "NoDay") [], .loc (He.ga K y)] μ Q := fun hy q => rc_isX (kx.ec _ hx) (.loc _) (kx.is _ hx _ hy) q
    have isv : ∀ {Q : D → Mu → Prop}, Q (.bl true) μ → RC K (rIsX K) [.exc (He.ga K "NoDay") [], .ty "ValueError"] μ Q := fun q => rc_isX (kx.ec _ hx) (.ty _) (kx.ve _ hx) q
    refine ds_try fun B' hB' W hW => ?_
    rcases (show door = 0 ∨ door = 1 ∨ door = 2 ∨ door = 3 by omega) with rfl | rfl | rfl | rfl
    all_goals
      wtm_at "A"
      refine de_methS hW (de_var rfl ⟨_, .inl rfl, by rfl, ?_⟩)
      wtm_at "E"
      first
        | refine ⟨f, ls, num, rfl, hg, fun hn' => absurd hn' (by omega), fun _ => ⟨kx.re _ hx, ?_⟩⟩
        | refine ⟨f, ls, num, rfl, hg, gf, fun hn' => absurd hn' (by omega), fun _ => ⟨kx.re _ hx, ?_⟩⟩
      wtm_at "A"
      repeat (first | (refine isv ?_; wtm_at "A") | (refine is (by simp [excNames]) ?_; wtm_at "A") | (refine de_lstZ ?_; wtm_at "A") | (refine ro_addL (.lst _) (.lst _) (by simp) ?_; wtm_at "A"))
      refine ⟨?_, rfl⟩
      show [some (feD K f), some (calD K ls), _, some (.int num), _, none] = _
      congr 5
  rintro ρ1 μ1 ⟨rfl, rfl⟩
  wtm_at "A"
  exact ret_same0 (Nat.le_refl _) hm (by simp [D.cl, due15, clL]) h
theorem d_law_told_is : ∀ ds μ P PX, c_law_told_is K ds μ P PX → MuCl μ μ.length → clL ds μ.length = true → ∀ B E, XAg K B (RetX μ.length PX) E → DS K B (t_law_told_is K E) (startD ["_law_found", "_law_due"] ds) μ (fnE μ.length P) := by
  intro ds μ P PX h hm hc B E hE
  obtain ⟨f, y, rfl, gf, hl, h⟩ := h
  show DS K B _ [some (.tup [.str f.name, .int f.place, .int f.lasts, keptD f.kept, actsD f.acts]), some y] μ _
  have fin : Ret μ.length P (.bl true) μ := ret_same0 (Nat.le_refl _) hm rfl h
  have i0 : atI (feL f) 0 = some (.str f.name) := rfl
  have i1 : atI (feL f) 1 = some (.int f.place) := rfl
  have i2 : atI (feL f) 2 = some (.int f.lasts) := rfl
  have i3 : atI (feL f) 3 = some (keptD f.kept) := rfl
  have i4 : atI (feL f) 4 = some (actsD f.acts) := rfl
  have ash : (actsD f.acts).shp 2 = true := by
    unfold actsD
    rw [D.shp]
    simp only [Bool.and_eq_true, decide_eq_true_eq]
    refine ⟨by decide, shpL_map fun p hp => ?_⟩
    obtain ⟨a1, a2⟩ := gf.acts.each p hp
    have a3 : PyData.strOk p.2 = true := by
      rcases a2 with e | e <;> rw [e] <;> decide +kernel
    simp [actD, D.shp, shpL, a1.strOk, a3]
  unfold t_law_told_is
  refine q_when (dt_or (dt_not (dt_truth (de_cb ?_))))
  wtm_at "g"
  refine rc_isiB (n := "tuple") rfl (by rfl) ?_
  refine ⟨_, rfl, fun _ => ?_, fun z => (nomatch z)⟩
  refine dt_or (dt_test ?_)
  wtm_at "E"
  refine ro_ixL hl i0 ?_
  refine ro_neSS gf.name.strOk ?_
  refine ⟨_, rfl, fun _ => ?_, fun z => (nomatch z)⟩
  refine dt_test ?_
  wtm_at "E"
  refine ro_ixL hl i4 ?_
  refine ro_neD (.id _) (.id _) ash ash ?_
  rw [eqvD_refl ash]
  refine ⟨_, rfl, fun z => (nomatch z), fun _ => ?_⟩
  refine q_when (dt_or (dt_not (dt_truth (de_call hE ?_))))
  wtm_at "E"
  refine ro_ixL hl i1 ?_
  wtm_at "E"
  refine ⟨_, rfl, ?_⟩
  refine ⟨_, rfl, fun _ => ?_, fun z => (nomatch z)⟩
  refine dt_or (dt_not (dt_truth (de_call hE ?_)))
  wtm_at "E"
  refine ro_ixL hl i2 ?_
  wtm_at "E"
  refine ⟨_, rfl, ?_⟩
  refine ⟨_, rfl, fun _ => ?_, fun z => (nomatch z)⟩
  refine dt_not (dt_truth (de_cb ?_))
  wtm_at "E"
  clear i0 i1 i2 i4 ash
  cases q : f.kept with
  | none =>
    rw [q] at i3
    simp only [keptD] at i3 ⊢
    refine q_when (dt_B (de_isNZ ?_))
    wtm_at "E"
    refine ro_ixL hl i3 ?_
    refine np_t ⟨true, rfl, fun _ => ?_, fun z => absurd z (by simp)⟩
    refine ds_ret ?_
    wtm_at "E"
    exact fin
  | some ys =>
    have hk := gf.kept ys q
    have hmo := hk.most
    rw [q] at i3
    simp only [keptD, intsD] at i3 ⊢
    refine q_when (dt_B (de_isNZ ?_))
    wtm_at "E"
    refine ro_ixL hl i3 ?_
    refine np_f (by simp) ⟨false, rfl, fun z => absurd z (by simp), fun _ => ?_⟩
    refine ds_ret (de_andV ?_)
    wtm_at "E"
    refine ro_ixL hl i3 ?_
    wtm_at "E"
    exact ⟨_, _, true, ys, rfl, .lst _, .lst _, by omega, fin⟩
end
section
variable {K : PySem.W.Frag}
theorem due15_shp : (D.lst due15).shp 1 = true := by decide +kernel
theorem de_feast18 {B : Bs} {E : XK} {PX : PXT} {ts : TA} {ρ : En} {μ : Mu} {P : D → Mu → Prop} (hE : XAg K B PX E) (h : DA K B ts ρ μ fun ds μ1 => ∃ (f : FeT) (xk xp : D), ds = [.str f.name, .int f.place, .int f.lasts, xk, xp] ∧ GFe f ∧ xk = keptD f.kept ∧ xp = actsD f.acts ∧ P (feD K f) μ1) : DE K B (tMake (He.ga K "Feast") (spD K (c_Feast_init K)) [] E ts) ρ μ P := by
  refine de_make hE da_nd ?_
  refine da_imp h fun ds μ1 p1 => ?_
  obtain ⟨f, xk, xp, rfl, gf, rfl, rfl, p⟩ := p1
  refine c_Feast_ok mu_last gf (.id _) (.id _) ⟨rfl, feF f, set_last, ?_, p⟩
  simp only [clF, feF, D.cl, cl_kept, cl_acts, Bool.and_self]
set_option maxHeartbeats 1000000 in
theorem d_law (kc : KCal K) (kf : KFe K) : ∀ ds μ P PX, c_law K ds μ P PX → MuCl μ μ.length → clL ds μ.length = true → ∀ B E, XAg K B (RetX μ.length PX) E → DS K B (t_law K E) (startD ["_law_script", "_law_hold", "_law_due", "_law_k", "_law_some", "_law_which", "_law_other", "_law_feast_here", "_law_calendar", "_law_door"] ds) μ (fnE μ.length P) := by
  intro ds μ P PX h hm hc B E hE
  obtain ⟨ns, rfl, hl, h⟩ := h
  show DS K B _ [some (.rdl (ns.map D.int)), none, none, none, none, none, none, none, none, none] μ _
  unfold t_law
  wtm_at "dS"
  refine de_hold0 rfl hl fun cs hd0 => ?_
  have hle : μ.length ≤ (μ ++ [MO.lst (cs.map D.int), MO.lst [D.int 0, D.own μ.length]]).length := by simp
  have hfin : ∀ (c : Int) (cs' : List Int) (ext : Mu), Ret μ.length P (.bl true) (hold (μ ++ [MO.lst (cs.map D.int), MO.lst [D.int 0, D.own μ.length]]) (μ.length + 1) μ.length c cs' ++ ext) := fun c cs' ext => by
    have : ∃ ext', hold (μ ++ [MO.lst (cs.map D.int), MO.lst [D.int 0, D.own μ.length]]) (μ.length + 1) μ.length c cs' = μ ++ ext' := by
      unfold hold
      rw [List.set_append_right _ _ (by omega), List.set_append_right _ _ (by omega)]
      exact ⟨_, rfl⟩
    obtain ⟨ext', e⟩ := this
    rw [e, List.append_assoc]
    exact ret_same (Nat.le_refl _) hm rfl (h _)
  generalize μ ++ [MO.lst (cs.map D.int), MO.lst [D.int 0, D.own μ.length]] = μ0 at hd0 hle hfin ⊢
  generalize hk2 : μ.length = k2 at hd0 hfin
  generalize k2 + 1 = k at hd0 hfin ⊢
  have hh : ∀ c1 ns1 c2 ns2, hold (hold μ0 k k2 c1 ns1) k k2 c2 ns2 = hold μ0 k k2 c2 ns2 := fun _ _ _ _ => hold_hold hd0.ne
  have k1 := (List.getElem?_eq_some_iff.mp hd0.a).1
  have k21 := (List.getElem?_eq_some_iff.mp hd0.b).1
  have hA : ∀ (c1 : Int) (ns1 : List Int) (e : Mu) (c2 : Int) (ns2 : List Int), 0 ≤ c1 → ns1.length = cs.length → hold (hold μ0 k k2 c1 ns1 ++ e) k k2 c2 ns2 = hold μ0 k k2 c2 ns2 ++ e := fun c1 ns1 e c2 ns2 h1 h2 => by
    rw [hold_app (hd0.hold (c' := c1) (ns' := ns1) h1 h2), hh]
  have hdA : ∀ {c1 : Int} {ns1 : List Int} (e : Mu), 0 ≤ c1 → ns1.length = cs.length → Hd k k2 c1 ns1 (hold μ0 k k2 c1 ns1 ++ e) := fun e h1 h2 => (hd0.hold h1 h2).app e
  refine q_set (de_op (de_lstZ ?_))
  wtm_at "E"
  refine de_lstZ ?_
  wtm_at "E"
  refine ro_rep (.lst _) (by decide) (by decide) ?_
  refine ro_addL (.lst _) (.lst _) (by decide) ?_
  show DS K B _ [some (.rdl (ns.map D.int)), some (.own k), some (.lst due15), none, none, none, none, none, none, none] μ0 _
  refine q_for ?_
  wtm_at "E"
  rw [List.length_map]
  wtm_at "E"
  refine ⟨by omega, by omega, ?_⟩
  refine ⟨fun i ρ' μ' => ∃ (y3 y4 y5 y6 : Option D) (c : Int) (cs' : List Int) (ext : Mu), ρ' = [some (.rdl (ns.map D.int)), some (.own k), some (.lst due15), y3, y4, y5, y6, none, none, none] ∧ μ' = hold μ0 k k2 c cs' ++ ext ∧ 0 ≤ c ∧ c ≤ 1000 * i ∧ cs'.length = cs.length, ⟨_, _, _, _, 0, cs, [], rfl, by rw [List.append_nil, hold_same hd0], by omega, by omega, rfl⟩, fun _ _ _ _ _ => trivial, ?_, ?_⟩
  · rintro i d ρ' μ' hi ⟨y3, y4, y5, y6, c, cs', ext, rfl, rfl, c0, c1, hn⟩
    obtain ⟨hi, rfl⟩ := rangeD_some hi
    have hi20 : i < 20 := by omega
    refine dg_name ?_
    refine q_set ?_
    wtm_at "E"
    refine ⟨k, k2, c, cs', rfl, hdA _ c0 hn, by omega, fun f c2 cs2 gf hc2 hc2' hn2 => .inr ?_⟩
    rw [hA _ _ _ _ _ c0 hn]
    have hN : ∀ (c' : Int) (ns' : List Int), (hold μ0 k k2 c' ns' ++ ext).length = (μ0 ++ ext).length := fun c' ns' => by rw [List.length_append, List.length_append, hold_len]
    have gN : ∀ (c' : Int) (ns' : List Int) (o : MO), (hold μ0 k k2 c' ns' ++ ext ++ [o])[(μ0 ++ ext).length]? = some o := fun c' ns' o => by rw [← hN c' ns']; exact mu_last
    have sN : ∀ (c' : Int) (ns' : List Int) (o o' : MO), (hold μ0 k k2 c' ns' ++ ext ++ [o]).set (μ0 ++ ext).length o' = hold μ0 k k2 c' ns' ++ ext ++ [o'] := fun c' ns' o o' => by rw [← hN c' ns']; exact set_last
    rw [hN]
    have kN : k ≠ (μ0 ++ ext).length := by rw [List.length_append]; omega
    have k2N : k2 ≠ (μ0 ++ ext).length := by rw [List.length_append]; omega
    have n2 : cs2.length = cs.length := by omega
    refine q_par ?_
    wtm_at "E"
    refine ⟨k, k2, c2, cs2, 5, rfl, by rw [List.append_assoc]; exact hdA _ (by omega) n2, by omega, by decide, by decide, fun w cs3 w0 w1 hn3 => ?_⟩
    rw [List.append_assoc, hA _ _ _ _ _ (by omega) n2, ← List.append_assoc]
    wtm_at "E"
    refine ⟨k, k2, _, cs3, 20, rfl, by rw [List.append_assoc]; exact hdA _ (by omega) (by omega), by omega, by decide, by decide, fun o cs4 o0 o1 hn4 => ?_⟩
    rw [List.append_assoc, hA _ _ _ _ _ (by omega) (by omega), ← List.append_assoc]
    have n4 : cs4.length = cs.length := by omega
    wtm_at "E"
    refine ⟨_, _, rfl, ?_⟩
    refine q_drop (de_call hE ?_)
    wtm_at "E"
    refine ⟨k, k2, _, cs4, _, w, _, _, _, _, _, rfl, by rw [List.append_assoc]; exact hdA _ (by omega) n4, by omega, kN, k2N, gN _ _ _, .of gf, w0, w1, fun a b cc dk dp c5 cs5 hX hB hc5 hc5' hn5 => ?_⟩
    rw [List.append_assoc, hA _ _ _ _ _ (by omega) n4, ← List.append_assoc, sN]
    have n5 : cs5.length = cs.length := by omega
    refine ds_cut (M := fun ρ1 μ1 => ∃ (a b cc dk dp : D) (c6 : Int) (cs6 : List Int), ρ1 = [some (.rdl (ns.map D.int)), some (.own k), some (.lst due15), some (.int (0 + (i : Int))), some (.own (μ0 ++ ext).length), some (.int w), some (.int o), none, none, none] ∧ μ1 = hold μ0 k k2 c6 cs6 ++ ext ++ [.lst [a, b, cc, dk, dp]] ∧ c5 ≤ c6 ∧ c6 ≤ c5 + 80 ∧ cs6.length = cs.length ∧ FeX a b cc dk dp ∧ BadF a b cc dk dp) ?_ ?_
    · refine s_when (dt_and (dt_test ?_))
      wtm_at "E"
      · refine ds_drop (de_call hE ?_)
        wtm_at "E"
        refine ⟨k, k2, _, cs5, _, o, _, _, _, _, _, rfl, by rw [List.append_assoc]; exact hdA _ (by omega) n5, by omega, kN, k2N, gN _ _ _, hX, o0, by omega, fun a b cc dk dp c6 cs6 hX hB hc6 hc6' hn6 => ?_⟩
        rw [List.append_assoc, hA _ _ _ _ _ (by omega) n5, ← List.append_assoc, sN]
        exact ⟨a, b, cc, dk, dp, c6, cs6, rfl, rfl, hc6, hc6', by omega, hX, hB⟩
      all_goals exact ⟨a, b, cc, dk, dp, c5, cs5, rfl, rfl, by omega, by omega, n5, hX, hB⟩
    rintro ρ1 μ1 ⟨a, b, cc, dk, dp, c6, cs6, rfl, rfl, hc6, hc6', n6, hX, hB⟩
    refine s_when (dt_test (de_op (de_call hE ?_)))
    wtm_at "E"
    refine ⟨_, a, b, cc, dk, dp, rfl, .own (gN _ _ _), hX, hB, ?_⟩
    wtm_at "E"
    refine ro_neD (.id _) (.id _) due15_shp due15_shp ?_
    rw [eqvD_refl due15_shp]
    refine ⟨_, rfl, fun z => (nomatch z), fun _ => ?_⟩
    exact ⟨_, _, _, _, c6, cs6, ext ++ [.lst [a, b, cc, dk, dp]], rfl, by rw [List.append_assoc], by omega, by omega, n6⟩
  rintro ρ' μ' ⟨y3, y4, y5, y6, c, cs', ext, rfl, rfl, c0, c1, hn⟩
  rw [rangeD_length] at c1
  have c2 : c ≤ 20000 := by omega
  refine q_set ?_
  wtm_at "E"
  refine ⟨k, k2, c, cs', rfl, hdA _ c0 hn, by omega, fun f c2 cs2 gf hc2 hc2' hn2 => .inl ?_⟩
  rw [hA _ _ _ _ _ c0 hn]
  have n2 : cs2.length = cs.length := by omega
  refine q_set ?_
  refine de_feast18 hE ?_
  wtm_at "E"
  refine ro_ixL (.lst _) (d := .str f.name) rfl ?_
  wtm_at "E"
  refine ro_ixL (.lst _) (d := .int f.place) rfl ?_
  wtm_at "E"
  refine ro_ixL (.lst _) (d := .int f.lasts) rfl ?_
  refine da_cons (de_is (d0 := keptD f.kept) ?_ ?_)
  · cases q : f.kept with
    | none =>
      wtm_at "E"
      refine ro_ixL (.lst _) (d := .non) (by show some (keptD f.kept) = _; rw [q]; rfl) ?_
      wtm_at "E"
      exact ⟨rfl, rfl⟩
    | some ys =>
      wtm_at "E"
      refine ro_ixL (.lst _) (d := intsD ys) (by show some (keptD f.kept) = _; rw [q]; rfl) ?_
      unfold intsD
      wtm_at "E"
      refine ro_ixL (.lst _) (d := intsD ys) (by show some (keptD f.kept) = _; rw [q]; rfl) ?_
      unfold intsD
      wtm_at "E"
      exact ⟨rfl, rfl⟩
  refine da_cons (de_is (d0 := actsD f.acts) ?_ ?_)
  · wtm_at "E"
    refine ro_ixL (.lst _) (d := actsD f.acts) rfl ?_
    unfold actsD
    wtm_at "E"
    exact ⟨rfl, rfl⟩
  refine da_nil ?_
  refine ⟨f, _, _, rfl, gf, rfl, rfl, ?_⟩
  refine q_set ?_
  refine de_cal hE ?_
  wtm_at "E"
  refine ⟨k, k2, c2, cs2, 400, 20, rfl, hdA _ (by omega) n2, by omega, by decide, by decide, by decide, by decide, fun ls c3 cs3 l0 l1 l2 hc3 hc3' hn3 => ?_⟩
  rw [hA _ _ _ _ _ (by omega) n2]
  have n3 : cs3.length = cs.length := by omega
  have gc : GCal ls := ⟨l0, by omega, fun x hx => by have := l2 x hx; omega⟩
  wtm_at "E"
  refine ⟨_, ls, rfl, .id _, gc, ?_⟩
  refine q_for ?_
  wtm_at "E"
  refine ⟨by omega, by omega, ?_⟩
  refine ⟨fun i ρ' μ' => ∃ (y9 : Option D) (c : Int) (cs' : List Int), ρ' = [some (.rdl (ns.map D.int)), some (.own k), some (.lst due15), y3, some (.lst (feL f)), y5, y6, some (feD K f), some (calD K ls), y9] ∧ μ' = hold μ0 k k2 c cs' ++ ext ∧ 0 ≤ c ∧ c ≤ 30000 + 10 * i ∧ cs'.length = cs.length, ⟨_, c3, cs3, rfl, rfl, by omega, by omega, n3⟩, fun _ _ _ _ _ => trivial, ?_, ?_⟩
  · rintro i d ρ' μ' hi ⟨y9, c4, cs4, rfl, rfl, c40, c41, n4⟩
    obtain ⟨hi2, rfl⟩ := rangeD_some hi
    have hi4 : i < 4 := by omega
    refine dg_name ?_
    refine q_when (dt_test (de_op (de_call hE ?_)))
    wtm_at "E"
    refine ⟨k, k2, c4, cs4, rfl, hdA _ c40 n4, by omega, fun r c5 cs5 r0 r1 hc5 hc5' hn5 => ?_⟩
    rw [hA _ _ _ _ _ c40 n4]
    have n5 : cs5.length = cs.length := by omega
    wtm_at "E"
    refine ⟨f, ls, _, _, rfl, gc, gf, by omega, by omega, by omega, ?_⟩
    wtm_at "E"
    refine ro_neD (.id _) (.id _) due15_shp due15_shp ?_
    rw [eqvD_refl due15_shp]
    refine ⟨_, rfl, fun z => (nomatch z), fun _ => ?_⟩
    refine s_when (dt_not (dt_truth (de_call hE ?_)))
    wtm_at "E"
    refine ⟨f, rfl, ?_⟩
    wtm_at "E"
    refine ⟨f, _, rfl, gf, .lst _, ?_⟩
    refine ⟨_, rfl, fun z => (nomatch z), fun _ => ?_⟩
    exact ⟨_, c5, cs5, rfl, rfl, by omega, by omega, n5⟩
  · rintro ρ' μ' ⟨y9, c4, cs4, rfl, rfl, c40, c41, n4⟩
    refine ds_ret ?_
    wtm_at "E"
    exact hfin c4 cs4 ext
end
local macro_rules | `(tactic| wtm_at "ln") => `(tactic| (intro ds μ P PX h; first | (obtain ⟨_, e, _⟩ := h; exact congrArg List.length e) | (obtain ⟨_, _, e, _⟩ := h; exact congrArg List.length e) | (obtain ⟨_, _, _, e, _⟩ := h; exact congrArg List.length e) | (obtain ⟨_, _, _, _, e, _⟩ := h; exact congrArg List.length e) | (obtain ⟨_, _, _, _, _, e, _⟩ := h; exact congrArg List.length e) | (obtain ⟨_, _, _, _, _, _, e, _⟩ := h; exact congrArg List.length e) | (obtain ⟨_, _, _, _, _, _, _, e, _⟩ := h; exact congrArg List.length e) | (obtain ⟨_, _, _, _, _, _, _, _, e, _⟩ := h; exact congrArg List.length e) | (obtain ⟨_, _, _, _, _, _, _, _, _, e, _⟩ := h; exact congrArg List.length e) | (obtain ⟨_, _, _, _, _, _, _, _, _, _, e, _⟩ := h; exact congrArg List.length e) | (obtain ⟨_, _, _, _, _, _, _, _, _, _, _, e, _⟩ := h; exact congrArg List.length e) | (obtain ⟨_, _, _, _, _, _, _, _, _, _, _, _, e, _⟩ := h; exact congrArg List.length e) | (obtain ⟨_, _, _, _, _, _, _, _, _, _, _, _, _, e, _⟩ := h; exact congrArg List.length e) | (obtain ⟨_, _, _, _, _, _, _, _, _, _, _, _, _, _, e, _⟩ := h; exact congrArg List.length e)))
local macro_rules | `(tactic| wtm_at "oi") => `(tactic| first | exact Or.inl rfl | exact Or.inr rfl)
structure FQ (P : Program) (w : World) (K : PySem.W.Frag) (mg : Str → Option Value) (base : Heap) (n : Nat) (f : Addr) (fd : FuncData) (ps : List Str) (C : CT) : Prop where
  F : FnOk P w K mg base (L2.CX P w) n f fd ps (spD K C)
  B : Binds K fd ps []
structure FG (P : Program) (w : World) (K : PySem.W.Frag) (mg : Str → Option Value) (base : Heap) (n : Nat) (f : Addr) (fd : FuncData) (ps : List Str) (C : CT) (x : Str) : Prop extends FQ P w K mg base n f fd ps C where
  m : mg x = some (.ref f)
  k : PySem.W.keepIn K (.ref f) = true
abbrev GD (K : PySem.W.Frag) (a b : Str) (s : Stmt) (f : Addr) (fd : FuncData) : Prop := FunD K a b (defArgs s) (defBody s) (defScope s) [] [] f fd
section
variable {P : Program} {w : World} {K : PySem.W.Frag} {mg : Str → Option Value} {base : Heap}
set_option maxHeartbeats 1000000
local macro_rules | `(tactic| wtm_at "pk") => `(tactic| exact passes_call (takes_of rfl rfl rfl rfl) (fun _ _ _ _ h => h))
local macro_rules | `(tactic| wtm_at "sn") => `(tactic| exact ⟨rfl, rfl, rfl, by decide +kernel, rfl, by decide +kernel, by decide +kernel⟩)
/-! ### the text, def by def -/
abbrev N_law_draw : List Str := ["_law_hold", "_law_many", "_law_spot", "_law_cell", "_law_mark"]
theorem sc_law_draw : FnScope N_law_draw ["_law_hold", "_law_many"] (defScope s_law_draw) := by wtm_at "sn"
theorem ok_law_draw {f : Addr} {fd : FuncData} (F : GD K "_law_draw" "_law_draw" s_law_draw f fd) (n_len : mg "len" = none) :
    FnOk P w K mg base (L2.CX P w) 1 f fd ["_law_hold", "_law_many"] (spD K (c_law_draw K)) :=
  fn_DD (t := t_law_draw K) F sc_law_draw (by wtm_at "ln") (by decide)
    (fun cdv A outer s H E hr => by exact
      (pss_cons (ps_set (i := 2) sc_law_draw.nd rfl (by wtm_at "oi") (pe_op op_modA (pe_ix ix_seq (pv 0) pe_int (fun _ _ => rfl)) (pe_callB call_len (by rfl) n_len (by decide +kernel) (pa_cons (pe_ix ix_seq (pv 0) pe_int (fun _ _ => rfl)) pa_nil))))
      (pss_cons (ps_set (i := 3) sc_law_draw.nd rfl (by wtm_at "oi") (pe_ix ix_seq (pe_ix ix_seq (pv 0) pe_int (fun _ _ => rfl)) (pv 2) (fun _ _ => rfl)))
      (pss_cons (ps_augS (pv 0) pe_int get_list pe_int ip_add set_list)
      (pss_cons (ps_if (pt_cmpR op_ge (pv 3) pe_int (nomark _)) (pss_cons (ps_asg (pe_op op_fdivA (pv 3) (pv 1)) (pg_sub (pe_ix ix_seq (pv 0) pe_int (fun _ _ => rfl)) (pv 2) set_list))
      (pss_one (ps_ret (pe_op op_modA (pv 3) (pv 1))))) pss_nil)
      (pss_cons (ps_set (i := 4) sc_law_draw.nd rfl (by wtm_at "oi") (pe_op op_modA (pe_op op_addA (pe_op op_modA (pv 3) pe_int) (pe_op op_mulA pe_int (pe_ix ix_seq (pv 0) pe_int (fun _ _ => rfl)))) pe_int))
      (pss_cons (ps_set (i := 4) sc_law_draw.nd rfl (by wtm_at "oi") (pe_op op_modA (pe_op op_mulA (pe_op op_modA (pe_op op_pow (pv 4) pe_int) pe_int) pe_int) pe_int))
      (pss_one (ps_ret (pe_op op_modA (pe_op op_fdivA (pe_op op_modA (pe_op op_pow (pe_op op_addA (pv 4) (pe_op op_mulA (pe_op op_modA (pv 3) pe_int) (pe_ix ix_seq (pv 0) pe_int (fun _ _ => rfl)))) pe_int) pe_int) pe_int) (pv 1)))))))))))
    (d_law_draw)
abbrev N_law_name : List Str := ["_law_hold", "_law_words", "_law_way", "_law_letters", "_law_k"]
theorem sc_law_name : FnScope N_law_name ["_law_hold"] (defScope s_law_name) := by wtm_at "sn"
theorem ok_law_name {f : Addr} {fd : FuncData} {f_law_draw : Addr} {fd_law_draw : FuncData} (F : GD K "_law_name" "_law_name" s_law_name f fd) (F_law_draw : FG P w K mg base 1 f_law_draw fd_law_draw ["_law_hold", "_law_many"] (c_law_draw K) "_law_draw") (n_range : mg "range" = none) :
    FnOk P w K mg base (L2.CX P w) 2 f fd ["_law_hold"] (spD K (c_law_name K)) :=
  fn_DD (t := t_law_name K) F sc_law_name (by wtm_at "ln") (by decide)
    (fun cdv A outer s H E hr => by exact
      (pss_cons (ps_set (i := 1) sc_law_name.nd rfl (by wtm_at "oi") (pe_lst (pa_cons pe_str (pa_cons pe_str (pa_cons pe_str (pa_cons pe_str (pa_cons pe_str (pa_cons pe_str (pa_cons pe_str (pa_cons pe_str pa_nil))))))))))
      (pss_cons (ps_set (i := 2) sc_law_name.nd rfl (by wtm_at "oi") (pe_call F_law_draw.F (hr.mono (by decide)) (by rfl) F_law_draw.m F_law_draw.k F_law_draw.B .nil (by wtm_at "pk") (pa_cons (pv 0) (pa_cons pe_int pa_nil))))
      (pss_cons (ps_if (pt_cmpR op_lt (pv 2) pe_int (nomark _)) (pss_one (ps_ret (pe_ix ix_seq (pv 1) (pv 2) (fun _ _ => rfl)))) pss_nil)
      (pss_cons (ps_set (i := 3) sc_law_name.nd rfl (by wtm_at "oi") pe_str)
      (pss_one (ps_ret (pe_bm PySem.F.plainAttrs_str PySem.F.slot_str_join PySem.F.type_str_join mt_join pe_str (pa_cons (pe_lc (own := [("_law_k", 4)]) (g := (gName 4)) (tt := tYes) (te := (tOp (rIx K) (tVar 3) (tCall (spD K (c_law_draw K)) [] E0 (tCons (tVar 0) (tCons (tC (.int 26)) tNil))))) (by rfl) sc_law_name.nd (pi_range1 (by rfl) n_range (pa_cons (pe_op op_addA pe_int (pe_call F_law_draw.F (hr.mono (by decide)) (by rfl) F_law_draw.m F_law_draw.k F_law_draw.B .nil (by wtm_at "pk") (pa_cons (pv 0) (pa_cons pe_int pa_nil)))) pa_nil)) (blkOk_by (own := [("_law_k", 4)]) (N := N_law_name) (sc := defScope s_law_name) (by decide +kernel)) (fun _ _ _ _ _ => by exact (pg_name (i := 4) sc_law_name.nd rfl (by wtm_at "oi"))) (fun _ _ _ _ _ => by exact pts_nil) (fun _ _ _ _ _ => by exact (pe_ix ix_seq (pv 3) (pe_call F_law_draw.F (hr.mono (by decide)) (by rfl) F_law_draw.m F_law_draw.k F_law_draw.B .nil passL (pa_cons (pv 0) (pa_cons pe_int pa_nil))) (fun _ _ => rfl)))) pa_nil)))))))))
    (d_law_name)
abbrev N_law_acts : List Str := ["_law_hold", "_law_found", "_law_k", "_law_word", "_law_one", "_law_sort"]
theorem sc_law_acts : FnScope N_law_acts ["_law_hold"] (defScope s_law_acts) := by wtm_at "sn"
theorem ok_law_acts {f : Addr} {fd : FuncData} {f_law_draw f_law_name : Addr} {fd_law_draw fd_law_name : FuncData} (F : GD K "_law_acts" "_law_acts" s_law_acts f fd) (F_law_draw : FG P w K mg base 1 f_law_draw fd_law_draw ["_law_hold", "_law_many"] (c_law_draw K) "_law_draw") (F_law_name : FG P w K mg base 2 f_law_name fd_law_name ["_law_hold"] (c_law_name K) "_law_name") (n_range : mg "range" = none) :
    FnOk P w K mg base (L2.CX P w) 3 f fd ["_law_hold"] (spD K (c_law_acts K)) :=
  fn_DD (t := t_law_acts K) F sc_law_acts (by wtm_at "ln") (by decide)
    (fun cdv A outer s H E hr => by exact
      (pss_cons (ps_set (i := 1) sc_law_acts.nd rfl (by wtm_at "oi") (pe_lst pa_nil))
      (pss_cons (ps_for (passes_of rfl) rfl (pi_range1 (by rfl) n_range (pa_cons (pe_call F_law_draw.F (hr.mono (by decide)) (by rfl) F_law_draw.m F_law_draw.k F_law_draw.B .nil (by wtm_at "pk") (pa_cons (pv 0) (pa_cons pe_int pa_nil))) pa_nil)) (pg_name (i := 2) sc_law_acts.nd rfl (by wtm_at "oi")) (pss_cons (ps_set (i := 3) sc_law_acts.nd rfl (by wtm_at "oi") (pe_call F_law_name.F (hr.mono (by decide)) (by rfl) F_law_name.m F_law_name.k F_law_name.B .nil (by wtm_at "pk") (pa_cons (pv 0) pa_nil)))
      (pss_one (ps_if (pt_cmpR op_notInA (pv 3) (pe_lc (own := [("_law_one", 4), ("_law_sort", 5)]) (g := (gTup K 2 (gCons (gName 4) (gCons (gName 5) gNil)))) (tt := tYes) (te := (tVar 4)) (by rfl) sc_law_acts.nd (pi_any (pv 1)) (blkOk_by (own := [("_law_one", 4), ("_law_sort", 5)]) (N := N_law_acts) (sc := defScope s_law_acts) (by decide +kernel)) (fun _ _ _ _ _ => by exact (pg_tup rfl (pgs_cons (pg_name (i := 4) sc_law_acts.nd rfl (by wtm_at "oi")) (pgs_cons (pg_name (i := 5) sc_law_acts.nd rfl (by wtm_at "oi")) pgs_nil)))) (fun _ _ _ _ _ => by exact pts_nil) (fun _ _ _ _ _ => by exact (pv 4))) (by rfl)) (pss_one (ps_expr (pe_bm PySem.F.plainAttrs_list PySem.F.slot_list_append PySem.F.type_list_append mt_append (pv 1) (pa_cons (pe_tup (pa_cons (pv 3) (pa_cons (pe_ix ix_seq (pe_lst (pa_cons pe_str (pa_cons pe_str pa_nil))) (pe_call F_law_draw.F (hr.mono (by decide)) (by rfl) F_law_draw.m F_law_draw.k F_law_draw.B .nil (by wtm_at "pk") (pa_cons (pv 0) (pa_cons pe_int pa_nil))) (fun _ _ => rfl)) pa_nil))) pa_nil)))) pss_nil))))
      (pss_one (ps_ret (pv 1))))))
    (d_law_acts)
abbrev N_law_kept : List Str := ["_law_hold", "_law_way", "_law_one", "_law_number"]
theorem sc_law_kept : FnScope N_law_kept ["_law_hold"] (defScope s_law_kept) := by wtm_at "sn"
theorem ok_law_kept {f : Addr} {fd : FuncData} {f_law_draw : Addr} {fd_law_draw : FuncData} (F : GD K "_law_kept" "_law_kept" s_law_kept f fd) (F_law_draw : FG P w K mg base 1 f_law_draw fd_law_draw ["_law_hold", "_law_many"] (c_law_draw K) "_law_draw") (n_list : mg "list" = none) (n_range : mg "range" = none) :
    FnOk P w K mg base (L2.CX P w) 2 f fd ["_law_hold"] (spD K (c_law_kept K)) :=
  fn_DD (t := t_law_kept K) F sc_law_kept (by wtm_at "ln") (by decide)
    (fun cdv A outer s H E hr => by exact
      (pss_cons (ps_set (i := 1) sc_law_kept.nd rfl (by wtm_at "oi") (pe_call F_law_draw.F (hr.mono (by decide)) (by rfl) F_law_draw.m F_law_draw.k F_law_draw.B .nil (by wtm_at "pk") (pa_cons (pv 0) (pa_cons pe_int pa_nil))))
      (pss_cons (ps_if (pt_cmpR (op_eqD hr.units) (pv 1) pe_int (nomark _)) (pss_one (ps_ret pe_non)) pss_nil)
      (pss_cons (ps_set (i := 2) sc_law_kept.nd rfl (by wtm_at "oi") (pe_call F_law_draw.F (hr.mono (by decide)) (by rfl) F_law_draw.m F_law_draw.k F_law_draw.B .nil (by wtm_at "pk") (pa_cons (pv 0) (pa_cons pe_int pa_nil))))
      (pss_cons (ps_if (pt_cmpR (op_eqD hr.units) (pv 1) pe_int (nomark _)) (pss_one (ps_ret (pe_ix ix_seq (pe_lst (pa_cons (pe_listRg rfl (by rfl) n_list (prg_1 (by rfl) n_range pe_int)) (pa_cons (pe_lst (pa_cons (pv 2) pa_nil)) (pa_cons (pe_lst (pa_cons pe_int pa_nil)) (pa_cons (pe_lst (pa_cons pe_int pa_nil)) pa_nil))))) (pe_call F_law_draw.F (hr.mono (by decide)) (by rfl) F_law_draw.m F_law_draw.k F_law_draw.B .nil (by wtm_at "pk") (pa_cons (pv 0) (pa_cons pe_int pa_nil))) (fun _ _ => rfl)))) pss_nil)
      (pss_one (ps_ret (pe_lc (own := [("_law_number", 3)]) (g := (gName 3)) (tt := (tOr (tTest (tOp (rEqD K) (tVar 3) (tVar 2))) (tTest (tOp (rEqD K) (tCall (spD K (c_law_draw K)) [] E0 (tCons (tVar 0) (tCons (tOp (rAddA K) (tC (.int 1)) (tVar 1)) tNil))) (tC (.int 0)))))) (te := (tVar 3)) (by rfl) sc_law_kept.nd (pi_range1 (by rfl) n_range (pa_cons pe_int pa_nil)) (blkOk_by (own := [("_law_number", 3)]) (N := N_law_kept) (sc := defScope s_law_kept) (by decide +kernel)) (fun _ _ _ _ _ => by exact (pg_name (i := 3) sc_law_kept.nd rfl (by wtm_at "oi"))) (fun _ _ _ _ _ => by exact (pts_one (PW.pt (pw_or (pt_cmpR (op_eqD hr.units) (pv 3) (pv 2) (nomark _)) (pw_or1 (pt_cmpR (op_eqD hr.units) (pe_call F_law_draw.F (hr.mono (by decide)) (by rfl) F_law_draw.m F_law_draw.k F_law_draw.B .nil passL (pa_cons (pv 0) (pa_cons (pe_op op_addA pe_int (pv 1)) pa_nil))) pe_int (nomark _))))))) (fun _ _ _ _ _ => by exact (pv 3))))))))))
    (d_law_kept)
abbrev N_law_feast : List Str := ["_law_hold", "_law_way", "_law_far_here", "_law_near", "_law_spot", "_law_lasts"]
theorem sc_law_feast : FnScope N_law_feast ["_law_hold"] (defScope s_law_feast) := by wtm_at "sn"
theorem ok_law_feast {f : Addr} {fd : FuncData} {f_law_draw f_law_acts f_law_kept f_law_name : Addr} {fd_law_draw fd_law_acts fd_law_kept fd_law_name : FuncData} (F : GD K "_law_feast" "_law_feast" s_law_feast f fd) (F_law_draw : FG P w K mg base 1 f_law_draw fd_law_draw ["_law_hold", "_law_many"] (c_law_draw K) "_law_draw") (F_law_acts : FG P w K mg base 3 f_law_acts fd_law_acts ["_law_hold"] (c_law_acts K) "_law_acts") (F_law_kept : FG P w K mg base 2 f_law_kept fd_law_kept ["_law_hold"] (c_law_kept K) "_law_kept") (F_law_name : FG P w K mg base 2 f_law_name fd_law_name ["_law_hold"] (c_law_name K) "_law_name") :
    FnOk P w K mg base (L2.CX P w) 4 f fd ["_law_hold"] (spD K (c_law_feast K)) :=
  fn_DD (t := t_law_feast K) F sc_law_feast (by wtm_at "ln") (by decide)
    (fun cdv A outer s H E hr => by exact
      (pss_cons (ps_set (i := 1) sc_law_feast.nd rfl (by wtm_at "oi") (pe_call F_law_draw.F (hr.mono (by decide)) (by rfl) F_law_draw.m F_law_draw.k F_law_draw.B .nil (by wtm_at "pk") (pa_cons (pv 0) (pa_cons pe_int pa_nil))))
      (pss_cons (ps_par (i := 2) (j := 3) (by rfl) sc_law_feast.nd rfl rfl (by decide) rfl rfl (pa_cons (pe_call F_law_draw.F (hr.mono (by decide)) (by rfl) F_law_draw.m F_law_draw.k F_law_draw.B .nil (by wtm_at "pk") (pa_cons (pv 0) (pa_cons pe_int pa_nil))) (pa_cons (pe_call F_law_draw.F (hr.mono (by decide)) (by rfl) F_law_draw.m F_law_draw.k F_law_draw.B .nil (by wtm_at "pk") (pa_cons (pv 0) (pa_cons pe_int pa_nil))) pa_nil)) (by rfl))
      (pss_cons (ps_set (i := 4) sc_law_feast.nd rfl (by wtm_at "oi") (pe_ix ix_seq (pe_lst (pa_cons (pv 2) (pa_cons (pv 3) (pa_cons (pe_op op_sub (pe_un un_neg pe_int) (pv 2)) (pa_cons (pe_op op_sub (pe_un un_neg pe_int) (pv 3)) (pa_cons pe_int (pa_cons (pe_un un_neg pe_int) pa_nil))))))) (pv 1) (fun _ _ => rfl)))
      (pss_cons (ps_set (i := 5) sc_law_feast.nd rfl (by wtm_at "oi") (pe_op op_addA pe_int (pe_call F_law_draw.F (hr.mono (by decide)) (by rfl) F_law_draw.m F_law_draw.k F_law_draw.B .nil (by wtm_at "pk") (pa_cons (pv 0) (pa_cons (pe_ix ix_seq (pe_lst (pa_cons pe_int (pa_cons pe_int (pa_cons pe_int (pa_cons pe_int pa_nil))))) (pe_call F_law_draw.F (hr.mono (by decide)) (by rfl) F_law_draw.m F_law_draw.k F_law_draw.B .nil (by wtm_at "pk") (pa_cons (pv 0) (pa_cons pe_int pa_nil))) (fun _ _ => rfl)) pa_nil)))))
      (pss_one (ps_ret (pe_lst (pa_cons (pe_call F_law_name.F (hr.mono (by decide)) (by rfl) F_law_name.m F_law_name.k F_law_name.B .nil (by wtm_at "pk") (pa_cons (pv 0) pa_nil)) (pa_cons (pv 4) (pa_cons (pv 5) (pa_cons (pe_call F_law_kept.F (hr.mono (by decide)) (by rfl) F_law_kept.m F_law_kept.k F_law_kept.B .nil (by wtm_at "pk") (pa_cons (pv 0) pa_nil)) (pa_cons (pe_call F_law_acts.F (hr.mono (by decide)) (by rfl) F_law_acts.m F_law_acts.k F_law_acts.B .nil (by wtm_at "pk") (pa_cons (pv 0) pa_nil)) pa_nil)))))))))))))
    (d_law_feast)
abbrev N_law_bad_name : List Str := ["_law_hold", "_law_way", "_law_good", "_law_spot", "_law_sign"]
theorem sc_law_bad_name : FnScope N_law_bad_name ["_law_hold"] (defScope s_law_bad_name) := by wtm_at "sn"
theorem ok_law_bad_name {f : Addr} {fd : FuncData} {f_law_draw f_law_name : Addr} {fd_law_draw fd_law_name : FuncData} (F : GD K "_law_bad_name" "_law_bad_name" s_law_bad_name f fd) (F_law_draw : FG P w K mg base 1 f_law_draw fd_law_draw ["_law_hold", "_law_many"] (c_law_draw K) "_law_draw") (F_law_name : FG P w K mg base 2 f_law_name fd_law_name ["_law_hold"] (c_law_name K) "_law_name") (n_len : mg "len" = none) :
    FnOk P w K mg base (L2.CX P w) 3 f fd ["_law_hold"] (spD K (c_law_bad_name K)) :=
  fn_DD (t := t_law_bad_name K) F sc_law_bad_name (by wtm_at "ln") (by decide)
    (fun cdv A outer s H E hr => by exact
      (pss_cons (ps_set (i := 1) sc_law_bad_name.nd rfl (by wtm_at "oi") (pe_call F_law_draw.F (hr.mono (by decide)) (by rfl) F_law_draw.m F_law_draw.k F_law_draw.B .nil (by wtm_at "pk") (pa_cons (pv 0) (pa_cons pe_int pa_nil))))
      (pss_cons (ps_set (i := 2) sc_law_bad_name.nd rfl (by wtm_at "oi") (pe_call F_law_name.F (hr.mono (by decide)) (by rfl) F_law_name.m F_law_name.k F_law_name.B .nil (by wtm_at "pk") (pa_cons (pv 0) pa_nil)))
      (pss_cons (ps_set (i := 3) sc_law_bad_name.nd rfl (by wtm_at "oi") (pe_call F_law_draw.F (hr.mono (by decide)) (by rfl) F_law_draw.m F_law_draw.k F_law_draw.B .nil (by wtm_at "pk") (pa_cons (pv 0) (pa_cons (pe_callB call_len (by rfl) n_len (by decide +kernel) (pa_cons (pv 2) pa_nil)) pa_nil))))
      (pss_cons (ps_if (pt_cmpR (op_eqD hr.units) (pv 1) pe_int (nomark _)) (pss_one (ps_ret pe_str)) pss_nil)
      (pss_cons (ps_if (pt_cmpR (op_eqD hr.units) (pv 1) pe_int (nomark _)) (pss_one (ps_ret (pe_op op_addA (pe_slice sl_any (pe_op op_addA (pv 2) pe_str) po_none (po_some pe_int)) (pe_ix ix_seq pe_str (pe_call F_law_draw.F (hr.mono (by decide)) (by rfl) F_law_draw.m F_law_draw.k F_law_draw.B .nil (by wtm_at "pk") (pa_cons (pv 0) (pa_cons pe_int pa_nil))) (fun _ _ => rfl))))) pss_nil)
      (pss_cons (ps_if (pt_cmpR op_lt (pv 1) pe_int (nomark _)) (pss_cons (ps_set (i := 4) sc_law_bad_name.nd rfl (by wtm_at "oi") (pe_ix ix_seq pe_str (pe_call F_law_draw.F (hr.mono (by decide)) (by rfl) F_law_draw.m F_law_draw.k F_law_draw.B .nil (by wtm_at "pk") (pa_cons (pv 0) (pa_cons pe_int pa_nil))) (fun _ _ => rfl)))
      (pss_one (ps_ret (pe_op op_addA (pe_op op_addA (pe_slice sl_any (pv 2) po_none (po_some (pv 3))) (pv 4)) (pe_slice sl_any (pv 2) (po_some (pe_op op_addA (pv 3) pe_int)) po_none))))) pss_nil)
      (pss_one (ps_ret (pe_ix ix_seq (pe_lst (pa_cons pe_non (pa_cons pe_int (pa_cons pe_bl (pa_cons (pe_tup (pa_cons pe_str pa_nil)) (pa_cons (pe_lst (pa_cons pe_str pa_nil)) pa_nil)))))) (pe_call F_law_draw.F (hr.mono (by decide)) (by rfl) F_law_draw.m F_law_draw.k F_law_draw.B .nil (by wtm_at "pk") (pa_cons (pv 0) (pa_cons pe_int pa_nil))) (fun _ _ => rfl)))))))))))
    (d_law_bad_name)
abbrev N_law_far : List Str := ["_law_hold", "_law_way", "_law_number", "_law_k"]
theorem sc_law_far : FnScope N_law_far ["_law_hold"] (defScope s_law_far) := by wtm_at "sn"
theorem ok_law_far {f : Addr} {fd : FuncData} {f_law_draw : Addr} {fd_law_draw : FuncData} (F : GD K "_law_far" "_law_far" s_law_far f fd) (F_law_draw : FG P w K mg base 1 f_law_draw fd_law_draw ["_law_hold", "_law_many"] (c_law_draw K) "_law_draw") (n_range : mg "range" = none) :
    FnOk P w K mg base (L2.CX P w) 2 f fd ["_law_hold"] (spD K (c_law_far K)) :=
  fn_DD (t := t_law_far K) F sc_law_far (by wtm_at "ln") (by decide)
    (fun cdv A outer s H E hr => by exact
      (pss_cons (ps_set (i := 1) sc_law_far.nd rfl (by wtm_at "oi") (pe_call F_law_draw.F (hr.mono (by decide)) (by rfl) F_law_draw.m F_law_draw.k F_law_draw.B .nil (by wtm_at "pk") (pa_cons (pv 0) (pa_cons pe_int pa_nil))))
      (pss_cons (ps_if (pt_cmpR op_lt (pv 1) pe_int (nomark _)) (pss_one (ps_ret (pe_call F_law_draw.F (hr.mono (by decide)) (by rfl) F_law_draw.m F_law_draw.k F_law_draw.B .nil (by wtm_at "pk") (pa_cons (pv 0) (pa_cons (pe_ix ix_seq (pe_lst (pa_cons pe_int (pa_cons pe_int pa_nil))) (pv 1) (fun _ _ => rfl)) pa_nil))))) pss_nil)
      (pss_cons (ps_set (i := 2) sc_law_far.nd rfl (by wtm_at "oi") pe_int)
      (pss_cons (ps_for (passes_of rfl) rfl (pi_range1 (by rfl) n_range (pa_cons pe_int pa_nil)) (pg_name (i := 3) sc_law_far.nd rfl (by wtm_at "oi")) (pss_one (ps_set (i := 2) sc_law_far.nd rfl (by wtm_at "oi") (pe_op op_addA (pe_op op_mulA (pv 2) pe_int) (pe_call F_law_draw.F (hr.mono (by decide)) (by rfl) F_law_draw.m F_law_draw.k F_law_draw.B .nil (by wtm_at "pk") (pa_cons (pv 0) (pa_cons pe_int pa_nil)))))))
      (pss_one (ps_ret (pv 2))))))))
    (d_law_far)
abbrev N_law_beyond : List Str := ["_law_hold"]
theorem sc_law_beyond : FnScope N_law_beyond ["_law_hold"] (defScope s_law_beyond) := by wtm_at "sn"
theorem ok_law_beyond {f : Addr} {fd : FuncData} {f_law_draw f_law_far : Addr} {fd_law_draw fd_law_far : FuncData} (F : GD K "_law_beyond" "_law_beyond" s_law_beyond f fd) (F_law_draw : FG P w K mg base 1 f_law_draw fd_law_draw ["_law_hold", "_law_many"] (c_law_draw K) "_law_draw") (F_law_far : FG P w K mg base 2 f_law_far fd_law_far ["_law_hold"] (c_law_far K) "_law_far") :
    FnOk P w K mg base (L2.CX P w) 3 f fd ["_law_hold"] (spD K (c_law_beyond K)) :=
  fn_DD (t := t_law_beyond K) F sc_law_beyond (by wtm_at "ln") (by decide)
    (fun cdv A outer s H E hr => by exact
      (pss_one (ps_ret (pe_op op_mulA (pe_call F_law_draw.F (hr.mono (by decide)) (by rfl) F_law_draw.m F_law_draw.k F_law_draw.B .nil (by wtm_at "pk") (pa_cons (pv 0) (pa_cons pe_int pa_nil))) (pe_call F_law_far.F (hr.mono (by decide)) (by rfl) F_law_far.m F_law_far.k F_law_far.B .nil (by wtm_at "pk") (pa_cons (pv 0) pa_nil))))))
    (d_law_beyond)
abbrev N_law_bad_years : List Str := ["_law_hold", "_law_way", "_law_one", "_law_good", "_law_number", "_law_spot", "_law_some"]
theorem sc_law_bad_years : FnScope N_law_bad_years ["_law_hold"] (defScope s_law_bad_years) := by wtm_at "sn"
theorem ok_law_bad_years {f : Addr} {fd : FuncData} {f_law_draw f_law_beyond : Addr} {fd_law_draw fd_law_beyond : FuncData} (F : GD K "_law_bad_years" "_law_bad_years" s_law_bad_years f fd) (F_law_draw : FG P w K mg base 1 f_law_draw fd_law_draw ["_law_hold", "_law_many"] (c_law_draw K) "_law_draw") (F_law_beyond : FG P w K mg base 3 f_law_beyond fd_law_beyond ["_law_hold"] (c_law_beyond K) "_law_beyond") (n_range : mg "range" = none) (n_len : mg "len" = none) (n_list : mg "list" = none) (n_tuple : mg "tuple" = none) :
    FnOk P w K mg base (L2.CX P w) 4 f fd ["_law_hold"] (spD K (c_law_bad_years K)) :=
  fn_DD (t := t_law_bad_years K) F sc_law_bad_years (by wtm_at "ln") (by decide)
    (fun cdv A outer s H E hr => by exact
      (pss_cons (ps_set (i := 1) sc_law_bad_years.nd rfl (by wtm_at "oi") (pe_call F_law_draw.F (hr.mono (by decide)) (by rfl) F_law_draw.m F_law_draw.k F_law_draw.B .nil (by wtm_at "pk") (pa_cons (pv 0) (pa_cons pe_int pa_nil))))
      (pss_cons (ps_set (i := 2) sc_law_bad_years.nd rfl (by wtm_at "oi") (pe_call F_law_draw.F (hr.mono (by decide)) (by rfl) F_law_draw.m F_law_draw.k F_law_draw.B .nil (by wtm_at "pk") (pa_cons (pv 0) (pa_cons pe_int pa_nil))))
      (pss_cons (by first | exact ps_setLc (i := 3) (own := [("_law_number", 4)]) (g := (gName 4)) (tt := (tOr (tTest (tOp (rEqD K) (tVar 4) (tVar 2))) (tTest (tOp (rEqD K) (tCall (spD K (c_law_draw K)) [] E0 (tCons (tVar 0) (tCons (tC (.int 2)) tNil))) (tC (.int 0)))))) (te := (tVar 4)) (by rfl) sc_law_bad_years.nd rfl rfl (sw_true rfl rfl rfl (by decide +kernel)) (pi_range1 (by rfl) n_range (pa_cons pe_int pa_nil)) (blkOk_by (own := [("_law_number", 4)]) (N := N_law_bad_years) (sc := defScope s_law_bad_years) (by decide +kernel)) (fun _ _ _ _ _ => by exact (pg_name (i := 4) sc_law_bad_years.nd rfl (by wtm_at "oi"))) (fun _ _ _ _ _ => by exact (pts_one (PW.pt (pw_or (pt_cmpR (op_eqD hr.units) (pv 4) (pv 2) (nomark _)) (pw_or1 (pt_cmpR (op_eqD hr.units) (pe_call F_law_draw.F (hr.mono (by decide)) (by rfl) F_law_draw.m F_law_draw.k F_law_draw.B .nil passL (pa_cons (pv 0) (pa_cons pe_int pa_nil))) pe_int (nomark _))))))) (fun _ _ _ _ _ => by exact (pv 4)) | exact ps_set (i := 3) sc_law_bad_years.nd rfl (by wtm_at "oi") (pe_lc (own := [("_law_number", 4)]) (g := (gName 4)) (tt := (tOr (tTest (tOp (rEqD K) (tVar 4) (tVar 2))) (tTest (tOp (rEqD K) (tCall (spD K (c_law_draw K)) [] E0 (tCons (tVar 0) (tCons (tC (.int 2)) tNil))) (tC (.int 0)))))) (te := (tVar 4)) (by rfl) sc_law_bad_years.nd (pi_range1 (by rfl) n_range (pa_cons pe_int pa_nil)) (blkOk_by (own := [("_law_number", 4)]) (N := N_law_bad_years) (sc := defScope s_law_bad_years) (by decide +kernel)) (fun _ _ _ _ _ => by exact (pg_name (i := 4) sc_law_bad_years.nd rfl (by wtm_at "oi"))) (fun _ _ _ _ _ => by exact (pts_one (PW.pt (pw_or (pt_cmpR (op_eqD hr.units) (pv 4) (pv 2) (nomark _)) (pw_or1 (pt_cmpR (op_eqD hr.units) (pe_call F_law_draw.F (hr.mono (by decide)) (by rfl) F_law_draw.m F_law_draw.k F_law_draw.B .nil passL (pa_cons (pv 0) (pa_cons pe_int pa_nil))) pe_int (nomark _))))))) (fun _ _ _ _ _ => by exact (pv 4))))
      (pss_cons (ps_set (i := 5) sc_law_bad_years.nd rfl (by wtm_at "oi") (pe_call F_law_draw.F (hr.mono (by decide)) (by rfl) F_law_draw.m F_law_draw.k F_law_draw.B .nil (by wtm_at "pk") (pa_cons (pv 0) (pa_cons (pe_callB call_len (by rfl) n_len (by decide +kernel) (pa_cons (pv 3) pa_nil)) pa_nil))))
      (pss_cons (ps_if (pt_cmpR op_lt (pv 1) pe_int (nomark _)) (pss_one (ps_ret (pe_ix ix_seq (pe_lst (pa_cons (pe_lst pa_nil) (pa_cons (pe_op op_addA (pe_listRg rfl (by rfl) n_list (prg_1 (by rfl) n_range pe_int)) (pe_lst (pa_cons (pe_op op_addA pe_int (pe_call F_law_draw.F (hr.mono (by decide)) (by rfl) F_law_draw.m F_law_draw.k F_law_draw.B .nil (by wtm_at "pk") (pa_cons (pv 0) (pa_cons pe_int pa_nil)))) pa_nil))) pa_nil))) (pv 1) (fun _ _ => rfl)))) pss_nil)
      (pss_cons (ps_if (pt_cmpR (op_eqD hr.units) (pv 1) pe_int (nomark _)) (pss_one (ps_ret (pe_op op_addA (pe_slice sl_any (pv 3) po_none (po_some (pe_op op_addA (pv 5) pe_int))) (pe_slice sl_any (pv 3) (po_some (pv 5)) po_none)))) pss_nil)
      (pss_cons (ps_if (pt_cmpR (op_eqD hr.units) (pv 1) pe_int (nomark _)) (pss_one (ps_ret (pe_op op_addA (pe_op op_addA (pe_slice sl_any (pv 3) po_none (po_some (pv 5))) (pe_lst (pa_cons (pe_op op_addA pe_int (pe_call F_law_beyond.F (hr.mono (by decide)) (by rfl) F_law_beyond.m F_law_beyond.k F_law_beyond.B .nil (by wtm_at "pk") (pa_cons (pv 0) pa_nil))) pa_nil))) (pe_slice sl_any (pv 3) (po_some (pe_op op_addA (pv 5) pe_int)) po_none)))) pss_nil)
      (pss_cons (ps_if (pt_cmpR (op_eqD hr.units) (pv 1) pe_int (nomark _)) (pss_one (ps_ret (pe_op op_addA (pe_op op_addA (pe_slice sl_any (pv 3) po_none (po_some (pv 5))) (pe_lst (pa_cons (pe_op op_sub (pe_un un_neg pe_int) (pe_call F_law_beyond.F (hr.mono (by decide)) (by rfl) F_law_beyond.m F_law_beyond.k F_law_beyond.B .nil (by wtm_at "pk") (pa_cons (pv 0) pa_nil))) pa_nil))) (pe_slice sl_any (pv 3) (po_some (pe_op op_addA (pv 5) pe_int)) po_none)))) pss_nil)
      (pss_cons (ps_if (pt_cmpR (op_eqD hr.units) (pv 1) pe_int (nomark _)) (pss_one (ps_ret (pe_op op_addA (pe_op op_addA (pe_slice sl_any (pv 3) po_none (po_some (pv 5))) (pe_lst (pa_cons (pe_ix ix_seq (pe_lst (pa_cons pe_bl (pa_cons pe_bl (pa_cons pe_non (pa_cons pe_str (pa_cons (pe_tup (pa_cons pe_int pa_nil)) pa_nil)))))) (pe_call F_law_draw.F (hr.mono (by decide)) (by rfl) F_law_draw.m F_law_draw.k F_law_draw.B .nil (by wtm_at "pk") (pa_cons (pv 0) (pa_cons pe_int pa_nil))) (fun _ _ => rfl)) pa_nil))) (pe_slice sl_any (pv 3) (po_some (pe_op op_addA (pv 5) pe_int)) po_none)))) pss_nil)
      (pss_cons (ps_if (pt_cmpR (op_eqD hr.units) (pv 1) pe_int (nomark _)) (pss_one (ps_ret (pe_tupleOf (by rfl) n_tuple (pv 3)))) pss_nil)
      (pss_cons (ps_if (pt_cmpR (op_eqD hr.units) (pv 1) pe_int (nomark _)) (pss_one (ps_ret (pe_ix ix_seq (pe_lst (pa_cons pe_int (pa_cons pe_int (pa_cons pe_bl (pa_cons pe_str (pa_cons (pe_disp (pps_cons pe_int pe_int pps_nil) rfl rfl (by simp) (by decide)) pa_nil)))))) (pe_call F_law_draw.F (hr.mono (by decide)) (by rfl) F_law_draw.m F_law_draw.k F_law_draw.B .nil (by wtm_at "pk") (pa_cons (pv 0) (pa_cons pe_int pa_nil))) (fun _ _ => rfl)))) pss_nil)
      (pss_cons (by first | exact ps_setLc (i := 6) (own := [("_law_number", 4)]) (g := (gName 4)) (tt := (tTest (tOp (rNeD K) (tVar 4) (tVar 2)))) (te := (tVar 4)) (by rfl) sc_law_bad_years.nd rfl rfl (sw_true rfl rfl rfl (by decide +kernel)) (pi_range1 (by rfl) n_range (pa_cons pe_int pa_nil)) (blkOk_by (own := [("_law_number", 4)]) (N := N_law_bad_years) (sc := defScope s_law_bad_years) (by decide +kernel)) (fun _ _ _ _ _ => by exact (pg_name (i := 4) sc_law_bad_years.nd rfl (by wtm_at "oi"))) (fun _ _ _ _ _ => by exact (pts_one (pt_cmpR (op_neD hr.units) (pv 4) (pv 2) (nomark _)))) (fun _ _ _ _ _ => by exact (pv 4)) | exact ps_set (i := 6) sc_law_bad_years.nd rfl (by wtm_at "oi") (pe_lc (own := [("_law_number", 4)]) (g := (gName 4)) (tt := (tTest (tOp (rNeD K) (tVar 4) (tVar 2)))) (te := (tVar 4)) (by rfl) sc_law_bad_years.nd (pi_range1 (by rfl) n_range (pa_cons pe_int pa_nil)) (blkOk_by (own := [("_law_number", 4)]) (N := N_law_bad_years) (sc := defScope s_law_bad_years) (by decide +kernel)) (fun _ _ _ _ _ => by exact (pg_name (i := 4) sc_law_bad_years.nd rfl (by wtm_at "oi"))) (fun _ _ _ _ _ => by exact (pts_one (pt_cmpR (op_neD hr.units) (pv 4) (pv 2) (nomark _)))) (fun _ _ _ _ _ => by exact (pv 4))))
      (pss_cons (ps_set (i := 5) sc_law_bad_years.nd rfl (by wtm_at "oi") (pe_call F_law_draw.F (hr.mono (by decide)) (by rfl) F_law_draw.m F_law_draw.k F_law_draw.B .nil (by wtm_at "pk") (pa_cons (pv 0) (pa_cons pe_int pa_nil))))
      (pss_one (ps_ret (pe_op op_addA (pe_op op_addA (pe_slice sl_any (pv 6) po_none (po_some (pv 5))) (pe_lst (pa_cons (pe_ix ix_seq (pv 6) (pe_op op_addA (pv 5) pe_int) (fun _ _ => rfl)) (pa_cons (pe_ix ix_seq (pv 6) (pv 5) (fun _ _ => rfl)) pa_nil)))) (pe_slice sl_any (pv 6) (po_some (pe_op op_addA (pv 5) pe_int)) po_none))))))))))))))))))
    (d_law_bad_years)
abbrev N_law_bad_puts : List Str := ["_law_hold", "_law_way", "_law_good", "_law_spot", "_law_word", "_law_sort"]
theorem sc_law_bad_puts : FnScope N_law_bad_puts ["_law_hold"] (defScope s_law_bad_puts) := by wtm_at "sn"
theorem ok_law_bad_puts {f : Addr} {fd : FuncData} {f_law_draw f_law_name f_law_bad_name : Addr} {fd_law_draw fd_law_name fd_law_bad_name : FuncData} (F : GD K "_law_bad_puts" "_law_bad_puts" s_law_bad_puts f fd) (F_law_draw : FG P w K mg base 1 f_law_draw fd_law_draw ["_law_hold", "_law_many"] (c_law_draw K) "_law_draw") (F_law_name : FG P w K mg base 2 f_law_name fd_law_name ["_law_hold"] (c_law_name K) "_law_name") (F_law_bad_name : FG P w K mg base 3 f_law_bad_name fd_law_bad_name ["_law_hold"] (c_law_bad_name K) "_law_bad_name") (n_tuple : mg "tuple" = none) :
    FnOk P w K mg base (L2.CX P w) 4 f fd ["_law_hold"] (spD K (c_law_bad_puts K)) :=
  fn_DD (t := t_law_bad_puts K) F sc_law_bad_puts (by wtm_at "ln") (by decide)
    (fun cdv A outer s H E hr => by exact
      (pss_cons (ps_set (i := 1) sc_law_bad_puts.nd rfl (by wtm_at "oi") (pe_call F_law_draw.F (hr.mono (by decide)) (by rfl) F_law_draw.m F_law_draw.k F_law_draw.B .nil (by wtm_at "pk") (pa_cons (pv 0) (pa_cons pe_int pa_nil))))
      (pss_cons (ps_set (i := 2) sc_law_bad_puts.nd rfl (by wtm_at "oi") (pe_lst (pa_cons (pe_tup (pa_cons (pe_op op_addA pe_str (pe_slice sl_any (pe_call F_law_name.F (hr.mono (by decide)) (by rfl) F_law_name.m F_law_name.k F_law_name.B .nil (by wtm_at "pk") (pa_cons (pv 0) pa_nil)) po_none (po_some pe_int))) (pa_cons pe_str pa_nil))) (pa_cons (pe_tup (pa_cons (pe_op op_addA pe_str (pe_slice sl_any (pe_call F_law_name.F (hr.mono (by decide)) (by rfl) F_law_name.m F_law_name.k F_law_name.B .nil (by wtm_at "pk") (pa_cons (pv 0) pa_nil)) po_none (po_some pe_int))) (pa_cons pe_str pa_nil))) (pa_cons (pe_tup (pa_cons pe_str (pa_cons pe_str pa_nil))) (pa_cons (pe_tup (pa_cons pe_str (pa_cons pe_str pa_nil))) pa_nil))))))
      (pss_cons (ps_set (i := 3) sc_law_bad_puts.nd rfl (by wtm_at "oi") (pe_call F_law_draw.F (hr.mono (by decide)) (by rfl) F_law_draw.m F_law_draw.k F_law_draw.B .nil (by wtm_at "pk") (pa_cons (pv 0) (pa_cons pe_int pa_nil))))
      (pss_cons (ps_asg (pe_ix ix_seq (pv 2) (pv 3) (fun _ _ => rfl)) (pg_tup rfl (pgs_cons (pg_name (i := 4) sc_law_bad_puts.nd rfl (by wtm_at "oi")) (pgs_cons (pg_name (i := 5) sc_law_bad_puts.nd rfl (by wtm_at "oi")) pgs_nil))))
      (pss_cons (ps_if (pt_cmpR (op_eqD hr.units) (pv 1) pe_int (nomark _)) (pss_one (ps_ret (pe_op op_addA (pv 2) (pe_lst (pa_cons (pe_tup (pa_cons pe_str (pa_cons pe_str pa_nil))) pa_nil))))) pss_nil)
      (pss_cons (ps_if (pt_cmpR (op_eqD hr.units) (pv 1) pe_int (nomark _)) (pss_one (ps_ret (pe_op op_addA (pe_slice sl_any (pv 2) po_none (po_some pe_int)) (pe_lst (pa_cons (pe_tup (pa_cons (pe_ix ix_seq (pe_ix ix_seq (pv 2) (pe_op op_modA (pv 3) pe_int) (fun _ _ => rfl)) pe_int (fun _ _ => rfl)) (pa_cons (pv 5) pa_nil))) pa_nil))))) pss_nil)
      (pss_cons (ps_if (pt_cmpR (op_eqD hr.units) (pv 1) pe_int (nomark _)) (pss_one (ps_asg (pe_tup (pa_cons (pv 4) (pa_cons (pe_ix ix_seq (pe_lst (pa_cons pe_str (pa_cons pe_str (pa_cons pe_str (pa_cons pe_str (pa_cons pe_non (pa_cons pe_int pa_nil))))))) (pe_call F_law_draw.F (hr.mono (by decide)) (by rfl) F_law_draw.m F_law_draw.k F_law_draw.B .nil (by wtm_at "pk") (pa_cons (pv 0) (pa_cons pe_int pa_nil))) (fun _ _ => rfl)) pa_nil))) (pg_sub (pv 2) (pv 3) set_list))) pss_nil)
      (pss_cons (ps_if (pt_cmpR (op_eqD hr.units) (pv 1) pe_int (nomark _)) (pss_one (ps_asg (pe_tup (pa_cons (pe_call F_law_bad_name.F (hr.mono (by decide)) (by rfl) F_law_bad_name.m F_law_bad_name.k F_law_bad_name.B .nil (by wtm_at "pk") (pa_cons (pv 0) pa_nil)) (pa_cons (pv 5) pa_nil))) (pg_sub (pv 2) (pv 3) set_list))) pss_nil)
      (pss_cons (ps_if (pt_cmpR (op_eqD hr.units) (pv 1) pe_int (nomark _)) (pss_one (ps_asg (pe_ix ix_seq (pe_lst (pa_cons (pe_lst (pa_cons (pv 4) (pa_cons (pv 5) pa_nil))) (pa_cons (pe_tup (pa_cons (pv 4) (pa_cons (pv 5) (pa_cons pe_str pa_nil)))) (pa_cons (pe_tup (pa_cons (pv 4) pa_nil)) (pa_cons (pv 4) (pa_cons pe_non (pa_cons (pe_tup (pa_cons (pv 5) (pa_cons (pv 4) pa_nil))) pa_nil))))))) (pe_call F_law_draw.F (hr.mono (by decide)) (by rfl) F_law_draw.m F_law_draw.k F_law_draw.B .nil (by wtm_at "pk") (pa_cons (pv 0) (pa_cons pe_int pa_nil))) (fun _ _ => rfl)) (pg_sub (pv 2) (pv 3) set_list))) pss_nil)
      (pss_cons (ps_if (pt_cmpR (op_eqD hr.units) (pv 1) pe_int (nomark _)) (pss_one (ps_ret (pe_tupleOf (by rfl) n_tuple (pv 2)))) pss_nil)
      (pss_cons (ps_if (pt_cmpR (op_eqD hr.units) (pv 1) pe_int (nomark _)) (pss_one (ps_ret (pe_ix ix_seq (pe_lst (pa_cons pe_int (pa_cons pe_bl (pa_cons pe_str (pa_cons (pe_disp (pps_cons pe_str pe_str pps_nil) rfl rfl (by simp) (by decide)) pa_nil))))) (pe_call F_law_draw.F (hr.mono (by decide)) (by rfl) F_law_draw.m F_law_draw.k F_law_draw.B .nil (by wtm_at "pk") (pa_cons (pv 0) (pa_cons pe_int pa_nil))) (fun _ _ => rfl)))) pss_nil)
      (pss_cons (ps_if (pt_cmpR (op_eqD hr.units) (pv 1) pe_int (nomark _)) (pss_one (ps_asg (pe_tup (pa_cons (pe_ix ix_seq (pe_ix ix_seq (pv 2) (pe_op op_sub (pv 3) pe_int) (fun _ _ => rfl)) pe_int (fun _ _ => rfl)) (pa_cons (pv 5) pa_nil))) (pg_sub (pv 2) (pv 3) set_list))) pss_nil)
      (pss_one (ps_ret (pv 2))))))))))))))))
    (d_law_bad_puts)
abbrev N_law_spoil : List Str := ["_law_some", "_law_which", "_law_hold", "_law_way"]
theorem sc_law_spoil : FnScope N_law_spoil ["_law_some", "_law_which", "_law_hold"] (defScope s_law_spoil) := by wtm_at "sn"
theorem ok_law_spoil {f : Addr} {fd : FuncData} {f_law_draw f_law_bad_name f_law_beyond f_law_bad_years f_law_bad_puts : Addr} {fd_law_draw fd_law_bad_name fd_law_beyond fd_law_bad_years fd_law_bad_puts : FuncData} (F : GD K "_law_spoil" "_law_spoil" s_law_spoil f fd) (F_law_draw : FG P w K mg base 1 f_law_draw fd_law_draw ["_law_hold", "_law_many"] (c_law_draw K) "_law_draw") (F_law_bad_name : FG P w K mg base 3 f_law_bad_name fd_law_bad_name ["_law_hold"] (c_law_bad_name K) "_law_bad_name") (F_law_beyond : FG P w K mg base 3 f_law_beyond fd_law_beyond ["_law_hold"] (c_law_beyond K) "_law_beyond") (F_law_bad_years : FG P w K mg base 4 f_law_bad_years fd_law_bad_years ["_law_hold"] (c_law_bad_years K) "_law_bad_years") (F_law_bad_puts : FG P w K mg base 4 f_law_bad_puts fd_law_bad_puts ["_law_hold"] (c_law_bad_puts K) "_law_bad_puts") :
    FnOk P w K mg base (L2.CX P w) 5 f fd ["_law_some", "_law_which", "_law_hold"] (spD K (c_law_spoil K)) :=
  fn_DD (t := t_law_spoil K) F sc_law_spoil (by wtm_at "ln") (by decide)
    (fun cdv A outer s H E hr => by exact
      (pss_cons (ps_set (i := 3) sc_law_spoil.nd rfl (by wtm_at "oi") (pe_call F_law_draw.F (hr.mono (by decide)) (by rfl) F_law_draw.m F_law_draw.k F_law_draw.B .nil (by wtm_at "pk") (pa_cons (pv 2) (pa_cons pe_int pa_nil))))
      (pss_one (ps_if (pt_cmpR (op_eqD hr.units) (pv 1) pe_int (nomark _)) (pss_one (ps_asg (pe_call F_law_bad_name.F (hr.mono (by decide)) (by rfl) F_law_bad_name.m F_law_bad_name.k F_law_bad_name.B .nil (by wtm_at "pk") (pa_cons (pv 2) pa_nil)) (pg_sub (pv 0) pe_int set_list))) (pss_one (ps_if (pt_cmpR (op_eqD hr.units) (pv 1) pe_int (nomark _)) (pss_one (ps_asg (pe_ix ix_seq (pe_lst (pa_cons (pe_op op_sub (pe_un un_neg pe_int) (pe_call F_law_beyond.F (hr.mono (by decide)) (by rfl) F_law_beyond.m F_law_beyond.k F_law_beyond.B .nil (by wtm_at "pk") (pa_cons (pv 2) pa_nil))) (pa_cons (pe_op op_addA pe_int (pe_call F_law_beyond.F (hr.mono (by decide)) (by rfl) F_law_beyond.m F_law_beyond.k F_law_beyond.B .nil (by wtm_at "pk") (pa_cons (pv 2) pa_nil))) (pa_cons pe_bl (pa_cons pe_non (pa_cons pe_str pa_nil)))))) (pv 3) (fun _ _ => rfl)) (pg_sub (pv 0) pe_int set_list))) (pss_one (ps_if (pt_cmpR (op_eqD hr.units) (pv 1) pe_int (nomark _)) (pss_one (ps_asg (pe_ix ix_seq (pe_lst (pa_cons (pe_op op_sub pe_int (pe_call F_law_beyond.F (hr.mono (by decide)) (by rfl) F_law_beyond.m F_law_beyond.k F_law_beyond.B .nil (by wtm_at "pk") (pa_cons (pv 2) pa_nil))) (pa_cons (pe_op op_addA pe_int (pe_call F_law_beyond.F (hr.mono (by decide)) (by rfl) F_law_beyond.m F_law_beyond.k F_law_beyond.B .nil (by wtm_at "pk") (pa_cons (pv 2) pa_nil))) (pa_cons pe_bl (pa_cons pe_non (pa_cons pe_str pa_nil)))))) (pv 3) (fun _ _ => rfl)) (pg_sub (pv 0) pe_int set_list))) (pss_one (ps_if (pt_cmpR (op_eqD hr.units) (pv 1) pe_int (nomark _)) (pss_one (ps_asg (pe_call F_law_bad_years.F (hr.mono (by decide)) (by rfl) F_law_bad_years.m F_law_bad_years.k F_law_bad_years.B .nil (by wtm_at "pk") (pa_cons (pv 2) pa_nil)) (pg_sub (pv 0) pe_int set_list))) (pss_one (ps_asg (pe_call F_law_bad_puts.F (hr.mono (by decide)) (by rfl) F_law_bad_puts.m F_law_bad_puts.k F_law_bad_puts.B .nil (by wtm_at "pk") (pa_cons (pv 2) pa_nil)) (pg_sub (pv 0) pe_int set_list)))))))))))))
    (d_law_spoil)
abbrev N_is_name : List Str := ["thing", "sign"]
theorem sc_is_name : FnScope N_is_name ["thing"] (defScope s_is_name) := by wtm_at "sn"
theorem ok_is_name {f : Addr} {fd : FuncData} (F : GD K "is_name" "is_name" s_is_name f fd) (n_str : mg "str" = none) (n_isinstance : mg "isinstance" = none) (n_len : mg "len" = none) (k_LETTERS : ∃ t, mg "LETTERS" = some (.str "abcdefghijklmnopqrstuvwxyz" t)) (n_all : mg "all" = none) :
    FnOk P w K mg base (L2.CX P w) 1 f fd ["thing"] (spD K (c_is_name K)) :=
  fn_DD (t := t_is_name K) F sc_is_name (by wtm_at "ln") (by decide)
    (fun cdv A outer s H E hr => by exact
      (pss_cons (ps_if (PW.pt (pw_or (pt_not (pt_truth (pe_callB call_isi (by rfl) n_isinstance (by decide +kernel) (pa_cons (pv 0) (pa_cons (pe_bltn (v := .ty "str") (by rfl) n_str (by decide +kernel) rfl) pa_nil))) (by intro _; rfl))) (pw_or1 (pt_not (pt_chain op_le op_le pe_int (pe_callB call_len (by rfl) n_len (by decide +kernel) (pa_cons (pv 0) pa_nil)) pe_int))))) (pss_one (ps_ret pe_bl)) pss_nil)
      (pss_one (ps_ret (pe_callB (cr_all rfl) (by rfl) n_all (by decide +kernel) (pa_cons (pe_lc (own := [("sign", 1)]) (g := (gName 1)) (tt := tYes) (te := (tOp (rInA K) (tVar 1) (tC (.str "abcdefghijklmnopqrstuvwxyz")))) (by rfl) sc_is_name.nd (pi_any (pv 0)) (blkOk_by (own := [("sign", 1)]) (N := N_is_name) (sc := defScope s_is_name) (by decide +kernel)) (fun _ _ _ _ _ => by exact (pg_name (i := 1) sc_is_name.nd rfl (by wtm_at "oi"))) (fun _ _ _ _ _ => by exact pts_nil) (fun _ _ _ _ _ => by exact (pe_cmpR op_inA (pv 1) (pe_glob (v := .str "abcdefghijklmnopqrstuvwxyz") (by rfl) k_LETTERS.choose_spec ⟨_, rfl⟩) (by rfl)))) pa_nil))))))
    (d_is_name)
abbrev N_is_number : List Str := ["thing", "least", "most"]
theorem sc_is_number : FnScope N_is_number ["thing", "least", "most"] (defScope s_is_number) := by wtm_at "sn"
theorem ok_is_number {f : Addr} {fd : FuncData} (F : GD K "is_number" "is_number" s_is_number f fd) (n_int : mg "int" = none) (n_isinstance : mg "isinstance" = none) (n_bool : mg "bool" = none) :
    FnOk P w K mg base (L2.CX P w) 1 f fd ["thing", "least", "most"] (spD K (c_is_number K)) :=
  fn_DD (t := t_is_number K) F sc_is_number (by wtm_at "ln") (by decide)
    (fun cdv A outer s H E hr => by exact
      (pss_one (ps_ret (pe_and (pe_callB call_isi (by rfl) n_isinstance (by decide +kernel) (pa_cons (pv 0) (pa_cons (pe_bltn (v := .ty "int") (by rfl) n_int (by decide +kernel) rfl) pa_nil))) (pe_and (pe_not (pe_callB call_isi (by rfl) n_isinstance (by decide +kernel) (pa_cons (pv 0) (pa_cons (pe_bltn (v := .ty "bool") (by rfl) n_bool (by decide +kernel) rfl) pa_nil)))) (pe_one (pe_chain op_le op_le (pv 1) (pv 0) (pv 2))))))))
    (d_is_number)
abbrev N_are_numbers : List Str := ["thing", "long", "least", "most", "one"]
theorem sc_are_numbers : FnScope N_are_numbers ["thing", "long", "least", "most"] (defScope s_are_numbers) := by wtm_at "sn"
theorem ok_are_numbers {f : Addr} {fd : FuncData} {f_is_number : Addr} {fd_is_number : FuncData} (F : GD K "are_numbers" "are_numbers" s_are_numbers f fd) (F_is_number : FG P w K mg base 1 f_is_number fd_is_number ["thing", "least", "most"] (c_is_number K) "is_number") (n_list : mg "list" = none) (n_isinstance : mg "isinstance" = none) (n_len : mg "len" = none) (n_all : mg "all" = none) :
    FnOk P w K mg base (L2.CX P w) 2 f fd ["thing", "long", "least", "most"] (spD K (c_are_numbers K)) :=
  fn_DD (t := t_are_numbers K) F sc_are_numbers (by wtm_at "ln") (by decide)
    (fun cdv A outer s H E hr => by exact
      (pss_cons (ps_if (PW.pt (pw_or (pt_not (pt_truth (pe_callB call_isi (by rfl) n_isinstance (by decide +kernel) (pa_cons (pv 0) (pa_cons (pe_bltn (v := .ty "list") (by rfl) n_list (by decide +kernel) rfl) pa_nil))) (by intro _; rfl))) (pw_or1 (pt_not (pt_chain op_le op_le pe_int (pe_callB call_len (by rfl) n_len (by decide +kernel) (pa_cons (pv 0) pa_nil)) (pv 1)))))) (pss_one (ps_ret pe_bl)) pss_nil)
      (pss_one (ps_ret (pe_callB (cr_all rfl) (by rfl) n_all (by decide +kernel) (pa_cons (pe_lc (own := [("one", 4)]) (g := (gName 4)) (tt := tYes) (te := (tCall (spD K (c_is_number K)) [] E0 (tCons (tVar 4) (tCons (tVar 2) (tCons (tVar 3) tNil))))) (by rfl) sc_are_numbers.nd (pi_any (pv 0)) (blkOk_by (own := [("one", 4)]) (N := N_are_numbers) (sc := defScope s_are_numbers) (by decide +kernel)) (fun _ _ _ _ _ => by exact (pg_name (i := 4) sc_are_numbers.nd rfl (by wtm_at "oi"))) (fun _ _ _ _ _ => by exact pts_nil) (fun _ _ _ _ _ => by exact (pe_call F_is_number.F (hr.mono (by decide)) (by rfl) F_is_number.m F_is_number.k F_is_number.B .nil passL (pa_cons (pv 4) (pa_cons (pv 2) (pa_cons (pv 3) pa_nil)))))) pa_nil))))))
    (d_are_numbers)
abbrev N_good_years : List Str := ["years", "k"]
theorem sc_good_years : FnScope N_good_years ["years"] (defScope s_good_years) := by wtm_at "sn"
theorem ok_good_years {f : Addr} {fd : FuncData} {f_are_numbers : Addr} {fd_are_numbers : FuncData} (F : GD K "good_years" "good_years" s_good_years f fd) (F_are_numbers : FG P w K mg base 2 f_are_numbers fd_are_numbers ["thing", "long", "least", "most"] (c_are_numbers K) "are_numbers") (n_len : mg "len" = none) (n_range : mg "range" = none) (n_all : mg "all" = none) :
    FnOk P w K mg base (L2.CX P w) 3 f fd ["years"] (spD K (c_good_years K)) :=
  fn_DD (t := t_good_years K) F sc_good_years (by wtm_at "ln") (by decide)
    (fun cdv A outer s H E hr => by exact
      (pss_cons (ps_if (pt_cmp (pc_isN (pv 0)) rfl) (pss_one (ps_ret pe_bl)) pss_nil)
      (pss_one (ps_ret (pe_and (pe_call F_are_numbers.F (hr.mono (by decide)) (by rfl) F_are_numbers.m F_are_numbers.k F_are_numbers.B .nil (by wtm_at "pk") (pa_cons (pv 0) (pa_cons pe_int (pa_cons pe_int (pa_cons pe_int pa_nil))))) (pe_one (pe_callB (cr_all rfl) (by rfl) n_all (by decide +kernel) (pa_cons (pe_lc (own := [("k", 1)]) (g := (gName 1)) (tt := tYes) (te := (tOp (rI0 fun i j => .bl (decide (i < j))) (tOp (rIx K) (tVar 0) (tVar 1)) (tOp (rIx K) (tVar 0) (tOp (rAddA K) (tVar 1) (tC (.int 1)))))) (by rfl) sc_good_years.nd (pi_range1 (by rfl) n_range (pa_cons (pe_op op_sub (pe_callB call_len (by rfl) n_len (by decide +kernel) (pa_cons (pv 0) pa_nil)) pe_int) pa_nil)) (blkOk_by (own := [("k", 1)]) (N := N_good_years) (sc := defScope s_good_years) (by decide +kernel)) (fun _ _ _ _ _ => by exact (pg_name (i := 1) sc_good_years.nd rfl (by wtm_at "oi"))) (fun _ _ _ _ _ => by exact pts_nil) (fun _ _ _ _ _ => by exact (pe_cmpR op_lt (pe_ix ix_seq (pv 0) (pv 1) (fun _ _ => rfl)) (pe_ix ix_seq (pv 0) (pe_op op_addA (pv 1) pe_int) (fun _ _ => rfl)) (nomark _)))) pa_nil))))))))
    (d_good_years)
abbrev N_is_put : List Str := ["pair"]
theorem sc_is_put : FnScope N_is_put ["pair"] (defScope s_is_put) := by wtm_at "sn"
theorem ok_is_put {f : Addr} {fd : FuncData} {f_is_name : Addr} {fd_is_name : FuncData} (F : GD K "is_put" "is_put" s_is_put f fd) (F_is_name : FG P w K mg base 1 f_is_name fd_is_name ["thing"] (c_is_name K) "is_name") (n_tuple : mg "tuple" = none) (n_isinstance : mg "isinstance" = none) (n_len : mg "len" = none) :
    FnOk P w K mg base (L2.CX P w) 2 f fd ["pair"] (spD K (c_is_put K)) :=
  fn_DD (t := t_is_put K) F sc_is_put (by wtm_at "ln") (by decide)
    (fun cdv A outer s H E hr => by exact
      (pss_one (ps_ret (pe_and (pe_callB call_isi (by rfl) n_isinstance (by decide +kernel) (pa_cons (pv 0) (pa_cons (pe_bltn (v := .ty "tuple") (by rfl) n_tuple (by decide +kernel) rfl) pa_nil))) (pe_and (pe_cmpR (op_eqD hr.units) (pe_callB call_len (by rfl) n_len (by decide +kernel) (pa_cons (pv 0) pa_nil)) pe_int (nomark _)) (pe_and (pe_call F_is_name.F (hr.mono (by decide)) (by rfl) F_is_name.m F_is_name.k F_is_name.B .nil (by wtm_at "pk") (pa_cons (pe_ix ix_seq (pv 0) pe_int (fun _ _ => rfl)) pa_nil)) (pe_one (pe_cmpR op_inA (pe_ix ix_seq (pv 0) pe_int (fun _ _ => rfl)) (pe_tup (pa_cons pe_str (pa_cons pe_str pa_nil))) (by rfl)))))))))
    (d_is_put)
abbrev N_good_puts : List Str := ["puts", "pair", "name", "sort"]
theorem sc_good_puts : FnScope N_good_puts ["puts"] (defScope s_good_puts) := by wtm_at "sn"
theorem ok_good_puts {f : Addr} {fd : FuncData} {f_is_put : Addr} {fd_is_put : FuncData} (F : GD K "good_puts" "good_puts" s_good_puts f fd) (F_is_put : FG P w K mg base 2 f_is_put fd_is_put ["pair"] (c_is_put K) "is_put") (n_list : mg "list" = none) (n_isinstance : mg "isinstance" = none) (n_len : mg "len" = none) (n_all : mg "all" = none) (n_set : mg "set" = none) :
    FnOk P w K mg base (L2.CX P w) 3 f fd ["puts"] (spD K (c_good_puts K)) :=
  fn_DD (t := t_good_puts K) F sc_good_puts (by wtm_at "ln") (by decide)
    (fun cdv A outer s H E hr => by exact
      (pss_cons (ps_if (pt_cmp (pc_isN (pv 0)) rfl) (pss_one (ps_ret pe_bl)) pss_nil)
      (pss_cons (ps_if (PW.pt (pw_or (pt_not (pt_truth (pe_callB call_isi (by rfl) n_isinstance (by decide +kernel) (pa_cons (pv 0) (pa_cons (pe_bltn (v := .ty "list") (by rfl) n_list (by decide +kernel) rfl) pa_nil))) (by intro _; rfl))) (pw_or (pt_cmpR op_gt (pe_callB call_len (by rfl) n_len (by decide +kernel) (pa_cons (pv 0) pa_nil)) pe_int (nomark _)) (pw_or1 (pt_not (pt_truth (pe_callB (cr_all rfl) (by rfl) n_all (by decide +kernel) (pa_cons (pe_lc (own := [("pair", 1)]) (g := (gName 1)) (tt := tYes) (te := (tCall (spD K (c_is_put K)) [] E0 (tCons (tVar 1) tNil))) (by rfl) sc_good_puts.nd (pi_any (pv 0)) (blkOk_by (own := [("pair", 1)]) (N := N_good_puts) (sc := defScope s_good_puts) (by decide +kernel)) (fun _ _ _ _ _ => by exact (pg_name (i := 1) sc_good_puts.nd rfl (by wtm_at "oi"))) (fun _ _ _ _ _ => by exact pts_nil) (fun _ _ _ _ _ => by exact (pe_call F_is_put.F (hr.mono (by decide)) (by rfl) F_is_put.m F_is_put.k F_is_put.B .nil passL (pa_cons (pv 1) pa_nil)))) pa_nil)) (by intro _; rfl))))))) (pss_one (ps_ret pe_bl)) pss_nil)
      (pss_one (ps_ret (pe_cmpR (op_eqD hr.units) (pe_lenSetS (by rfl) n_len (by rfl) n_set (pe_lc (own := [("name", 2), ("sort", 3)]) (g := (gTup K 2 (gCons (gName 2) (gCons (gName 3) gNil)))) (tt := tYes) (te := (tVar 2)) (by rfl) sc_good_puts.nd (pi_any (pv 0)) (blkOk_by (own := [("name", 2), ("sort", 3)]) (N := N_good_puts) (sc := defScope s_good_puts) (by decide +kernel)) (fun _ _ _ _ _ => by exact (pg_tup rfl (pgs_cons (pg_name (i := 2) sc_good_puts.nd rfl (by wtm_at "oi")) (pgs_cons (pg_name (i := 3) sc_good_puts.nd rfl (by wtm_at "oi")) pgs_nil)))) (fun _ _ _ _ _ => by exact pts_nil) (fun _ _ _ _ _ => by exact (pv 2)))) (pe_callB call_len (by rfl) n_len (by decide +kernel) (pa_cons (pv 0) pa_nil)) (nomark _)))))))
    (d_good_puts)
abbrev N_Feast_init : List Str := ["self", "name", "place", "days", "years", "puts"]
theorem sc_Feast_init : FnScope N_Feast_init ["self", "name", "place", "days", "years", "puts"] (defScope s_Feast_init) := by wtm_at "sn"
theorem ok_Feast_init {f : Addr} {fd : FuncData} {f_is_name f_is_number f_good_years f_good_puts : Addr} {fd_is_name fd_is_number fd_good_years fd_good_puts : FuncData} (F : FunD K "__init__" "Feast.__init__" (defArgs s_Feast_init) (defBody s_Feast_init) (defScope s_Feast_init) [.int (1), .non, .non] [] f fd) (F_is_name : FG P w K mg base 1 f_is_name fd_is_name ["thing"] (c_is_name K) "is_name") (F_is_number : FG P w K mg base 1 f_is_number fd_is_number ["thing", "least", "most"] (c_is_number K) "is_number") (F_good_years : FG P w K mg base 3 f_good_years fd_good_years ["years"] (c_good_years K) "good_years") (F_good_puts : FG P w K mg base 3 f_good_puts fd_good_puts ["puts"] (c_good_puts K) "good_puts") (x_BadFeast : ExC K mg "BadFeast") (n_list : mg "list" = none) (kf : KFe K) :
    FnOk P w K mg base (L2.CX P w) 4 f fd ["self", "name", "place", "days", "years", "puts"] (spD K (c_Feast_init K)) :=
  fn_DD (t := t_Feast_init K) F sc_Feast_init (by wtm_at "ln") (by decide)
    (fun cdv A outer s H E hr => by exact
      (pss_cons (ps_if (PW.pt (pw_or (pt_not (pt_truth (pe_call F_is_name.F (hr.mono (by decide)) (by rfl) F_is_name.m F_is_name.k F_is_name.B .nil (by wtm_at "pk") (pa_cons (pv 1) pa_nil)) (by intro _; rfl))) (pw_or (pt_not (pt_truth (pe_call F_is_number.F (hr.mono (by decide)) (by rfl) F_is_number.m F_is_number.k F_is_number.B .nil (by wtm_at "pk") (pa_cons (pv 2) (pa_cons (pe_un un_neg pe_int) (pa_cons pe_int pa_nil)))) (by intro _; rfl))) (pw_or1 (pt_not (pt_truth (pe_call F_is_number.F (hr.mono (by decide)) (by rfl) F_is_number.m F_is_number.k F_is_number.B .nil (by wtm_at "pk") (pa_cons (pv 3) (pa_cons pe_int (pa_cons pe_int pa_nil)))) (by intro _; rfl))))))) (pss_one (ps_raise rfl (takes_of rfl rfl rfl rfl) (pmk_own PySem.F.excBase_ValueError x_BadFeast.xc x_BadFeast.gc x_BadFeast.kc (raises_own x_BadFeast.bc x_BadFeast.tc) (by rfl)))) pss_nil)
      (pss_cons (ps_if (PW.pt (pw_or (pt_not (pt_truth (pe_call F_good_years.F (hr.mono (by decide)) (by rfl) F_good_years.m F_good_years.k F_good_years.B .nil (by wtm_at "pk") (pa_cons (pv 4) pa_nil)) (by intro _; rfl))) (pw_or1 (pt_not (pt_truth (pe_call F_good_puts.F (hr.mono (by decide)) (by rfl) F_good_puts.m F_good_puts.k F_good_puts.B .nil (by wtm_at "pk") (pa_cons (pv 5) pa_nil)) (by intro _; rfl)))))) (pss_one (ps_raise rfl (takes_of rfl rfl rfl rfl) (pmk_own PySem.F.excBase_ValueError x_BadFeast.xc x_BadFeast.gc x_BadFeast.kc (raises_own x_BadFeast.bc x_BadFeast.tc) (by rfl)))) pss_nil)
      (pss_cons (ps_fld (pv 0) (pv 1) rfl)
      (pss_cons (ps_fld (pv 0) (pv 2) rfl)
      (pss_cons (ps_fld (pv 0) (pv 3) rfl)
      (pss_cons (ps_fld (pv 0) (pe_ifExp (pt_cmp (pc_isN (pv 4)) rfl) pe_non (pe_callTy call_list_of (by rfl) n_list (by decide +kernel) (pa_cons (pv 4) pa_nil))) rfl)
      (pss_one (ps_fld (pv 0) (pe_ifExp (pt_cmp (pc_isN (pv 5)) rfl) (pe_lst pa_nil) (pe_callTy call_list_of (by rfl) n_list (by decide +kernel) (pa_cons (pv 5) pa_nil))) rfl)))))))))
    (d_Feast_init kf)
abbrev N_law_bad : List Str := ["_law_some", "_law_told", "e"]
theorem sc_law_bad : FnScope N_law_bad ["_law_some"] (defScope s_law_bad) := by wtm_at "sn"
theorem ok_law_bad {f : Addr} {fd : FuncData} {f_Feast_init : Addr} {fd_Feast_init : FuncData} (F : GD K "_law_bad" "_law_bad" s_law_bad f fd) (F_Feast_init : FQ P w K mg base 4 f_Feast_init fd_Feast_init ["self", "name", "place", "days", "years", "puts"] (c_Feast_init K)) (M_Feast : Mk K (He.ga K "Feast") f_Feast_init) (g_ReadError : mg "ReadError" = some (.ref (He.ga K "ReadError"))) (g_Feast : mg "Feast" = some (.ref (He.ga K "Feast"))) (g_BadCalendar : mg "BadCalendar" = some (.ref (He.ga K "BadCalendar"))) (n_isinstance : mg "isinstance" = none) (g_BadBook : mg "BadBook" = some (.ref (He.ga K "BadBook"))) (g_BadFeast : mg "BadFeast" = some (.ref (He.ga K "BadFeast"))) (n_ValueError : mg "ValueError" = none) (g_BadText : mg "BadText" = some (.ref (He.ga K "BadText"))) (g_BadRow : mg "BadRow" = some (.ref (He.ga K "BadRow"))) (g_BadNumber : mg "BadNumber" = some (.ref (He.ga K "BadNumber"))) (g_BadHouse : mg "BadHouse" = some (.ref (He.ga K "BadHouse"))) (g_NoPiece : mg "NoPiece" = some (.ref (He.ga K "NoPiece"))) (g_NoDeed : mg "NoDeed" = some (.ref (He.ga K "NoDeed"))) (g_NoDay : mg "NoDay" = some (.ref (He.ga K "NoDay"))) (g_NeverDone : mg "NeverDone" = some (.ref (He.ga K "NeverDone"))) (g_TooTight : mg "TooTight" = some (.ref (He.ga K "TooTight"))) (g_TooFar : mg "TooFar" = some (.ref (He.ga K "TooFar"))) (g_NoRow : mg "NoRow" = some (.ref (He.ga K "NoRow"))) (kx : KExc K excNames) :
    FnOk P w K mg base (L2.CX P w) 6 f fd ["_law_some"] (spD K (c_law_bad K)) :=
  fn_DD (t := t_law_bad K) F sc_law_bad (by wtm_at "ln") (by decide)
    (fun cdv A outer s H E hr => by exact
      (pss_cons (ps_set (i := 1) sc_law_bad.nd rfl (by wtm_at "oi") (pe_lst pa_nil))
      (pss_cons (ps_try_kp (i := 2) rfl rfl rfl sc_law_bad.nd rfl rfl ⟨(by rfl), (by decide), .inl g_ReadError⟩ LamX.takes0 (fun W pn xe tk po => by exact (pss_one (ps_expr (pe_makeS M_Feast F_Feast_init.F (hr.mono (by decide)) (by rfl) g_Feast F_Feast_init.B .nil (fun σ => passAt tk σ) (pa_cons (pe_ix ix_seq (pv 0) pe_int (fun _ _ => rfl)) (pa_cons (pe_ix ix_seq (pv 0) pe_int (fun _ _ => rfl)) (pa_cons (pe_ix ix_seq (pv 0) pe_int (fun _ _ => rfl)) (pa_cons (pe_ix ix_seq (pv 0) pe_int (fun _ _ => rfl)) (pa_cons (pe_ix ix_seq (pv 0) pe_int (fun _ _ => rfl)) pa_nil))))))))) (fun a pn => by exact (pss_cons (ps_set (i := 1) sc_law_bad.nd rfl (by wtm_at "oi") (pe_lst (pa_cons (pe_callB call_isX (by rfl) n_isinstance (by decide +kernel) (pa_cons (pv 2) (pa_cons (pe_bltn (v := .ty "ValueError") (by rfl) n_ValueError (by decide +kernel) rfl) pa_nil))) (pa_cons (pe_callB call_isX (by rfl) n_isinstance (by decide +kernel) (pa_cons (pv 2) (pa_cons (pe_glob (v := .ref (He.ga K "BadFeast")) (by rfl) g_BadFeast rfl) pa_nil))) (pa_cons (pe_callB call_isX (by rfl) n_isinstance (by decide +kernel) (pa_cons (pv 2) (pa_cons (pe_glob (v := .ref (He.ga K "BadBook")) (by rfl) g_BadBook rfl) pa_nil))) (pa_cons (pe_callB call_isX (by rfl) n_isinstance (by decide +kernel) (pa_cons (pv 2) (pa_cons (pe_glob (v := .ref (He.ga K "BadCalendar")) (by rfl) g_BadCalendar rfl) pa_nil))) pa_nil))))))
      (pss_cons (ps_set (i := 1) sc_law_bad.nd rfl (by wtm_at "oi") (pe_op op_addA (pv 1) (pe_lst (pa_cons (pe_callB call_isX (by rfl) n_isinstance (by decide +kernel) (pa_cons (pv 2) (pa_cons (pe_glob (v := .ref (He.ga K "BadHouse")) (by rfl) g_BadHouse rfl) pa_nil))) (pa_cons (pe_callB call_isX (by rfl) n_isinstance (by decide +kernel) (pa_cons (pv 2) (pa_cons (pe_glob (v := .ref (He.ga K "BadNumber")) (by rfl) g_BadNumber rfl) pa_nil))) (pa_cons (pe_callB call_isX (by rfl) n_isinstance (by decide +kernel) (pa_cons (pv 2) (pa_cons (pe_glob (v := .ref (He.ga K "BadRow")) (by rfl) g_BadRow rfl) pa_nil))) (pa_cons (pe_callB call_isX (by rfl) n_isinstance (by decide +kernel) (pa_cons (pv 2) (pa_cons (pe_glob (v := .ref (He.ga K "BadText")) (by rfl) g_BadText rfl) pa_nil))) pa_nil)))))))
      (pss_cons (ps_set (i := 1) sc_law_bad.nd rfl (by wtm_at "oi") (pe_op op_addA (pv 1) (pe_lst (pa_cons (pe_callB call_isX (by rfl) n_isinstance (by decide +kernel) (pa_cons (pv 2) (pa_cons (pe_glob (v := .ref (He.ga K "NeverDone")) (by rfl) g_NeverDone rfl) pa_nil))) (pa_cons (pe_callB call_isX (by rfl) n_isinstance (by decide +kernel) (pa_cons (pv 2) (pa_cons (pe_glob (v := .ref (He.ga K "NoDay")) (by rfl) g_NoDay rfl) pa_nil))) (pa_cons (pe_callB call_isX (by rfl) n_isinstance (by decide +kernel) (pa_cons (pv 2) (pa_cons (pe_glob (v := .ref (He.ga K "NoDeed")) (by rfl) g_NoDeed rfl) pa_nil))) (pa_cons (pe_callB call_isX (by rfl) n_isinstance (by decide +kernel) (pa_cons (pv 2) (pa_cons (pe_glob (v := .ref (He.ga K "NoPiece")) (by rfl) g_NoPiece rfl) pa_nil))) pa_nil)))))))
      (pss_one (ps_set (i := 1) sc_law_bad.nd rfl (by wtm_at "oi") (pe_op op_addA (pv 1) (pe_lst (pa_cons (pe_callB call_isX (by rfl) n_isinstance (by decide +kernel) (pa_cons (pv 2) (pa_cons (pe_glob (v := .ref (He.ga K "NoRow")) (by rfl) g_NoRow rfl) pa_nil))) (pa_cons (pe_callB call_isX (by rfl) n_isinstance (by decide +kernel) (pa_cons (pv 2) (pa_cons (pe_glob (v := .ref (He.ga K "TooFar")) (by rfl) g_TooFar rfl) pa_nil))) (pa_cons (pe_callB call_isX (by rfl) n_isinstance (by decide +kernel) (pa_cons (pv 2) (pa_cons (pe_glob (v := .ref (He.ga K "TooTight")) (by rfl) g_TooTight rfl) pa_nil))) pa_nil))))))))))))
      (pss_one (ps_ret (pv 1))))))
    (d_law_bad kx)
abbrev N_Calendar_init : List Str := ["self", "years", "days"]
theorem sc_Calendar_init : FnScope N_Calendar_init ["self", "years"] (defScope s_Calendar_init) := by wtm_at "sn"
theorem ok_Calendar_init {f : Addr} {fd : FuncData} {f_are_numbers : Addr} {fd_are_numbers : FuncData} (F : GD K "__init__" "Calendar.__init__" s_Calendar_init f fd) (F_are_numbers : FG P w K mg base 2 f_are_numbers fd_are_numbers ["thing", "long", "least", "most"] (c_are_numbers K) "are_numbers") (x_BadCalendar : ExC K mg "BadCalendar") (n_list : mg "list" = none) (kc : KCal K) :
    FnOk P w K mg base (L2.CX P w) 3 f fd ["self", "years"] (spD K (c_Calendar_init K)) :=
  fn_DD (t := t_Calendar_init K) F sc_Calendar_init (by wtm_at "ln") (by decide)
    (fun cdv A outer s H E hr => by exact
      (pss_cons (ps_if (pt_not (pt_truth (pe_call F_are_numbers.F (hr.mono (by decide)) (by rfl) F_are_numbers.m F_are_numbers.k F_are_numbers.B .nil (by wtm_at "pk") (pa_cons (pv 1) (pa_cons pe_int (pa_cons pe_int (pa_cons pe_int pa_nil))))) (by intro _; rfl))) (pss_one (ps_raise rfl (takes_of rfl rfl rfl rfl) (pmk_own PySem.F.excBase_ValueError x_BadCalendar.xc x_BadCalendar.gc x_BadCalendar.kc (raises_own x_BadCalendar.bc x_BadCalendar.tc) (by rfl)))) pss_nil)
      (pss_cons (ps_fld (pv 0) (pe_callTy call_list_of (by rfl) n_list (by decide +kernel) (pa_cons (pv 1) pa_nil)) rfl)
      (pss_cons (ps_fld (pv 0) (pe_lst pa_nil) rfl)
      (pss_cons (ps_fld (pv 0) pe_int rfl)
      (pss_one (ps_for (passes_of rfl) rfl (pi_any (pe_fld (pv 0) rfl)) (pg_name (i := 2) sc_Calendar_init.nd rfl (by wtm_at "oi")) (pss_cons (ps_expr (pe_bm PySem.F.plainAttrs_list PySem.F.slot_list_append PySem.F.type_list_append mt_append (pe_fld (pv 0) rfl) (pa_cons (pe_fld (pv 0) rfl) pa_nil)))
      (pss_one (ps_fldaug (pv 0) (pv 2) in_add))))))))))
    (d_Calendar_init kc)
abbrev N_law_lengths : List Str := ["_law_hold", "_law_most", "_law_many", "_law_way", "_law_some", "_law_k"]
theorem sc_law_lengths : FnScope N_law_lengths ["_law_hold", "_law_most", "_law_many"] (defScope s_law_lengths) := by wtm_at "sn"
theorem ok_law_lengths {f : Addr} {fd : FuncData} {f_law_draw : Addr} {fd_law_draw : FuncData} (F : GD K "_law_lengths" "_law_lengths" s_law_lengths f fd) (F_law_draw : FG P w K mg base 1 f_law_draw fd_law_draw ["_law_hold", "_law_many"] (c_law_draw K) "_law_draw") (n_range : mg "range" = none) :
    FnOk P w K mg base (L2.CX P w) 2 f fd ["_law_hold", "_law_most", "_law_many"] (spD K (c_law_lengths K)) :=
  fn_DD (t := t_law_lengths K) F sc_law_lengths (by wtm_at "ln") (by decide)
    (fun cdv A outer s H E hr => by exact
      (pss_cons (ps_set (i := 3) sc_law_lengths.nd rfl (by wtm_at "oi") (pe_call F_law_draw.F (hr.mono (by decide)) (by rfl) F_law_draw.m F_law_draw.k F_law_draw.B .nil (by wtm_at "pk") (pa_cons (pv 0) (pa_cons pe_int pa_nil))))
      (pss_cons (ps_if (pt_cmpR (op_eqD hr.units) (pv 3) pe_int (nomark _)) (pss_one (ps_ret (pe_op op_mulA (pe_lst (pa_cons (pv 1) pa_nil)) (pv 2)))) pss_nil)
      (pss_cons (ps_set (i := 4) sc_law_lengths.nd rfl (by wtm_at "oi") (pe_ix ix_seq (pe_lst (pa_cons pe_int (pa_cons pe_int (pa_cons pe_int (pa_cons (pv 1) (pa_cons (pv 1) (pa_cons (pv 1) (pa_cons (pv 1) pa_nil)))))))) (pe_op op_sub (pv 3) pe_int) (fun _ _ => rfl)))
      (pss_one (ps_ret (pe_lc (own := [("_law_k", 5)]) (g := (gName 5)) (tt := tYes) (te := (tOp (rAddA K) (tC (.int 1)) (tCall (spD K (c_law_draw K)) [] E0 (tCons (tVar 0) (tCons (tVar 4) tNil))))) (by rfl) sc_law_lengths.nd (pi_range1 (by rfl) n_range (pa_cons (pe_op op_addA pe_int (pe_call F_law_draw.F (hr.mono (by decide)) (by rfl) F_law_draw.m F_law_draw.k F_law_draw.B .nil (by wtm_at "pk") (pa_cons (pv 0) (pa_cons (pv 2) pa_nil)))) pa_nil)) (blkOk_by (own := [("_law_k", 5)]) (N := N_law_lengths) (sc := defScope s_law_lengths) (by decide +kernel)) (fun _ _ _ _ _ => by exact (pg_name (i := 5) sc_law_lengths.nd rfl (by wtm_at "oi"))) (fun _ _ _ _ _ => by exact pts_nil) (fun _ _ _ _ _ => by exact (pe_op op_addA pe_int (pe_call F_law_draw.F (hr.mono (by decide)) (by rfl) F_law_draw.m F_law_draw.k F_law_draw.B .nil passL (pa_cons (pv 0) (pa_cons (pv 4) pa_nil))))))))))))
    (d_law_lengths)
abbrev N_need_day : List Str := ["number"]
theorem sc_need_day : FnScope N_need_day ["number"] (defScope s_need_day) := by wtm_at "sn"
theorem ok_need_day {f : Addr} {fd : FuncData} (F : GD K "need_day" "need_day" s_need_day f fd) (x_NoDay : ExC K mg "NoDay") :
    FnOk P w K mg base (L2.CX P w) 1 f fd ["number"] (spD K (c_need_day K)) :=
  fn_DD (t := t_need_day K) F sc_need_day (by wtm_at "ln") (by decide)
    (fun cdv A outer s H E hr => by exact
      (pss_one (ps_if (pt_cmpR op_lt (pv 0) pe_int (nomark _)) (pss_one (ps_raise rfl (takes_of rfl rfl rfl rfl) (pmk_own PySem.F.excBase_ValueError x_NoDay.xc x_NoDay.gc x_NoDay.kc (raises_own x_NoDay.bc x_NoDay.tc) (by rfl)))) pss_nil)))
    (d_need_day)
abbrev N_Calendar_years : List Str := ["self"]
theorem sc_Calendar_years : FnScope N_Calendar_years ["self"] (defScope s_Calendar_years) := by wtm_at "sn"
theorem ok_Calendar_years {f : Addr} {fd : FuncData} (F : GD K "years" "Calendar.years" s_Calendar_years f fd) (n_list : mg "list" = none) (kc : KCal K) :
    FnOk P w K mg base (L2.CX P w) 1 f fd ["self"] (spD K (c_Calendar_years K)) :=
  fn_DD (t := t_Calendar_years K) F sc_Calendar_years (by wtm_at "ln") (by decide)
    (fun cdv A outer s H E hr => by exact
      (pss_one (ps_ret (pe_callTy call_list_of (by rfl) n_list (by decide +kernel) (pa_cons (pe_fld (pv 0) rfl) pa_nil)))))
    (d_Calendar_years kc)
abbrev N_Calendar_long : List Str := ["self", "year"]
theorem sc_Calendar_long : FnScope N_Calendar_long ["self", "year"] (defScope s_Calendar_long) := by wtm_at "sn"
theorem ok_Calendar_long {f : Addr} {fd : FuncData} {f_need_day : Addr} {fd_need_day : FuncData} (F : GD K "long" "Calendar.long" s_Calendar_long f fd) (F_need_day : FG P w K mg base 1 f_need_day fd_need_day ["number"] (c_need_day K) "need_day") (n_len : mg "len" = none) (kc : KCal K) :
    FnOk P w K mg base (L2.CX P w) 2 f fd ["self", "year"] (spD K (c_Calendar_long K)) :=
  fn_DD (t := t_Calendar_long K) F sc_Calendar_long (by wtm_at "ln") (by decide)
    (fun cdv A outer s H E hr => by exact
      (pss_cons (ps_expr (pe_call F_need_day.F (hr.mono (by decide)) (by rfl) F_need_day.m F_need_day.k F_need_day.B .nil (by wtm_at "pk") (pa_cons (pv 1) pa_nil)))
      (pss_one (ps_ret (pe_ix ix_seq (pe_fld (pv 0) rfl) (pe_op op_modA (pv 1) (pe_callB call_len (by rfl) n_len (by decide +kernel) (pa_cons (pe_fld (pv 0) rfl) pa_nil))) (fun _ _ => rfl))))))
    (d_Calendar_long kc)
abbrev N_Calendar_first : List Str := ["self", "year", "turns", "place"]
theorem sc_Calendar_first : FnScope N_Calendar_first ["self", "year"] (defScope s_Calendar_first) := by wtm_at "sn"
theorem ok_Calendar_first {f : Addr} {fd : FuncData} {f_need_day : Addr} {fd_need_day : FuncData} (F : GD K "first" "Calendar.first" s_Calendar_first f fd) (F_need_day : FG P w K mg base 1 f_need_day fd_need_day ["number"] (c_need_day K) "need_day") (n_len : mg "len" = none) (n_divmod : mg "divmod" = none) (kc : KCal K) :
    FnOk P w K mg base (L2.CX P w) 2 f fd ["self", "year"] (spD K (c_Calendar_first K)) :=
  fn_DD (t := t_Calendar_first K) F sc_Calendar_first (by wtm_at "ln") (by decide)
    (fun cdv A outer s H E hr => by exact
      (pss_cons (ps_expr (pe_call F_need_day.F (hr.mono (by decide)) (by rfl) F_need_day.m F_need_day.k F_need_day.B .nil (by wtm_at "pk") (pa_cons (pv 1) pa_nil)))
      (pss_cons (ps_asg (pe_callB call_divmod (by rfl) n_divmod (by decide +kernel) (pa_cons (pv 1) (pa_cons (pe_callB call_len (by rfl) n_len (by decide +kernel) (pa_cons (pe_fld (pv 0) rfl) pa_nil)) pa_nil))) (pg_tup rfl (pgs_cons (pg_name (i := 2) sc_Calendar_first.nd rfl (by wtm_at "oi")) (pgs_cons (pg_name (i := 3) sc_Calendar_first.nd rfl (by wtm_at "oi")) pgs_nil))))
      (pss_one (ps_ret (pe_op op_addA (pe_op op_mulA (pv 2) (pe_fld (pv 0) rfl)) (pe_ix ix_seq (pe_fld (pv 0) rfl) (pv 3) (fun _ _ => rfl))))))))
    (d_Calendar_first kc)
abbrev N_Feast_span : List Str := ["self", "calendar", "year", "days", "place", "first"]
theorem sc_Feast_span : FnScope N_Feast_span ["self", "calendar", "year"] (defScope s_Feast_span) := by wtm_at "sn"
theorem ok_Feast_span {f : Addr} {fd : FuncData} {f_need_day f_Calendar_years f_Calendar_long f_Calendar_first : Addr} {fd_need_day fd_Calendar_years fd_Calendar_long fd_Calendar_first : FuncData} (F : GD K "span" "Feast.span" s_Feast_span f fd) (F_need_day : FG P w K mg base 1 f_need_day fd_need_day ["number"] (c_need_day K) "need_day") (F_Calendar_years : FQ P w K mg base 1 f_Calendar_years fd_Calendar_years ["self"] (c_Calendar_years K)) (F_Calendar_long : FQ P w K mg base 2 f_Calendar_long fd_Calendar_long ["self", "year"] (c_Calendar_long K)) (F_Calendar_first : FQ P w K mg base 2 f_Calendar_first fd_Calendar_first ["self", "year"] (c_Calendar_first K)) (cl_Calendar : Cls K (He.ga K "Calendar")) (mm_Calendar_years : Meth K (He.ga K "Calendar") "years" f_Calendar_years) (n_len : mg "len" = none) (mm_Calendar_long : Meth K (He.ga K "Calendar") "long" f_Calendar_long) (mm_Calendar_first : Meth K (He.ga K "Calendar") "first" f_Calendar_first) (n_min : mg "min" = none) (kf : KFe K) :
    FnOk P w K mg base (L2.CX P w) 3 f fd ["self", "calendar", "year"] (spD K (c_Feast_span K)) :=
  fn_DD (t := t_Feast_span K) F sc_Feast_span (by wtm_at "ln") (by decide)
    (fun cdv A outer s H E hr => by exact
      (pss_cons (ps_expr (pe_call F_need_day.F (hr.mono (by decide)) (by rfl) F_need_day.m F_need_day.k F_need_day.B .nil (by wtm_at "pk") (pa_cons (pv 2) pa_nil)))
      (pss_cons (ps_if (PW.pt (pw_and (pt_cmp (pc_notN (pe_fld (pv 0) rfl)) rfl) (pw_and1 (pt_cmpR op_notInA (pe_op op_modA (pv 2) (pe_callB call_len (by rfl) n_len (by decide +kernel) (pa_cons (pe_meth0 (pv 1) cl_Calendar mm_Calendar_years F_Calendar_years.F (hr.mono (by decide)) F_Calendar_years.B .nil (by wtm_at "pk")) pa_nil))) (pe_fld (pv 0) rfl) (by rfl))))) (pss_one (ps_ret pe_non)) pss_nil)
      (pss_cons (ps_set (i := 3) sc_Feast_span.nd rfl (by wtm_at "oi") (pe_meth (pv 1) cl_Calendar mm_Calendar_long F_Calendar_long.F (hr.mono (by decide)) F_Calendar_long.B .nil (by wtm_at "pk") (pa_cons (pv 2) pa_nil)))
      (pss_cons (ps_set (i := 4) sc_Feast_span.nd rfl (by wtm_at "oi") (pe_ifExp (pt_cmpR op_ge (pe_fld (pv 0) rfl) pe_int (nomark _)) (pe_fld (pv 0) rfl) (pe_op op_addA (pv 3) (pe_fld (pv 0) rfl))))
      (pss_cons (ps_if (pt_not (pt_chain op_le op_lt pe_int (pv 4) (pv 3))) (pss_one (ps_ret pe_non)) pss_nil)
      (pss_cons (ps_set (i := 5) sc_Feast_span.nd rfl (by wtm_at "oi") (pe_meth (pv 1) cl_Calendar mm_Calendar_first F_Calendar_first.F (hr.mono (by decide)) F_Calendar_first.B .nil (by wtm_at "pk") (pa_cons (pv 2) pa_nil)))
      (pss_one (ps_ret (pe_tup (pa_cons (pe_op op_addA (pv 5) (pv 4)) (pa_cons (pe_op op_addA (pv 5) (pe_callB (call_minA rfl) (by rfl) n_min (by decide +kernel) (pa_cons (pe_op op_addA (pv 4) (pe_fld (pv 0) rfl)) (pa_cons (pv 3) pa_nil)))) pa_nil))))))))))))
    (d_Feast_span kf)
abbrev N_Calendar_at : List Str := ["self", "day", "turns", "left", "place", "begin"]
theorem sc_Calendar_at : FnScope N_Calendar_at ["self", "day"] (defScope s_Calendar_at) := by wtm_at "sn"
theorem ok_Calendar_at {f : Addr} {fd : FuncData} {f_need_day : Addr} {fd_need_day : FuncData} (F : GD K "at" "Calendar.at" s_Calendar_at f fd) (F_need_day : FG P w K mg base 1 f_need_day fd_need_day ["number"] (c_need_day K) "need_day") (n_divmod : mg "divmod" = none) (n_len : mg "len" = none) (kc : KCal K) :
    FnOk P w K mg base (L2.CX P w) 2 f fd ["self", "day"] (spD K (c_Calendar_at K)) :=
  fn_DD (t := t_Calendar_at K) F sc_Calendar_at (by wtm_at "ln") (by decide)
    (fun cdv A outer s H E hr => by exact
      (pss_cons (ps_expr (pe_call F_need_day.F (hr.mono (by decide)) (by rfl) F_need_day.m F_need_day.k F_need_day.B .nil (by wtm_at "pk") (pa_cons (pv 1) pa_nil)))
      (pss_cons (ps_asg (pe_callB call_divmod (by rfl) n_divmod (by decide +kernel) (pa_cons (pv 1) (pa_cons (pe_fld (pv 0) rfl) pa_nil))) (pg_tup rfl (pgs_cons (pg_name (i := 2) sc_Calendar_at.nd rfl (by wtm_at "oi")) (pgs_cons (pg_name (i := 3) sc_Calendar_at.nd rfl (by wtm_at "oi")) pgs_nil))))
      (pss_cons (ps_set (i := 4) sc_Calendar_at.nd rfl (by wtm_at "oi") (pe_op op_sub (pe_callB call_len (by rfl) n_len (by decide +kernel) (pa_cons (pe_lc (own := [("begin", 5)]) (g := (gName 5)) (tt := (tTest (tOp (rI0 fun i j => .bl (decide (i ≤ j))) (tVar 5) (tVar 3)))) (te := (tVar 5)) (by rfl) sc_Calendar_at.nd (pi_any (pe_fld (pv 0) rfl)) (blkOk_by (own := [("begin", 5)]) (N := N_Calendar_at) (sc := defScope s_Calendar_at) (by decide +kernel)) (fun _ _ _ _ _ => by exact (pg_name (i := 5) sc_Calendar_at.nd rfl (by wtm_at "oi"))) (fun _ _ _ _ _ => by exact (pts_one (pt_cmpR op_le (pv 5) (pv 3) (nomark _)))) (fun _ _ _ _ _ => by exact (pv 5))) pa_nil)) pe_int))
      (pss_one (ps_ret (pe_tup (pa_cons (pe_op op_addA (pe_op op_mulA (pv 2) (pe_callB call_len (by rfl) n_len (by decide +kernel) (pa_cons (pe_fld (pv 0) rfl) pa_nil))) (pv 4)) (pa_cons (pe_op op_sub (pv 3) (pe_ix ix_seq (pe_fld (pv 0) rfl) (pv 4) (fun _ _ => rfl))) pa_nil)))))))))
    (d_Calendar_at kc)
abbrev N_Feast_keeps : List Str := ["self", "calendar", "day", "year", "place", "kept"]
theorem sc_Feast_keeps : FnScope N_Feast_keeps ["self", "calendar", "day"] (defScope s_Feast_keeps) := by wtm_at "sn"
theorem ok_Feast_keeps {f : Addr} {fd : FuncData} {f_Calendar_at f_Feast_span : Addr} {fd_Calendar_at fd_Feast_span : FuncData} (F : GD K "keeps" "Feast.keeps" s_Feast_keeps f fd) (F_Calendar_at : FQ P w K mg base 2 f_Calendar_at fd_Calendar_at ["self", "day"] (c_Calendar_at K)) (F_Feast_span : FQ P w K mg base 3 f_Feast_span fd_Feast_span ["self", "calendar", "year"] (c_Feast_span K)) (cl_Calendar : Cls K (He.ga K "Calendar")) (mm_Calendar_at : Meth K (He.ga K "Calendar") "at" f_Calendar_at) (cl_Feast : Cls K (He.ga K "Feast")) (mm_Feast_span : Meth K (He.ga K "Feast") "span" f_Feast_span) :
    FnOk P w K mg base (L2.CX P w) 4 f fd ["self", "calendar", "day"] (spD K (c_Feast_keeps K)) :=
  fn_DD (t := t_Feast_keeps K) F sc_Feast_keeps (by wtm_at "ln") (by decide)
    (fun cdv A outer s H E hr => by exact
      (pss_cons (ps_asg (pe_meth (pv 1) cl_Calendar mm_Calendar_at F_Calendar_at.F (hr.mono (by decide)) F_Calendar_at.B .nil (by wtm_at "pk") (pa_cons (pv 2) pa_nil)) (pg_tup rfl (pgs_cons (pg_name (i := 3) sc_Feast_keeps.nd rfl (by wtm_at "oi")) (pgs_cons (pg_name (i := 4) sc_Feast_keeps.nd rfl (by wtm_at "oi")) pgs_nil))))
      (pss_cons (ps_set (i := 5) sc_Feast_keeps.nd rfl (by wtm_at "oi") (pe_meth (pv 0) cl_Feast mm_Feast_span F_Feast_span.F (hr.mono (by decide)) F_Feast_span.B .nil (by wtm_at "pk") (pa_cons (pv 1) (pa_cons (pv 3) pa_nil))))
      (pss_one (ps_ret (pe_and (pe_cmp (pc_notN (pv 5)) rfl) (pe_one (pe_chain op_le op_lt (pe_ix ix_seq (pv 5) pe_int (fun _ _ => rfl)) (pv 2) (pe_ix ix_seq (pv 5) pe_int (fun _ _ => rfl))))))))))
    (d_Feast_keeps)
abbrev N_Feast_next_kept : List Str := ["self", "calendar", "day", "year", "place", "number", "kept"]
theorem sc_Feast_next_kept : FnScope N_Feast_next_kept ["self", "calendar", "day"] (defScope s_Feast_next_kept) := by wtm_at "sn"
theorem ok_Feast_next_kept {f : Addr} {fd : FuncData} {f_Calendar_at f_Calendar_years f_Feast_span : Addr} {fd_Calendar_at fd_Calendar_years fd_Feast_span : FuncData} (F : GD K "next_kept" "Feast.next_kept" s_Feast_next_kept f fd) (F_Calendar_at : FQ P w K mg base 2 f_Calendar_at fd_Calendar_at ["self", "day"] (c_Calendar_at K)) (F_Calendar_years : FQ P w K mg base 1 f_Calendar_years fd_Calendar_years ["self"] (c_Calendar_years K)) (F_Feast_span : FQ P w K mg base 3 f_Feast_span fd_Feast_span ["self", "calendar", "year"] (c_Feast_span K)) (cl_Calendar : Cls K (He.ga K "Calendar")) (mm_Calendar_at : Meth K (He.ga K "Calendar") "at" f_Calendar_at) (mm_Calendar_years : Meth K (He.ga K "Calendar") "years" f_Calendar_years) (n_len : mg "len" = none) (n_range : mg "range" = none) (cl_Feast : Cls K (He.ga K "Feast")) (mm_Feast_span : Meth K (He.ga K "Feast") "span" f_Feast_span) (n_max : mg "max" = none) :
    FnOk P w K mg base (L2.CX P w) 4 f fd ["self", "calendar", "day"] (spD K (c_Feast_next_kept K)) :=
  fn_DD (t := t_Feast_next_kept K) F sc_Feast_next_kept (by wtm_at "ln") (by decide)
    (fun cdv A outer s H E hr => by exact
      (pss_cons (ps_asg (pe_meth (pv 1) cl_Calendar mm_Calendar_at F_Calendar_at.F (hr.mono (by decide)) F_Calendar_at.B .nil (by wtm_at "pk") (pa_cons (pv 2) pa_nil)) (pg_tup rfl (pgs_cons (pg_name (i := 3) sc_Feast_next_kept.nd rfl (by wtm_at "oi")) (pgs_cons (pg_name (i := 4) sc_Feast_next_kept.nd rfl (by wtm_at "oi")) pgs_nil))))
      (pss_cons (ps_for (passes_of rfl) rfl (pi_range2W (by rfl) n_range (pa_cons (pv 3) (pa_cons (pe_op op_addA (pe_op op_addA (pv 3) (pe_callB call_len (by rfl) n_len (by decide +kernel) (pa_cons (pe_meth0 (pv 1) cl_Calendar mm_Calendar_years F_Calendar_years.F (hr.mono (by decide)) F_Calendar_years.B .nil (by wtm_at "pk")) pa_nil))) pe_int) pa_nil))) (pg_name (i := 5) sc_Feast_next_kept.nd rfl (by wtm_at "oi")) (pss_cons (ps_set (i := 6) sc_Feast_next_kept.nd rfl (by wtm_at "oi") (pe_meth (pv 0) cl_Feast mm_Feast_span F_Feast_span.F (hr.mono (by decide)) F_Feast_span.B .nil (by wtm_at "pk") (pa_cons (pv 1) (pa_cons (pv 5) pa_nil))))
      (pss_one (ps_if (PW.pt (pw_and (pt_cmp (pc_notN (pv 6)) rfl) (pw_and1 (pt_cmpR op_lt (pv 2) (pe_ix ix_seq (pv 6) pe_int (fun _ _ => rfl)) (nomark _))))) (pss_one (ps_ret (pe_callB (call_maxA rfl) (by rfl) n_max (by decide +kernel) (pa_cons (pv 2) (pa_cons (pe_ix ix_seq (pv 6) pe_int (fun _ _ => rfl)) pa_nil))))) pss_nil))))
      (pss_one (ps_ret pe_non)))))
    (d_Feast_next_kept)
abbrev N_Calendar_turn : List Str := ["self"]
theorem sc_Calendar_turn : FnScope N_Calendar_turn ["self"] (defScope s_Calendar_turn) := by wtm_at "sn"
theorem ok_Calendar_turn {f : Addr} {fd : FuncData} (F : GD K "turn" "Calendar.turn" s_Calendar_turn f fd) (kc : KCal K) :
    FnOk P w K mg base (L2.CX P w) 1 f fd ["self"] (spD K (c_Calendar_turn K)) :=
  fn_DD (t := t_Calendar_turn K) F sc_Calendar_turn (by wtm_at "ln") (by decide)
    (fun cdv A outer s H E hr => by exact
      (pss_one (ps_ret (pe_fld (pv 0) rfl))))
    (d_Calendar_turn kc)
abbrev N_Feast_kept_in : List Str := ["self", "calendar", "year", "end", "kept"]
theorem sc_Feast_kept_in : FnScope N_Feast_kept_in ["self", "calendar", "year", "end"] (defScope s_Feast_kept_in) := by wtm_at "sn"
theorem ok_Feast_kept_in {f : Addr} {fd : FuncData} {f_Feast_span : Addr} {fd_Feast_span : FuncData} (F : GD K "kept_in" "Feast.kept_in" s_Feast_kept_in f fd) (F_Feast_span : FQ P w K mg base 3 f_Feast_span fd_Feast_span ["self", "calendar", "year"] (c_Feast_span K)) (cl_Feast : Cls K (He.ga K "Feast")) (mm_Feast_span : Meth K (He.ga K "Feast") "span" f_Feast_span) (n_min : mg "min" = none) (n_max : mg "max" = none) :
    FnOk P w K mg base (L2.CX P w) 4 f fd ["self", "calendar", "year", "end"] (spD K (c_Feast_kept_in K)) :=
  fn_DD (t := t_Feast_kept_in K) F sc_Feast_kept_in (by wtm_at "ln") (by decide)
    (fun cdv A outer s H E hr => by exact
      (pss_cons (ps_set (i := 4) sc_Feast_kept_in.nd rfl (by wtm_at "oi") (pe_meth (pv 0) cl_Feast mm_Feast_span F_Feast_span.F (hr.mono (by decide)) F_Feast_span.B .nil (by wtm_at "pk") (pa_cons (pv 1) (pa_cons (pv 2) pa_nil))))
      (pss_cons (ps_if (pt_cmp (pc_isN (pv 4)) rfl) (pss_one (ps_ret pe_int)) pss_nil)
      (pss_one (ps_ret (pe_callB (call_maxA rfl) (by rfl) n_max (by decide +kernel) (pa_cons (pe_op op_sub (pe_callB (call_minA rfl) (by rfl) n_min (by decide +kernel) (pa_cons (pv 3) (pa_cons (pe_ix ix_seq (pv 4) pe_int (fun _ _ => rfl)) pa_nil))) (pe_ix ix_seq (pv 4) pe_int (fun _ _ => rfl))) (pa_cons pe_int pa_nil))))))))
    (d_Feast_kept_in)
abbrev N_Feast_kept_ahead : List Str := ["self", "calendar", "day", "year", "place", "many", "turns", "found", "number"]
theorem sc_Feast_kept_ahead : FnScope N_Feast_kept_ahead ["self", "calendar", "day"] (defScope s_Feast_kept_ahead) := by wtm_at "sn"
theorem ok_Feast_kept_ahead {f : Addr} {fd : FuncData} {f_Calendar_at f_Calendar_years f_Calendar_turn f_Feast_kept_in : Addr} {fd_Calendar_at fd_Calendar_years fd_Calendar_turn fd_Feast_kept_in : FuncData} (F : GD K "kept_ahead" "Feast.kept_ahead" s_Feast_kept_ahead f fd) (F_Calendar_at : FQ P w K mg base 2 f_Calendar_at fd_Calendar_at ["self", "day"] (c_Calendar_at K)) (F_Calendar_years : FQ P w K mg base 1 f_Calendar_years fd_Calendar_years ["self"] (c_Calendar_years K)) (F_Calendar_turn : FQ P w K mg base 1 f_Calendar_turn fd_Calendar_turn ["self"] (c_Calendar_turn K)) (F_Feast_kept_in : FQ P w K mg base 4 f_Feast_kept_in fd_Feast_kept_in ["self", "calendar", "year", "end"] (c_Feast_kept_in K)) (cl_Calendar : Cls K (He.ga K "Calendar")) (mm_Calendar_at : Meth K (He.ga K "Calendar") "at" f_Calendar_at) (mm_Calendar_years : Meth K (He.ga K "Calendar") "years" f_Calendar_years) (n_len : mg "len" = none) (n_range : mg "range" = none) (mm_Calendar_turn : Meth K (He.ga K "Calendar") "turn" f_Calendar_turn) (cl_Feast : Cls K (He.ga K "Feast")) (mm_Feast_kept_in : Meth K (He.ga K "Feast") "kept_in" f_Feast_kept_in) (n_sum : mg "sum" = none) :
    FnOk P w K mg base (L2.CX P w) 5 f fd ["self", "calendar", "day"] (spD K (c_Feast_kept_ahead K)) :=
  fn_DD (t := t_Feast_kept_ahead K) F sc_Feast_kept_ahead (by wtm_at "ln") (by decide)
    (fun cdv A outer s H E hr => by exact
      (pss_cons (ps_asg (pe_meth (pv 1) cl_Calendar mm_Calendar_at F_Calendar_at.F (hr.mono (by decide)) F_Calendar_at.B .nil (by wtm_at "pk") (pa_cons (pv 2) pa_nil)) (pg_tup rfl (pgs_cons (pg_name (i := 3) sc_Feast_kept_ahead.nd rfl (by wtm_at "oi")) (pgs_cons (pg_name (i := 4) sc_Feast_kept_ahead.nd rfl (by wtm_at "oi")) pgs_nil))))
      (pss_cons (ps_set (i := 5) sc_Feast_kept_ahead.nd rfl (by wtm_at "oi") (pe_callB call_len (by rfl) n_len (by decide +kernel) (pa_cons (pe_meth0 (pv 1) cl_Calendar mm_Calendar_years F_Calendar_years.F (hr.mono (by decide)) F_Calendar_years.B .nil (by wtm_at "pk")) pa_nil)))
      (pss_cons (ps_set (i := 6) sc_Feast_kept_ahead.nd rfl (by wtm_at "oi") (pe_op op_fdivA (pv 3) (pv 5)))
      (pss_cons (ps_set (i := 7) sc_Feast_kept_ahead.nd rfl (by wtm_at "oi") (pe_op op_mulA (pv 6) (pe_callB (cr_sum rfl) (by rfl) n_sum (by decide +kernel) (pa_cons (pe_lc (own := [("number", 8)]) (g := (gName 8)) (tt := tYes) (te := (tMeth (He.ga K "Feast") "kept_in" (spD K (c_Feast_kept_in K)) [] E0 (tVar 0) (tCons (tVar 1) (tCons (tVar 8) (tCons (tMeth (He.ga K "Calendar") "turn" (spD K (c_Calendar_turn K)) [] E0 (tVar 1) tNil) tNil))))) (by rfl) sc_Feast_kept_ahead.nd (pi_range1 (by rfl) n_range (pa_cons (pv 5) pa_nil)) (blkOk_by (own := [("number", 8)]) (N := N_Feast_kept_ahead) (sc := defScope s_Feast_kept_ahead) (by decide +kernel)) (fun _ _ _ _ _ => by exact (pg_name (i := 8) sc_Feast_kept_ahead.nd rfl (by wtm_at "oi"))) (fun _ _ _ _ _ => by exact pts_nil) (fun _ _ _ _ _ => by exact (pe_meth (pv 0) cl_Feast mm_Feast_kept_in F_Feast_kept_in.F (hr.mono (by decide)) F_Feast_kept_in.B .nil passL (pa_cons (pv 1) (pa_cons (pv 8) (pa_cons (pe_meth0 (pv 1) cl_Calendar mm_Calendar_turn F_Calendar_turn.F (hr.mono (by decide)) F_Calendar_turn.B .nil passL) pa_nil)))))) pa_nil))))
      (pss_cons (ps_for (passes_of rfl) rfl (pi_range2W (by rfl) n_range (pa_cons (pe_op op_mulA (pv 6) (pv 5)) (pa_cons (pe_op op_addA (pv 3) pe_int) pa_nil))) (pg_name (i := 8) sc_Feast_kept_ahead.nd rfl (by wtm_at "oi")) (pss_one (ps_aug (i := 7) sc_Feast_kept_ahead.nd rfl (by wtm_at "oi") (pe_meth (pv 0) cl_Feast mm_Feast_kept_in F_Feast_kept_in.F (hr.mono (by decide)) F_Feast_kept_in.B .nil (by wtm_at "pk") (pa_cons (pv 1) (pa_cons (pv 8) (pa_cons (pv 2) pa_nil)))) ip_add)))
      (pss_one (ps_ret (pv 7)))))))))
    (d_Feast_kept_ahead)
abbrev N_law_asked : List Str := ["_law_feast_here", "_law_calendar", "_law_door", "_law_number", "_law_told", "e"]
theorem sc_law_asked : FnScope N_law_asked ["_law_feast_here", "_law_calendar", "_law_door", "_law_number"] (defScope s_law_asked) := by wtm_at "sn"
theorem ok_law_asked {f : Addr} {fd : FuncData} {f_Feast_span f_Feast_keeps f_Feast_next_kept f_Feast_kept_ahead : Addr} {fd_Feast_span fd_Feast_keeps fd_Feast_next_kept fd_Feast_kept_ahead : FuncData} (F : GD K "_law_asked" "_law_asked" s_law_asked f fd) (F_Feast_span : FQ P w K mg base 3 f_Feast_span fd_Feast_span ["self", "calendar", "year"] (c_Feast_span K)) (F_Feast_keeps : FQ P w K mg base 4 f_Feast_keeps fd_Feast_keeps ["self", "calendar", "day"] (c_Feast_keeps K)) (F_Feast_next_kept : FQ P w K mg base 4 f_Feast_next_kept fd_Feast_next_kept ["self", "calendar", "day"] (c_Feast_next_kept K)) (F_Feast_kept_ahead : FQ P w K mg base 5 f_Feast_kept_ahead fd_Feast_kept_ahead ["self", "calendar", "day"] (c_Feast_kept_ahead K)) (g_ReadError : mg "ReadError" = some (.ref (He.ga K "ReadError"))) (cl_Feast : Cls K (He.ga K "Feast")) (mm_Feast_span : Meth K (He.ga K "Feast") "span" f_Feast_span) (mm_Feast_keeps : Meth K (He.ga K "Feast") "keeps" f_Feast_keeps) (mm_Feast_next_kept : Meth K (He.ga K "Feast") "next_kept" f_Feast_next_kept) (mm_Feast_kept_ahead : Meth K (He.ga K "Feast") "kept_ahead" f_Feast_kept_ahead) (g_BadFeast : mg "BadFeast" = some (.ref (He.ga K "BadFeast"))) (n_isinstance : mg "isinstance" = none) (g_BadBook : mg "BadBook" = some (.ref (He.ga K "BadBook"))) (g_NoDay : mg "NoDay" = some (.ref (He.ga K "NoDay"))) (n_ValueError : mg "ValueError" = none) (g_BadText : mg "BadText" = some (.ref (He.ga K "BadText"))) (g_BadRow : mg "BadRow" = some (.ref (He.ga K "BadRow"))) (g_BadNumber : mg "BadNumber" = some (.ref (He.ga K "BadNumber"))) (g_BadHouse : mg "BadHouse" = some (.ref (He.ga K "BadHouse"))) (g_NoDeed : mg "NoDeed" = some (.ref (He.ga K "NoDeed"))) (g_BadCalendar : mg "BadCalendar" = some (.ref (He.ga K "BadCalendar"))) (g_NeverDone : mg "NeverDone" = some (.ref (He.ga K "NeverDone"))) (g_TooTight : mg "TooTight" = some (.ref (He.ga K "TooTight"))) (g_TooFar : mg "TooFar" = some (.ref (He.ga K "TooFar"))) (g_NoRow : mg "NoRow" = some (.ref (He.ga K "NoRow"))) (g_NoPiece : mg "NoPiece" = some (.ref (He.ga K "NoPiece"))) (kx : KExc K excNames) :
    FnOk P w K mg base (L2.CX P w) 6 f fd ["_law_feast_here", "_law_calendar", "_law_door", "_law_number"] (spD K (c_law_asked K)) :=
  fn_DD (t := t_law_asked K) F sc_law_asked (by wtm_at "ln") (by decide)
    (fun cdv A outer s H E hr => by exact
      (pss_cons (ps_set (i := 4) sc_law_asked.nd rfl (by wtm_at "oi") (pe_lst pa_nil))
      (pss_cons (ps_try_kp (i := 5) rfl rfl rfl sc_law_asked.nd rfl rfl ⟨(by rfl), (by decide), .inl g_ReadError⟩ LamX.takes0 (fun W pn xe tk po => by exact (pss_one (ps_if (pt_cmpR (op_eqD hr.units) (pv 2) pe_int (nomark _)) (pss_one (ps_expr (pe_methS (pv 0) cl_Feast mm_Feast_span F_Feast_span.F (hr.mono (by decide)) F_Feast_span.B (fun σ => passAt tk σ) (pa_cons (pv 1) (pa_cons (pv 3) pa_nil))))) (pss_one (ps_if (pt_cmpR (op_eqD hr.units) (pv 2) pe_int (nomark _)) (pss_one (ps_expr (pe_methS (pv 0) cl_Feast mm_Feast_keeps F_Feast_keeps.F (hr.mono (by decide)) F_Feast_keeps.B (fun σ => passAt tk σ) (pa_cons (pv 1) (pa_cons (pv 3) pa_nil))))) (pss_one (ps_if (pt_cmpR (op_eqD hr.units) (pv 2) pe_int (nomark _)) (pss_one (ps_expr (pe_methS (pv 0) cl_Feast mm_Feast_next_kept F_Feast_next_kept.F (hr.mono (by decide)) F_Feast_next_kept.B (fun σ => passAt tk σ) (pa_cons (pv 1) (pa_cons (pv 3) pa_nil))))) (pss_one (ps_expr (pe_methS (pv 0) cl_Feast mm_Feast_kept_ahead F_Feast_kept_ahead.F (hr.mono (by decide)) F_Feast_kept_ahead.B (fun σ => passAt tk σ) (pa_cons (pv 1) (pa_cons (pv 3) pa_nil)))))))))))) (fun a pn => by exact (pss_cons (ps_set (i := 4) sc_law_asked.nd rfl (by wtm_at "oi") (pe_lst (pa_cons (pe_callB call_isX (by rfl) n_isinstance (by decide +kernel) (pa_cons (pv 5) (pa_cons (pe_bltn (v := .ty "ValueError") (by rfl) n_ValueError (by decide +kernel) rfl) pa_nil))) (pa_cons (pe_callB call_isX (by rfl) n_isinstance (by decide +kernel) (pa_cons (pv 5) (pa_cons (pe_glob (v := .ref (He.ga K "NoDay")) (by rfl) g_NoDay rfl) pa_nil))) (pa_cons (pe_callB call_isX (by rfl) n_isinstance (by decide +kernel) (pa_cons (pv 5) (pa_cons (pe_glob (v := .ref (He.ga K "BadBook")) (by rfl) g_BadBook rfl) pa_nil))) (pa_cons (pe_callB call_isX (by rfl) n_isinstance (by decide +kernel) (pa_cons (pv 5) (pa_cons (pe_glob (v := .ref (He.ga K "BadFeast")) (by rfl) g_BadFeast rfl) pa_nil))) pa_nil))))))
      (pss_cons (ps_set (i := 4) sc_law_asked.nd rfl (by wtm_at "oi") (pe_op op_addA (pv 4) (pe_lst (pa_cons (pe_callB call_isX (by rfl) n_isinstance (by decide +kernel) (pa_cons (pv 5) (pa_cons (pe_glob (v := .ref (He.ga K "BadHouse")) (by rfl) g_BadHouse rfl) pa_nil))) (pa_cons (pe_callB call_isX (by rfl) n_isinstance (by decide +kernel) (pa_cons (pv 5) (pa_cons (pe_glob (v := .ref (He.ga K "BadNumber")) (by rfl) g_BadNumber rfl) pa_nil))) (pa_cons (pe_callB call_isX (by rfl) n_isinstance (by decide +kernel) (pa_cons (pv 5) (pa_cons (pe_glob (v := .ref (He.ga K "BadRow")) (by rfl) g_BadRow rfl) pa_nil))) (pa_cons (pe_callB call_isX (by rfl) n_isinstance (by decide +kernel) (pa_cons (pv 5) (pa_cons (pe_glob (v := .ref (He.ga K "BadText")) (by rfl) g_BadText rfl) pa_nil))) pa_nil)))))))
      (pss_cons (ps_set (i := 4) sc_law_asked.nd rfl (by wtm_at "oi") (pe_op op_addA (pv 4) (pe_lst (pa_cons (pe_callB call_isX (by rfl) n_isinstance (by decide +kernel) (pa_cons (pv 5) (pa_cons (pe_glob (v := .ref (He.ga K "NeverDone")) (by rfl) g_NeverDone rfl) pa_nil))) (pa_cons (pe_callB call_isX (by rfl) n_isinstance (by decide +kernel) (pa_cons (pv 5) (pa_cons (pe_glob (v := .ref (He.ga K "BadCalendar")) (by rfl) g_BadCalendar rfl) pa_nil))) (pa_cons (pe_callB call_isX (by rfl) n_isinstance (by decide +kernel) (pa_cons (pv 5) (pa_cons (pe_glob (v := .ref (He.ga K "NoDeed")) (by rfl) g_NoDeed rfl) pa_nil))) pa_nil))))))
      (pss_one (ps_set (i := 4) sc_law_asked.nd rfl (by wtm_at "oi") (pe_op op_addA (pv 4) (pe_lst (pa_cons (pe_callB call_isX (by rfl) n_isinstance (by decide +kernel) (pa_cons (pv 5) (pa_cons (pe_glob (v := .ref (He.ga K "NoPiece")) (by rfl) g_NoPiece rfl) pa_nil))) (pa_cons (pe_callB call_isX (by rfl) n_isinstance (by decide +kernel) (pa_cons (pv 5) (pa_cons (pe_glob (v := .ref (He.ga K "NoRow")) (by rfl) g_NoRow rfl) pa_nil))) (pa_cons (pe_callB call_isX (by rfl) n_isinstance (by decide +kernel) (pa_cons (pv 5) (pa_cons (pe_glob (v := .ref (He.ga K "TooFar")) (by rfl) g_TooFar rfl) pa_nil))) (pa_cons (pe_callB call_isX (by rfl) n_isinstance (by decide +kernel) (pa_cons (pv 5) (pa_cons (pe_glob (v := .ref (He.ga K "TooTight")) (by rfl) g_TooTight rfl) pa_nil))) pa_nil)))))))))))))
      (pss_one (ps_ret (pv 4))))))
    (d_law_asked kx)
abbrev N_law_is : List Str := ["_law_found", "_law_due"]
theorem sc_law_is : FnScope N_law_is ["_law_found", "_law_due"] (defScope s_law_is) := by wtm_at "sn"
theorem ok_law_is {f : Addr} {fd : FuncData} (F : GD K "_law_is" "_law_is" s_law_is f fd) (n_int : mg "int" = none) (n_isinstance : mg "isinstance" = none) (n_bool : mg "bool" = none) :
    FnOk P w K mg base (L2.CX P w) 1 f fd ["_law_found", "_law_due"] (spD K (c_law_is K)) :=
  fn_DD (t := t_law_is K) F sc_law_is (by wtm_at "ln") (by decide)
    (fun cdv A outer s H E hr => by exact
      (pss_one (ps_ret (pe_and (pe_callB call_isi (by rfl) n_isinstance (by decide +kernel) (pa_cons (pv 0) (pa_cons (pe_bltn (v := .ty "int") (by rfl) n_int (by decide +kernel) rfl) pa_nil))) (pe_and (pe_not (pe_callB call_isi (by rfl) n_isinstance (by decide +kernel) (pa_cons (pv 0) (pa_cons (pe_bltn (v := .ty "bool") (by rfl) n_bool (by decide +kernel) rfl) pa_nil)))) (pe_one (pe_cmpR (op_eqD hr.units) (pv 0) (pv 1) (nomark _))))))))
    (d_law_is)
abbrev N_law_row_is : List Str := ["_law_found", "_law_due", "_law_k"]
theorem sc_law_row_is : FnScope N_law_row_is ["_law_found", "_law_due"] (defScope s_law_row_is) := by wtm_at "sn"
theorem ok_law_row_is {f : Addr} {fd : FuncData} {f_law_is : Addr} {fd_law_is : FuncData} (F : GD K "_law_row_is" "_law_row_is" s_law_row_is f fd) (F_law_is : FG P w K mg base 1 f_law_is fd_law_is ["_law_found", "_law_due"] (c_law_is K) "_law_is") (n_list : mg "list" = none) (n_isinstance : mg "isinstance" = none) (n_tuple : mg "tuple" = none) (n_len : mg "len" = none) (n_range : mg "range" = none) :
    FnOk P w K mg base (L2.CX P w) 2 f fd ["_law_found", "_law_due"] (spD K (c_law_row_is K)) :=
  fn_DD (t := t_law_row_is K) F sc_law_row_is (by wtm_at "ln") (by decide)
    (fun cdv A outer s H E hr => by exact
      (pss_cons (ps_if (PW.pt (pw_or (pt_cmpR (op_neD hr.units) (pe_callB call_isi (by rfl) n_isinstance (by decide +kernel) (pa_cons (pv 0) (pa_cons (pe_bltn (v := .ty "list") (by rfl) n_list (by decide +kernel) rfl) pa_nil))) (pe_callB call_isi (by rfl) n_isinstance (by decide +kernel) (pa_cons (pv 1) (pa_cons (pe_bltn (v := .ty "list") (by rfl) n_list (by decide +kernel) rfl) pa_nil))) (nomark _)) (pw_or1 (pt_cmpR (op_neD hr.units) (pe_callB call_isi (by rfl) n_isinstance (by decide +kernel) (pa_cons (pv 0) (pa_cons (pe_bltn (v := .ty "tuple") (by rfl) n_tuple (by decide +kernel) rfl) pa_nil))) (pe_callB call_isi (by rfl) n_isinstance (by decide +kernel) (pa_cons (pv 1) (pa_cons (pe_bltn (v := .ty "tuple") (by rfl) n_tuple (by decide +kernel) rfl) pa_nil))) (nomark _))))) (pss_one (ps_ret pe_bl)) pss_nil)
      (pss_cons (ps_if (pt_cmpR (op_neD hr.units) (pe_callB call_len (by rfl) n_len (by decide +kernel) (pa_cons (pv 0) pa_nil)) (pe_callB call_len (by rfl) n_len (by decide +kernel) (pa_cons (pv 1) pa_nil)) (nomark _)) (pss_one (ps_ret pe_bl)) pss_nil)
      (pss_one (ps_ret (pe_cmpR (op_eqD hr.units) (pe_lc (own := [("_law_k", 2)]) (g := (gName 2)) (tt := (tNot (tTruth K (tCall (spD K (c_law_is K)) [] E0 (tCons (tOp (rIx K) (tVar 0) (tVar 2)) (tCons (tOp (rIx K) (tVar 1) (tVar 2)) tNil)))))) (te := (tVar 2)) (by rfl) sc_law_row_is.nd (pi_range1 (by rfl) n_range (pa_cons (pe_callB call_len (by rfl) n_len (by decide +kernel) (pa_cons (pv 1) pa_nil)) pa_nil)) (blkOk_by (own := [("_law_k", 2)]) (N := N_law_row_is) (sc := defScope s_law_row_is) (by decide +kernel)) (fun _ _ _ _ _ => by exact (pg_name (i := 2) sc_law_row_is.nd rfl (by wtm_at "oi"))) (fun _ _ _ _ _ => by exact (pts_one (pt_not (pt_truth (pe_call F_law_is.F (hr.mono (by decide)) (by rfl) F_law_is.m F_law_is.k F_law_is.B .nil passL (pa_cons (pe_ix ix_seq (pv 0) (pv 2) (fun _ _ => rfl)) (pa_cons (pe_ix ix_seq (pv 1) (pv 2) (fun _ _ => rfl)) pa_nil))) (by intro _; rfl))))) (fun _ _ _ _ _ => by exact (pv 2))) (pe_lst pa_nil) (nomark _)))))))
    (d_law_row_is)
abbrev N_law_told_is : List Str := ["_law_found", "_law_due"]
theorem sc_law_told_is : FnScope N_law_told_is ["_law_found", "_law_due"] (defScope s_law_told_is) := by wtm_at "sn"
theorem ok_law_told_is {f : Addr} {fd : FuncData} {f_law_is f_law_row_is : Addr} {fd_law_is fd_law_row_is : FuncData} (F : GD K "_law_told_is" "_law_told_is" s_law_told_is f fd) (F_law_is : FG P w K mg base 1 f_law_is fd_law_is ["_law_found", "_law_due"] (c_law_is K) "_law_is") (F_law_row_is : FG P w K mg base 2 f_law_row_is fd_law_row_is ["_law_found", "_law_due"] (c_law_row_is K) "_law_row_is") (n_tuple : mg "tuple" = none) (n_isinstance : mg "isinstance" = none) (n_len : mg "len" = none) (n_list : mg "list" = none) :
    FnOk P w K mg base (L2.CX P w) 3 f fd ["_law_found", "_law_due"] (spD K (c_law_told_is K)) :=
  fn_DD (t := t_law_told_is K) F sc_law_told_is (by wtm_at "ln") (by decide)
    (fun cdv A outer s H E hr => by exact
      (pss_cons (ps_if (PW.pt (pw_or (pt_not (pt_truth (pe_callB call_isi (by rfl) n_isinstance (by decide +kernel) (pa_cons (pv 0) (pa_cons (pe_bltn (v := .ty "tuple") (by rfl) n_tuple (by decide +kernel) rfl) pa_nil))) (by intro _; rfl))) (pw_or (pt_cmpR (op_neD hr.units) (pe_callB call_len (by rfl) n_len (by decide +kernel) (pa_cons (pv 0) pa_nil)) pe_int (nomark _)) (pw_or (pt_cmpR (op_neD hr.units) (pe_ix ix_seq (pv 0) pe_int (fun _ _ => rfl)) (pe_ix ix_seq (pv 1) pe_int (fun _ _ => rfl)) (nomark _)) (pw_or1 (pt_cmpR (op_neD hr.units) (pe_ix ix_seq (pv 0) pe_int (fun _ _ => rfl)) (pe_ix ix_seq (pv 1) pe_int (fun _ _ => rfl)) (nomark _))))))) (pss_one (ps_ret pe_bl)) pss_nil)
      (pss_cons (ps_if (PW.pt (pw_or (pt_not (pt_truth (pe_call F_law_is.F (hr.mono (by decide)) (by rfl) F_law_is.m F_law_is.k F_law_is.B .nil (by wtm_at "pk") (pa_cons (pe_ix ix_seq (pv 0) pe_int (fun _ _ => rfl)) (pa_cons (pe_ix ix_seq (pv 1) pe_int (fun _ _ => rfl)) pa_nil))) (by intro _; rfl))) (pw_or (pt_not (pt_truth (pe_call F_law_is.F (hr.mono (by decide)) (by rfl) F_law_is.m F_law_is.k F_law_is.B .nil (by wtm_at "pk") (pa_cons (pe_ix ix_seq (pv 0) pe_int (fun _ _ => rfl)) (pa_cons (pe_ix ix_seq (pv 1) pe_int (fun _ _ => rfl)) pa_nil))) (by intro _; rfl))) (pw_or1 (pt_not (pt_truth (pe_callB call_isi (by rfl) n_isinstance (by decide +kernel) (pa_cons (pe_ix ix_seq (pv 0) pe_int (fun _ _ => rfl)) (pa_cons (pe_bltn (v := .ty "list") (by rfl) n_list (by decide +kernel) rfl) pa_nil))) (by intro _; rfl))))))) (pss_one (ps_ret pe_bl)) pss_nil)
      (pss_cons (ps_if (pt_cmp (pc_isN (pe_ix ix_seq (pv 1) pe_int (fun _ _ => rfl))) rfl) (pss_one (ps_ret (pe_cmp (pc_isN (pe_ix ix_seq (pv 0) pe_int (fun _ _ => rfl))) rfl))) pss_nil)
      (pss_one (ps_ret (pe_and (pe_callB call_isi (by rfl) n_isinstance (by decide +kernel) (pa_cons (pe_ix ix_seq (pv 0) pe_int (fun _ _ => rfl)) (pa_cons (pe_bltn (v := .ty "list") (by rfl) n_list (by decide +kernel) rfl) pa_nil))) (pe_one (pe_call F_law_row_is.F (hr.mono (by decide)) (by rfl) F_law_row_is.m F_law_row_is.k F_law_row_is.B .nil (by wtm_at "pk") (pa_cons (pe_ix ix_seq (pv 0) pe_int (fun _ _ => rfl)) (pa_cons (pe_ix ix_seq (pv 1) pe_int (fun _ _ => rfl)) pa_nil)))))))))))
    (d_law_told_is)
abbrev N_Feast_told : List Str := ["self", "kept"]
theorem sc_Feast_told : FnScope N_Feast_told ["self"] (defScope s_Feast_told) := by wtm_at "sn"
theorem ok_Feast_told {f : Addr} {fd : FuncData} (F : GD K "told" "Feast.told" s_Feast_told f fd) (n_list : mg "list" = none) (kf : KFe K) :
    FnOk P w K mg base (L2.CX P w) 1 f fd ["self"] (spD K (c_Feast_told K)) :=
  fn_DD (t := t_Feast_told K) F sc_Feast_told (by wtm_at "ln") (by decide)
    (fun cdv A outer s H E hr => by exact
      (pss_cons (ps_set (i := 1) sc_Feast_told.nd rfl (by wtm_at "oi") (pe_ifExp (pt_cmp (pc_isN (pe_fld (pv 0) rfl)) rfl) pe_non (pe_callTy call_list_of (by rfl) n_list (by decide +kernel) (pa_cons (pe_fld (pv 0) rfl) pa_nil))))
      (pss_one (ps_ret (pe_tup (pa_cons (pe_fld (pv 0) rfl) (pa_cons (pe_fld (pv 0) rfl) (pa_cons (pe_fld (pv 0) rfl) (pa_cons (pv 1) (pa_cons (pe_callTy call_list_of (by rfl) n_list (by decide +kernel) (pa_cons (pe_fld (pv 0) rfl) pa_nil)) pa_nil))))))))))
    (d_Feast_told kf)
abbrev N_law : List Str := ["_law_script", "_law_hold", "_law_due", "_law_k", "_law_some", "_law_which", "_law_other", "_law_feast_here", "_law_calendar", "_law_door"]
theorem sc_law : FnScope N_law ["_law_script"] (defScope s_law) := by wtm_at "sn"
theorem ok_law {f : Addr} {fd : FuncData} {f_law_feast f_law_draw f_law_spoil f_law_bad f_Feast_init f_Calendar_init f_law_lengths f_law_asked f_law_beyond f_law_told_is f_Feast_told : Addr} {fd_law_feast fd_law_draw fd_law_spoil fd_law_bad fd_Feast_init fd_Calendar_init fd_law_lengths fd_law_asked fd_law_beyond fd_law_told_is fd_Feast_told : FuncData} (F : GD K "law" "law" s_law f fd) (F_law_feast : FG P w K mg base 4 f_law_feast fd_law_feast ["_law_hold"] (c_law_feast K) "_law_feast") (F_law_draw : FG P w K mg base 1 f_law_draw fd_law_draw ["_law_hold", "_law_many"] (c_law_draw K) "_law_draw") (F_law_spoil : FG P w K mg base 5 f_law_spoil fd_law_spoil ["_law_some", "_law_which", "_law_hold"] (c_law_spoil K) "_law_spoil") (F_law_bad : FG P w K mg base 6 f_law_bad fd_law_bad ["_law_some"] (c_law_bad K) "_law_bad") (F_Feast_init : FQ P w K mg base 4 f_Feast_init fd_Feast_init ["self", "name", "place", "days", "years", "puts"] (c_Feast_init K)) (M_Feast : Mk K (He.ga K "Feast") f_Feast_init) (F_Calendar_init : FQ P w K mg base 3 f_Calendar_init fd_Calendar_init ["self", "years"] (c_Calendar_init K)) (M_Calendar : Mk K (He.ga K "Calendar") f_Calendar_init) (F_law_lengths : FG P w K mg base 2 f_law_lengths fd_law_lengths ["_law_hold", "_law_most", "_law_many"] (c_law_lengths K) "_law_lengths") (F_law_asked : FG P w K mg base 6 f_law_asked fd_law_asked ["_law_feast_here", "_law_calendar", "_law_door", "_law_number"] (c_law_asked K) "_law_asked") (F_law_beyond : FG P w K mg base 3 f_law_beyond fd_law_beyond ["_law_hold"] (c_law_beyond K) "_law_beyond") (F_law_told_is : FG P w K mg base 3 f_law_told_is fd_law_told_is ["_law_found", "_law_due"] (c_law_told_is K) "_law_told_is") (F_Feast_told : FQ P w K mg base 1 f_Feast_told fd_Feast_told ["self"] (c_Feast_told K)) (n_list : mg "list" = none) (n_len : mg "len" = none) (n_min : mg "min" = none) (n_max : mg "max" = none) (n_range : mg "range" = none) (g_Feast : mg "Feast" = some (.ref (He.ga K "Feast"))) (g_Calendar : mg "Calendar" = some (.ref (He.ga K "Calendar"))) (cl_Feast : Cls K (He.ga K "Feast")) (mm_Feast_told : Meth K (He.ga K "Feast") "told" f_Feast_told) (kc : KCal K) (kf : KFe K) :
    FnOk P w K mg base (L2.CX P w) 7 f fd ["_law_script"] (spD K (c_law K)) :=
  fn_DD (t := t_law K) F sc_law (by wtm_at "ln") (by decide)
    (fun cdv A outer s H E hr => by exact
      (pss_cons (ps_set (i := 1) sc_law.nd rfl (by wtm_at "oi") (pe_lst (pa_cons pe_int (pa_cons (pe_ifExp (pt_cmpR (op_neD hr.units) (pv 0) (pe_lst pa_nil) (nomark _)) (pe_callTy call_list_of (by rfl) n_list (by decide +kernel) (pa_cons (pv 0) pa_nil)) (pe_lst (pa_cons pe_int pa_nil))) pa_nil))))
      (pss_cons (ps_set (i := 2) sc_law.nd rfl (by wtm_at "oi") (pe_op op_addA (pe_lst (pa_cons pe_bl (pa_cons pe_bl pa_nil))) (pe_op op_mulA (pe_lst (pa_cons pe_bl pa_nil)) pe_int)))
      (pss_cons (ps_for (passes_of rfl) rfl (pi_range1 (by rfl) n_range (pa_cons (pe_callB (call_maxA rfl) (by rfl) n_max (by decide +kernel) (pa_cons pe_int (pa_cons (pe_callB (call_minA rfl) (by rfl) n_min (by decide +kernel) (pa_cons pe_int (pa_cons (pe_callB call_len (by rfl) n_len (by decide +kernel) (pa_cons (pv 0) pa_nil)) pa_nil))) pa_nil))) pa_nil)) (pg_name (i := 3) sc_law.nd rfl (by wtm_at "oi")) (pss_cons (ps_set (i := 4) sc_law.nd rfl (by wtm_at "oi") (pe_call F_law_feast.F (hr.mono (by decide)) (by rfl) F_law_feast.m F_law_feast.k F_law_feast.B .nil (by wtm_at "pk") (pa_cons (pv 1) pa_nil)))
      (pss_cons (ps_par (i := 5) (j := 6) (by rfl) sc_law.nd rfl rfl (by decide) rfl rfl (pa_cons (pe_call F_law_draw.F (hr.mono (by decide)) (by rfl) F_law_draw.m F_law_draw.k F_law_draw.B .nil (by wtm_at "pk") (pa_cons (pv 1) (pa_cons pe_int pa_nil))) (pa_cons (pe_call F_law_draw.F (hr.mono (by decide)) (by rfl) F_law_draw.m F_law_draw.k F_law_draw.B .nil (by wtm_at "pk") (pa_cons (pv 1) (pa_cons pe_int pa_nil))) pa_nil)) (by rfl))
      (pss_cons (ps_expr (pe_call F_law_spoil.F (hr.mono (by decide)) (by rfl) F_law_spoil.m F_law_spoil.k F_law_spoil.B .nil (by wtm_at "pk") (pa_cons (pv 4) (pa_cons (pv 5) (pa_cons (pv 1) pa_nil)))))
      (pss_cons (ps_if (PW.pt (pw_and (pt_cmpR op_lt (pv 6) pe_int (nomark _)) (pw_and1 (pt_cmpR (op_neD hr.units) (pv 6) (pv 5) (nomark _))))) (pss_one (ps_expr (pe_call F_law_spoil.F (hr.mono (by decide)) (by rfl) F_law_spoil.m F_law_spoil.k F_law_spoil.B .nil (by wtm_at "pk") (pa_cons (pv 4) (pa_cons (pv 6) (pa_cons (pv 1) pa_nil)))))) pss_nil)
      (pss_one (ps_if (pt_cmpR (op_neD hr.units) (pe_call F_law_bad.F (hr.mono (by decide)) (by rfl) F_law_bad.m F_law_bad.k F_law_bad.B .nil (by wtm_at "pk") (pa_cons (pv 4) pa_nil)) (pv 2) (nomark _)) (pss_one (ps_ret pe_bl)) pss_nil)))))))
      (pss_cons (ps_set (i := 4) sc_law.nd rfl (by wtm_at "oi") (pe_call F_law_feast.F (hr.mono (by decide)) (by rfl) F_law_feast.m F_law_feast.k F_law_feast.B .nil (by wtm_at "pk") (pa_cons (pv 1) pa_nil)))
      (pss_cons (ps_set (i := 7) sc_law.nd rfl (by wtm_at "oi") (pe_make M_Feast F_Feast_init.F (hr.mono (by decide)) (by rfl) g_Feast F_Feast_init.B .nil (by wtm_at "pk") (pa_cons (pe_ix ix_seq (pv 4) pe_int (fun _ _ => rfl)) (pa_cons (pe_ix ix_seq (pv 4) pe_int (fun _ _ => rfl)) (pa_cons (pe_ix ix_seq (pv 4) pe_int (fun _ _ => rfl)) (pa_cons (pe_ifExp (pt_cmp (pc_isN (pe_ix ix_seq (pv 4) pe_int (fun _ _ => rfl))) rfl) pe_non (pe_callTy call_list_of (by rfl) n_list (by decide +kernel) (pa_cons (pe_ix ix_seq (pv 4) pe_int (fun _ _ => rfl)) pa_nil))) (pa_cons (pe_callTy call_list_of (by rfl) n_list (by decide +kernel) (pa_cons (pe_ix ix_seq (pv 4) pe_int (fun _ _ => rfl)) pa_nil)) pa_nil)))))))
      (pss_cons (ps_set (i := 8) sc_law.nd rfl (by wtm_at "oi") (pe_make M_Calendar F_Calendar_init.F (hr.mono (by decide)) (by rfl) g_Calendar F_Calendar_init.B .nil (by wtm_at "pk") (pa_cons (pe_call F_law_lengths.F (hr.mono (by decide)) (by rfl) F_law_lengths.m F_law_lengths.k F_law_lengths.B .nil (by wtm_at "pk") (pa_cons (pv 1) (pa_cons pe_int (pa_cons pe_int pa_nil)))) pa_nil)))
      (pss_cons (ps_for (passes_of rfl) rfl (pi_range1 (by rfl) n_range (pa_cons pe_int pa_nil)) (pg_name (i := 9) sc_law.nd rfl (by wtm_at "oi")) (pss_cons (ps_if (pt_cmpR (op_neD hr.units) (pe_call F_law_asked.F (hr.mono (by decide)) (by rfl) F_law_asked.m F_law_asked.k F_law_asked.B .nil (by wtm_at "pk") (pa_cons (pv 7) (pa_cons (pv 8) (pa_cons (pv 9) (pa_cons (pe_op op_sub (pe_un un_neg pe_int) (pe_call F_law_beyond.F (hr.mono (by decide)) (by rfl) F_law_beyond.m F_law_beyond.k F_law_beyond.B .nil (by wtm_at "pk") (pa_cons (pv 1) pa_nil))) pa_nil))))) (pv 2) (nomark _)) (pss_one (ps_ret pe_bl)) pss_nil)
      (pss_one (ps_if (pt_not (pt_truth (pe_call F_law_told_is.F (hr.mono (by decide)) (by rfl) F_law_told_is.m F_law_told_is.k F_law_told_is.B .nil (by wtm_at "pk") (pa_cons (pe_meth0 (pv 7) cl_Feast mm_Feast_told F_Feast_told.F (hr.mono (by decide)) F_Feast_told.B .nil (by wtm_at "pk")) (pa_cons (pv 4) pa_nil))) (by intro _; rfl))) (pss_one (ps_ret pe_bl)) pss_nil))))
      (pss_one (ps_ret pe_bl))))))))))
    (d_law kc kf)
end
/-! ### the end -/
set_option maxHeartbeats 0 in
theorem facts {P : Program} {w : World} {K : PySem.W.Frag} {h : Heap} {mg : Str → Option Value} {f : Addr} (X : K.In h) (G : h.Ns mainGlobals mg) (hfa : mg ("law" : Str) = some (.ref f)) (c : He.SaysD fas fns K) (cx : exAll exs K = true) :
    ∃ fd : FuncData, (∀ (s : Shared) (v : Value), BindsTo s fd ⟨[v], []⟩ [("_law_script", v)]) ∧ ∀ base : Heap, K.In base → base.Ns mainGlobals mg → FnOk P w K mg base (L2.CX P w) 7 f fd ["_law_script"] (spD K (c_law K)) := by
  have e := hfa.symm.trans (He.glo_ok X G (c.fact 83 (f := .glo "law") rfl))
  cases e
  have q0 := He.free_ok X G (c.fact 0 (f := .free "len") rfl)
  have q1 := He.glo_ok X G (c.fact 1 (f := .glo "_law_draw") rfl)
  have q2 := He.free_ok X G (c.fact 2 (f := .free "range") rfl)
  have q3 := He.glo_ok X G (c.fact 3 (f := .glo "_law_name") rfl)
  have q4 := He.free_ok X G (c.fact 4 (f := .free "list") rfl)
  have q5 := He.glo_ok X G (c.fact 8 (f := .glo "_law_beyond") rfl)
  have q6 := He.free_ok X G (c.fact 9 (f := .free "tuple") rfl)
  have q7 := He.glo_ok X G (c.fact 10 (f := .glo "_law_bad_name") rfl)
  have q8 := He.free_ok X G (c.fact 14 (f := .free "isinstance") rfl)
  have q9 := He.free_ok X G (c.fact 16 (f := .free "all") rfl)
  have q10 := He.free_ok X G (c.fact 17 (f := .free "int") rfl)
  have q11 := He.free_ok X G (c.fact 18 (f := .free "bool") rfl)
  have q12 := He.glo_ok X G (c.fact 19 (f := .glo "is_number") rfl)
  have q13 := He.glo_ok X G (c.fact 20 (f := .glo "are_numbers") rfl)
  have q14 := He.glo_ok X G (c.fact 21 (f := .glo "is_name") rfl)
  have q15 := He.exc_ok (c.fact 26 (f := .exc "BadFeast") rfl)
  have q16 := He.glo_ok X G (c.fact 27 (f := .glo "BadFeast") rfl)
  have q17 := He.cls_ok (c.fact 28 (f := .cls "Feast") rfl)
  have q18 := He.noat_ok (c.fact 29 (f := .noat "Feast" "name") rfl)
  have q19 := He.noat_ok (c.fact 30 (f := .noat "Feast" "place") rfl)
  have q20 := He.noat_ok (c.fact 31 (f := .noat "Feast" "lasts") rfl)
  have q21 := He.noat_ok (c.fact 32 (f := .noat "Feast" "kept") rfl)
  have q22 := He.noat_ok (c.fact 33 (f := .noat "Feast" "acts") rfl)
  have q23 := He.mkr_ok (c.fact 34 (f := .mkr "Feast") rfl)
  have q24 := He.glo_ok X G (c.fact 35 (f := .glo "ReadError") rfl)
  have q25 := He.glo_ok X G (c.fact 36 (f := .glo "Feast") rfl)
  have q26 := He.glo_ok X G (c.fact 37 (f := .glo "BadCalendar") rfl)
  have q27 := He.glo_ok X G (c.fact 38 (f := .glo "BadBook") rfl)
  have q28 := He.free_ok X G (c.fact 39 (f := .free "ValueError") rfl)
  have q29 := He.glo_ok X G (c.fact 40 (f := .glo "BadText") rfl)
  have q30 := He.glo_ok X G (c.fact 41 (f := .glo "BadRow") rfl)
  have q31 := He.glo_ok X G (c.fact 42 (f := .glo "BadNumber") rfl)
  have q32 := He.glo_ok X G (c.fact 43 (f := .glo "BadHouse") rfl)
  have q33 := He.glo_ok X G (c.fact 44 (f := .glo "NoPiece") rfl)
  have q34 := He.glo_ok X G (c.fact 45 (f := .glo "NoDeed") rfl)
  have q35 := He.glo_ok X G (c.fact 46 (f := .glo "NoDay") rfl)
  have q36 := He.glo_ok X G (c.fact 47 (f := .glo "NeverDone") rfl)
  have q37 := He.glo_ok X G (c.fact 48 (f := .glo "TooTight") rfl)
  have q38 := He.glo_ok X G (c.fact 49 (f := .glo "TooFar") rfl)
  have q39 := He.glo_ok X G (c.fact 50 (f := .glo "NoRow") rfl)
  have q40 := He.exc_ok (c.fact 51 (f := .exc "BadCalendar") rfl)
  have q41 := He.cls_ok (c.fact 52 (f := .cls "Calendar") rfl)
  have q42 := He.noat_ok (c.fact 53 (f := .noat "Calendar" "lengths") rfl)
  have q43 := He.noat_ok (c.fact 54 (f := .noat "Calendar" "begins") rfl)
  have q44 := He.noat_ok (c.fact 55 (f := .noat "Calendar" "whole") rfl)
  have q45 := He.exc_ok (c.fact 56 (f := .exc "NoDay") rfl)
  have q46 := He.glo_ok X G (c.fact 57 (f := .glo "need_day") rfl)
  have q47 := He.free_ok X G (c.fact 58 (f := .free "divmod") rfl)
  have q48 := He.meth_ok (c.fact 59 (f := .meth "Calendar" "years") rfl)
  have q49 := He.free_ok X G (c.fact 62 (f := .free "min") rfl)
  have q50 := He.meth_ok (c.fact 63 (f := .meth "Calendar" "at") rfl)
  have q51 := He.meth_ok (c.fact 64 (f := .meth "Feast" "span") rfl)
  have q52 := He.free_ok X G (c.fact 65 (f := .free "max") rfl)
  have q53 := He.glo_ok X G (c.fact 72 (f := .glo "_law_is") rfl)
  obtain ⟨fd_law_draw, G0_law_draw⟩ := c.def_ 0 (d := dd_law_draw) rfl
  have G_law_draw : GD K "_law_draw" "_law_draw" s_law_draw (He.ga K "_law_draw") fd_law_draw := G0_law_draw
  have B_law_draw : Binds K fd_law_draw ["_law_hold", "_law_many"] [] := G_law_draw.bindsN fun _ _ _ _ _ _ us hl => match us, hl with | [_, _], _ => rfl
  obtain ⟨fd_law_name, G0_law_name⟩ := c.def_ 1 (d := dd_law_name) rfl
  have G_law_name : GD K "_law_name" "_law_name" s_law_name (He.ga K "_law_name") fd_law_name := G0_law_name
  have B_law_name : Binds K fd_law_name ["_law_hold"] [] := G_law_name.bindsN fun _ _ _ _ _ _ us hl => match us, hl with | [_], _ => rfl
  obtain ⟨fd_law_acts, G0_law_acts⟩ := c.def_ 2 (d := dd_law_acts) rfl
  have G_law_acts : GD K "_law_acts" "_law_acts" s_law_acts (He.ga K "_law_acts") fd_law_acts := G0_law_acts
  have B_law_acts : Binds K fd_law_acts ["_law_hold"] [] := G_law_acts.bindsN fun _ _ _ _ _ _ us hl => match us, hl with | [_], _ => rfl
  obtain ⟨fd_law_kept, G0_law_kept⟩ := c.def_ 3 (d := dd_law_kept) rfl
  have G_law_kept : GD K "_law_kept" "_law_kept" s_law_kept (He.ga K "_law_kept") fd_law_kept := G0_law_kept
  have B_law_kept : Binds K fd_law_kept ["_law_hold"] [] := G_law_kept.bindsN fun _ _ _ _ _ _ us hl => match us, hl with | [_], _ => rfl
  obtain ⟨fd_law_feast, G0_law_feast⟩ := c.def_ 4 (d := dd_law_feast) rfl
  have G_law_feast : GD K "_law_feast" "_law_feast" s_law_feast (He.ga K "_law_feast") fd_law_feast := G0_law_feast
  have B_law_feast : Binds K fd_law_feast ["_law_hold"] [] := G_law_feast.bindsN fun _ _ _ _ _ _ us hl => match us, hl with | [_], _ => rfl
  obtain ⟨fd_law_bad_name, G0_law_bad_name⟩ := c.def_ 5 (d := dd_law_bad_name) rfl
  have G_law_bad_name : GD K "_law_bad_name" "_law_bad_name" s_law_bad_name (He.ga K "_law_bad_name") fd_law_bad_name := G0_law_bad_name
  have B_law_bad_name : Binds K fd_law_bad_name ["_law_hold"] [] := G_law_bad_name.bindsN fun _ _ _ _ _ _ us hl => match us, hl with | [_], _ => rfl
  obtain ⟨fd_law_far, G0_law_far⟩ := c.def_ 6 (d := dd_law_far) rfl
  have G_law_far : GD K "_law_far" "_law_far" s_law_far (He.ga K "_law_far") fd_law_far := G0_law_far
  have B_law_far : Binds K fd_law_far ["_law_hold"] [] := G_law_far.bindsN fun _ _ _ _ _ _ us hl => match us, hl with | [_], _ => rfl
  obtain ⟨fd_law_beyond, G0_law_beyond⟩ := c.def_ 7 (d := dd_law_beyond) rfl
  have G_law_beyond : GD K "_law_beyond" "_law_beyond" s_law_beyond (He.ga K "_law_beyond") fd_law_beyond := G0_law_beyond
  have B_law_beyond : Binds K fd_law_beyond ["_law_hold"] [] := G_law_beyond.bindsN fun _ _ _ _ _ _ us hl => match us, hl with | [_], _ => rfl
  obtain ⟨fd_law_bad_years, G0_law_bad_years⟩ := c.def_ 8 (d := dd_law_bad_years) rfl
  have G_law_bad_years : GD K "_law_bad_years" "_law_bad_years" s_law_bad_years (He.ga K "_law_bad_years") fd_law_bad_years := G0_law_bad_years
  have B_law_bad_years : Binds K fd_law_bad_years ["_law_hold"] [] := G_law_bad_years.bindsN fun _ _ _ _ _ _ us hl => match us, hl with | [_], _ => rfl
  obtain ⟨fd_law_bad_puts, G0_law_bad_puts⟩ := c.def_ 9 (d := dd_law_bad_puts) rfl
  have G_law_bad_puts : GD K "_law_bad_puts" "_law_bad_puts" s_law_bad_puts (He.ga K "_law_bad_puts") fd_law_bad_puts := G0_law_bad_puts
  have B_law_bad_puts : Binds K fd_law_bad_puts ["_law_hold"] [] := G_law_bad_puts.bindsN fun _ _ _ _ _ _ us hl => match us, hl with | [_], _ => rfl
  obtain ⟨fd_law_spoil, G0_law_spoil⟩ := c.def_ 10 (d := dd_law_spoil) rfl
  have G_law_spoil : GD K "_law_spoil" "_law_spoil" s_law_spoil (He.ga K "_law_spoil") fd_law_spoil := G0_law_spoil
  have B_law_spoil : Binds K fd_law_spoil ["_law_some", "_law_which", "_law_hold"] [] := G_law_spoil.bindsN fun _ _ _ _ _ _ us hl => match us, hl with | [_, _, _], _ => rfl
  obtain ⟨fd_is_name, G0_is_name⟩ := c.def_ 11 (d := dd_is_name) rfl
  have G_is_name : GD K "is_name" "is_name" s_is_name (He.ga K "is_name") fd_is_name := G0_is_name
  have B_is_name : Binds K fd_is_name ["thing"] [] := G_is_name.bindsN fun _ _ _ _ _ _ us hl => match us, hl with | [_], _ => rfl
  obtain ⟨fd_is_number, G0_is_number⟩ := c.def_ 12 (d := dd_is_number) rfl
  have G_is_number : GD K "is_number" "is_number" s_is_number (He.ga K "is_number") fd_is_number := G0_is_number
  have B_is_number : Binds K fd_is_number ["thing", "least", "most"] [] := G_is_number.bindsN fun _ _ _ _ _ _ us hl => match us, hl with | [_, _, _], _ => rfl
  obtain ⟨fd_are_numbers, G0_are_numbers⟩ := c.def_ 13 (d := dd_are_numbers) rfl
  have G_are_numbers : GD K "are_numbers" "are_numbers" s_are_numbers (He.ga K "are_numbers") fd_are_numbers := G0_are_numbers
  have B_are_numbers : Binds K fd_are_numbers ["thing", "long", "least", "most"] [] := G_are_numbers.bindsN fun _ _ _ _ _ _ us hl => match us, hl with | [_, _, _, _], _ => rfl
  obtain ⟨fd_good_years, G0_good_years⟩ := c.def_ 14 (d := dd_good_years) rfl
  have G_good_years : GD K "good_years" "good_years" s_good_years (He.ga K "good_years") fd_good_years := G0_good_years
  have B_good_years : Binds K fd_good_years ["years"] [] := G_good_years.bindsN fun _ _ _ _ _ _ us hl => match us, hl with | [_], _ => rfl
  obtain ⟨fd_is_put, G0_is_put⟩ := c.def_ 15 (d := dd_is_put) rfl
  have G_is_put : GD K "is_put" "is_put" s_is_put (He.ga K "is_put") fd_is_put := G0_is_put
  have B_is_put : Binds K fd_is_put ["pair"] [] := G_is_put.bindsN fun _ _ _ _ _ _ us hl => match us, hl with | [_], _ => rfl
  obtain ⟨fd_good_puts, G0_good_puts⟩ := c.def_ 16 (d := dd_good_puts) rfl
  have G_good_puts : GD K "good_puts" "good_puts" s_good_puts (He.ga K "good_puts") fd_good_puts := G0_good_puts
  have B_good_puts : Binds K fd_good_puts ["puts"] [] := G_good_puts.bindsN fun _ _ _ _ _ _ us hl => match us, hl with | [_], _ => rfl
  obtain ⟨fd_Feast_init, G0_Feast_init⟩ := c.def_ 17 (d := dd_Feast_init) rfl
  have G_Feast_init : FunD K "__init__" "Feast.__init__" (defArgs s_Feast_init) (defBody s_Feast_init) (defScope s_Feast_init) [.int (1), .non, .non] [] (He.ma K (He.ga K "Feast") "__init__") fd_Feast_init := G0_Feast_init
  obtain ⟨ds_Feast_init, V_Feast_init, B0_Feast_init⟩ := FunD.binds1 (ps := ["self", "name", "place", "days", "years", "puts"]) G_Feast_init 6 3 (by simp) (by decide) fun _ _ _ _ _ _ _ us its hu hi => match us, its, hu, hi with | [_, _, _, _, _, _], [_, _, _], _, _ => ⟨_, rfl, rfl⟩
  have B_Feast_init : Binds K fd_Feast_init ["self", "name", "place", "days", "years", "puts"] [] := by
    cases V_Feast_init
    exact B0_Feast_init
  obtain ⟨fd_law_bad, G0_law_bad⟩ := c.def_ 18 (d := dd_law_bad) rfl
  have G_law_bad : GD K "_law_bad" "_law_bad" s_law_bad (He.ga K "_law_bad") fd_law_bad := G0_law_bad
  have B_law_bad : Binds K fd_law_bad ["_law_some"] [] := G_law_bad.bindsN fun _ _ _ _ _ _ us hl => match us, hl with | [_], _ => rfl
  obtain ⟨fd_Calendar_init, G0_Calendar_init⟩ := c.def_ 19 (d := dd_Calendar_init) rfl
  have G_Calendar_init : GD K "__init__" "Calendar.__init__" s_Calendar_init (He.ma K (He.ga K "Calendar") "__init__") fd_Calendar_init := G0_Calendar_init
  have B_Calendar_init : Binds K fd_Calendar_init ["self", "years"] [] := G_Calendar_init.bindsN fun _ _ _ _ _ _ us hl => match us, hl with | [_, _], _ => rfl
  obtain ⟨fd_law_lengths, G0_law_lengths⟩ := c.def_ 20 (d := dd_law_lengths) rfl
  have G_law_lengths : GD K "_law_lengths" "_law_lengths" s_law_lengths (He.ga K "_law_lengths") fd_law_lengths := G0_law_lengths
  have B_law_lengths : Binds K fd_law_lengths ["_law_hold", "_law_most", "_law_many"] [] := G_law_lengths.bindsN fun _ _ _ _ _ _ us hl => match us, hl with | [_, _, _], _ => rfl
  obtain ⟨fd_need_day, G0_need_day⟩ := c.def_ 21 (d := dd_need_day) rfl
  have G_need_day : GD K "need_day" "need_day" s_need_day (He.ga K "need_day") fd_need_day := G0_need_day
  have B_need_day : Binds K fd_need_day ["number"] [] := G_need_day.bindsN fun _ _ _ _ _ _ us hl => match us, hl with | [_], _ => rfl
  obtain ⟨fd_Calendar_years, G0_Calendar_years⟩ := c.def_ 22 (d := dd_Calendar_years) rfl
  have G_Calendar_years : GD K "years" "Calendar.years" s_Calendar_years (He.ma K (He.ga K "Calendar") "years") fd_Calendar_years := G0_Calendar_years
  have B_Calendar_years : Binds K fd_Calendar_years ["self"] [] := G_Calendar_years.bindsN fun _ _ _ _ _ _ us hl => match us, hl with | [_], _ => rfl
  obtain ⟨fd_Calendar_long, G0_Calendar_long⟩ := c.def_ 23 (d := dd_Calendar_long) rfl
  have G_Calendar_long : GD K "long" "Calendar.long" s_Calendar_long (He.ma K (He.ga K "Calendar") "long") fd_Calendar_long := G0_Calendar_long
  have B_Calendar_long : Binds K fd_Calendar_long ["self", "year"] [] := G_Calendar_long.bindsN fun _ _ _ _ _ _ us hl => match us, hl with | [_, _], _ => rfl
  obtain ⟨fd_Calendar_first, G0_Calendar_first⟩ := c.def_ 24 (d := dd_Calendar_first) rfl
  have G_Calendar_first : GD K "first" "Calendar.first" s_Calendar_first (He.ma K (He.ga K "Calendar") "first") fd_Calendar_first := G0_Calendar_first
  have B_Calendar_first : Binds K fd_Calendar_first ["self", "year"] [] := G_Calendar_first.bindsN fun _ _ _ _ _ _ us hl => match us, hl with | [_, _], _ => rfl
  obtain ⟨fd_Feast_span, G0_Feast_span⟩ := c.def_ 25 (d := dd_Feast_span) rfl
  have G_Feast_span : GD K "span" "Feast.span" s_Feast_span (He.ma K (He.ga K "Feast") "span") fd_Feast_span := G0_Feast_span
  have B_Feast_span : Binds K fd_Feast_span ["self", "calendar", "year"] [] := G_Feast_span.bindsN fun _ _ _ _ _ _ us hl => match us, hl with | [_, _, _], _ => rfl
  obtain ⟨fd_Calendar_at, G0_Calendar_at⟩ := c.def_ 26 (d := dd_Calendar_at) rfl
  have G_Calendar_at : GD K "at" "Calendar.at" s_Calendar_at (He.ma K (He.ga K "Calendar") "at") fd_Calendar_at := G0_Calendar_at
  have B_Calendar_at : Binds K fd_Calendar_at ["self", "day"] [] := G_Calendar_at.bindsN fun _ _ _ _ _ _ us hl => match us, hl with | [_, _], _ => rfl
  obtain ⟨fd_Feast_keeps, G0_Feast_keeps⟩ := c.def_ 27 (d := dd_Feast_keeps) rfl
  have G_Feast_keeps : GD K "keeps" "Feast.keeps" s_Feast_keeps (He.ma K (He.ga K "Feast") "keeps") fd_Feast_keeps := G0_Feast_keeps
  have B_Feast_keeps : Binds K fd_Feast_keeps ["self", "calendar", "day"] [] := G_Feast_keeps.bindsN fun _ _ _ _ _ _ us hl => match us, hl with | [_, _, _], _ => rfl
  obtain ⟨fd_Feast_next_kept, G0_Feast_next_kept⟩ := c.def_ 28 (d := dd_Feast_next_kept) rfl
  have G_Feast_next_kept : GD K "next_kept" "Feast.next_kept" s_Feast_next_kept (He.ma K (He.ga K "Feast") "next_kept") fd_Feast_next_kept := G0_Feast_next_kept
  have B_Feast_next_kept : Binds K fd_Feast_next_kept ["self", "calendar", "day"] [] := G_Feast_next_kept.bindsN fun _ _ _ _ _ _ us hl => match us, hl with | [_, _, _], _ => rfl
  obtain ⟨fd_Calendar_turn, G0_Calendar_turn⟩ := c.def_ 29 (d := dd_Calendar_turn) rfl
  have G_Calendar_turn : GD K "turn" "Calendar.turn" s_Calendar_turn (He.ma K (He.ga K "Calendar") "turn") fd_Calendar_turn := G0_Calendar_turn
  have B_Calendar_turn : Binds K fd_Calendar_turn ["self"] [] := G_Calendar_turn.bindsN fun _ _ _ _ _ _ us hl => match us, hl with | [_], _ => rfl
  obtain ⟨fd_Feast_kept_in, G0_Feast_kept_in⟩ := c.def_ 30 (d := dd_Feast_kept_in) rfl
  have G_Feast_kept_in : GD K "kept_in" "Feast.kept_in" s_Feast_kept_in (He.ma K (He.ga K "Feast") "kept_in") fd_Feast_kept_in := G0_Feast_kept_in
  have B_Feast_kept_in : Binds K fd_Feast_kept_in ["self", "calendar", "year", "end"] [] := G_Feast_kept_in.bindsN fun _ _ _ _ _ _ us hl => match us, hl with | [_, _, _, _], _ => rfl
  obtain ⟨fd_Feast_kept_ahead, G0_Feast_kept_ahead⟩ := c.def_ 31 (d := dd_Feast_kept_ahead) rfl
  have G_Feast_kept_ahead : GD K "kept_ahead" "Feast.kept_ahead" s_Feast_kept_ahead (He.ma K (He.ga K "Feast") "kept_ahead") fd_Feast_kept_ahead := G0_Feast_kept_ahead
  have B_Feast_kept_ahead : Binds K fd_Feast_kept_ahead ["self", "calendar", "day"] [] := G_Feast_kept_ahead.bindsN fun _ _ _ _ _ _ us hl => match us, hl with | [_, _, _], _ => rfl
  obtain ⟨fd_law_asked, G0_law_asked⟩ := c.def_ 32 (d := dd_law_asked) rfl
  have G_law_asked : GD K "_law_asked" "_law_asked" s_law_asked (He.ga K "_law_asked") fd_law_asked := G0_law_asked
  have B_law_asked : Binds K fd_law_asked ["_law_feast_here", "_law_calendar", "_law_door", "_law_number"] [] := G_law_asked.bindsN fun _ _ _ _ _ _ us hl => match us, hl with | [_, _, _, _], _ => rfl
  obtain ⟨fd_law_is, G0_law_is⟩ := c.def_ 33 (d := dd_law_is) rfl
  have G_law_is : GD K "_law_is" "_law_is" s_law_is (He.ga K "_law_is") fd_law_is := G0_law_is
  have B_law_is : Binds K fd_law_is ["_law_found", "_law_due"] [] := G_law_is.bindsN fun _ _ _ _ _ _ us hl => match us, hl with | [_, _], _ => rfl
  obtain ⟨fd_law_row_is, G0_law_row_is⟩ := c.def_ 34 (d := dd_law_row_is) rfl
  have G_law_row_is : GD K "_law_row_is" "_law_row_is" s_law_row_is (He.ga K "_law_row_is") fd_law_row_is := G0_law_row_is
  have B_law_row_is : Binds K fd_law_row_is ["_law_found", "_law_due"] [] := G_law_row_is.bindsN fun _ _ _ _ _ _ us hl => match us, hl with | [_, _], _ => rfl
  obtain ⟨fd_law_told_is, G0_law_told_is⟩ := c.def_ 35 (d := dd_law_told_is) rfl
  have G_law_told_is : GD K "_law_told_is" "_law_told_is" s_law_told_is (He.ga K "_law_told_is") fd_law_told_is := G0_law_told_is
  have B_law_told_is : Binds K fd_law_told_is ["_law_found", "_law_due"] [] := G_law_told_is.bindsN fun _ _ _ _ _ _ us hl => match us, hl with | [_, _], _ => rfl
  obtain ⟨fd_Feast_told, G0_Feast_told⟩ := c.def_ 36 (d := dd_Feast_told) rfl
  have G_Feast_told : GD K "told" "Feast.told" s_Feast_told (He.ma K (He.ga K "Feast") "told") fd_Feast_told := G0_Feast_told
  have B_Feast_told : Binds K fd_Feast_told ["self"] [] := G_Feast_told.bindsN fun _ _ _ _ _ _ us hl => match us, hl with | [_], _ => rfl
  obtain ⟨fd_law, G0_law⟩ := c.def_ 37 (d := dd_law) rfl
  have G_law : GD K "law" "law" s_law (He.ga K "law") fd_law := G0_law
  have b := FunD.bindsA (ps := ["_law_script"]) G_law fun _ _ _ _ _ _ us hl => match us, hl with | [_], _ => rfl
  refine ⟨fd_law, fun s v => b s [v] rfl, fun base _ _ => ?_⟩
  have F_law_draw : FnOk P w K mg base (L2.CX P w) 1 _ fd_law_draw ["_law_hold", "_law_many"] (spD K (c_law_draw K)) := ok_law_draw G_law_draw q0
  have F_law_name : FnOk P w K mg base (L2.CX P w) 2 _ fd_law_name ["_law_hold"] (spD K (c_law_name K)) := ok_law_name G_law_name ⟨⟨F_law_draw, B_law_draw⟩, q1, G_law_draw.kp⟩ q2
  have F_law_acts : FnOk P w K mg base (L2.CX P w) 3 _ fd_law_acts ["_law_hold"] (spD K (c_law_acts K)) := ok_law_acts G_law_acts ⟨⟨F_law_draw, B_law_draw⟩, q1, G_law_draw.kp⟩ ⟨⟨F_law_name, B_law_name⟩, q3, G_law_name.kp⟩ q2
  have F_law_kept : FnOk P w K mg base (L2.CX P w) 2 _ fd_law_kept ["_law_hold"] (spD K (c_law_kept K)) := ok_law_kept G_law_kept ⟨⟨F_law_draw, B_law_draw⟩, q1, G_law_draw.kp⟩ q4 q2
  have F_law_feast : FnOk P w K mg base (L2.CX P w) 4 _ fd_law_feast ["_law_hold"] (spD K (c_law_feast K)) := ok_law_feast G_law_feast ⟨⟨F_law_draw, B_law_draw⟩, q1, G_law_draw.kp⟩ ⟨⟨F_law_acts, B_law_acts⟩, (He.glo_ok X G (c.fact 5 (f := .glo "_law_acts") rfl)), G_law_acts.kp⟩ ⟨⟨F_law_kept, B_law_kept⟩, (He.glo_ok X G (c.fact 6 (f := .glo "_law_kept") rfl)), G_law_kept.kp⟩ ⟨⟨F_law_name, B_law_name⟩, q3, G_law_name.kp⟩
  have F_law_bad_name : FnOk P w K mg base (L2.CX P w) 3 _ fd_law_bad_name ["_law_hold"] (spD K (c_law_bad_name K)) := ok_law_bad_name G_law_bad_name ⟨⟨F_law_draw, B_law_draw⟩, q1, G_law_draw.kp⟩ ⟨⟨F_law_name, B_law_name⟩, q3, G_law_name.kp⟩ q0
  have F_law_far : FnOk P w K mg base (L2.CX P w) 2 _ fd_law_far ["_law_hold"] (spD K (c_law_far K)) := ok_law_far G_law_far ⟨⟨F_law_draw, B_law_draw⟩, q1, G_law_draw.kp⟩ q2
  have F_law_beyond : FnOk P w K mg base (L2.CX P w) 3 _ fd_law_beyond ["_law_hold"] (spD K (c_law_beyond K)) := ok_law_beyond G_law_beyond ⟨⟨F_law_draw, B_law_draw⟩, q1, G_law_draw.kp⟩ ⟨⟨F_law_far, B_law_far⟩, (He.glo_ok X G (c.fact 7 (f := .glo "_law_far") rfl)), G_law_far.kp⟩
  have F_law_bad_years : FnOk P w K mg base (L2.CX P w) 4 _ fd_law_bad_years ["_law_hold"] (spD K (c_law_bad_years K)) := ok_law_bad_years G_law_bad_years ⟨⟨F_law_draw, B_law_draw⟩, q1, G_law_draw.kp⟩ ⟨⟨F_law_beyond, B_law_beyond⟩, q5, G_law_beyond.kp⟩ q2 q0 q4 q6
  have F_law_bad_puts : FnOk P w K mg base (L2.CX P w) 4 _ fd_law_bad_puts ["_law_hold"] (spD K (c_law_bad_puts K)) := ok_law_bad_puts G_law_bad_puts ⟨⟨F_law_draw, B_law_draw⟩, q1, G_law_draw.kp⟩ ⟨⟨F_law_name, B_law_name⟩, q3, G_law_name.kp⟩ ⟨⟨F_law_bad_name, B_law_bad_name⟩, q7, G_law_bad_name.kp⟩ q6
  have F_law_spoil : FnOk P w K mg base (L2.CX P w) 5 _ fd_law_spoil ["_law_some", "_law_which", "_law_hold"] (spD K (c_law_spoil K)) := ok_law_spoil G_law_spoil ⟨⟨F_law_draw, B_law_draw⟩, q1, G_law_draw.kp⟩ ⟨⟨F_law_bad_name, B_law_bad_name⟩, q7, G_law_bad_name.kp⟩ ⟨⟨F_law_beyond, B_law_beyond⟩, q5, G_law_beyond.kp⟩ ⟨⟨F_law_bad_years, B_law_bad_years⟩, (He.glo_ok X G (c.fact 11 (f := .glo "_law_bad_years") rfl)), G_law_bad_years.kp⟩ ⟨⟨F_law_bad_puts, B_law_bad_puts⟩, (He.glo_ok X G (c.fact 12 (f := .glo "_law_bad_puts") rfl)), G_law_bad_puts.kp⟩
  have F_is_name : FnOk P w K mg base (L2.CX P w) 1 _ fd_is_name ["thing"] (spD K (c_is_name K)) := ok_is_name G_is_name (He.free_ok X G (c.fact 13 (f := .free "str") rfl)) q8 q0 (He.str_ok X G (c.fact 15 (f := .str "LETTERS" "abcdefghijklmnopqrstuvwxyz") rfl)) q9
  have F_is_number : FnOk P w K mg base (L2.CX P w) 1 _ fd_is_number ["thing", "least", "most"] (spD K (c_is_number K)) := ok_is_number G_is_number q10 q8 q11
  have F_are_numbers : FnOk P w K mg base (L2.CX P w) 2 _ fd_are_numbers ["thing", "long", "least", "most"] (spD K (c_are_numbers K)) := ok_are_numbers G_are_numbers ⟨⟨F_is_number, B_is_number⟩, q12, G_is_number.kp⟩ q4 q8 q0 q9
  have F_good_years : FnOk P w K mg base (L2.CX P w) 3 _ fd_good_years ["years"] (spD K (c_good_years K)) := ok_good_years G_good_years ⟨⟨F_are_numbers, B_are_numbers⟩, q13, G_are_numbers.kp⟩ q0 q2 q9
  have F_is_put : FnOk P w K mg base (L2.CX P w) 2 _ fd_is_put ["pair"] (spD K (c_is_put K)) := ok_is_put G_is_put ⟨⟨F_is_name, B_is_name⟩, q14, G_is_name.kp⟩ q6 q8 q0
  have F_good_puts : FnOk P w K mg base (L2.CX P w) 3 _ fd_good_puts ["puts"] (spD K (c_good_puts K)) := ok_good_puts G_good_puts ⟨⟨F_is_put, B_is_put⟩, (He.glo_ok X G (c.fact 22 (f := .glo "is_put") rfl)), G_is_put.kp⟩ q4 q8 q0 q9 (He.free_ok X G (c.fact 23 (f := .free "set") rfl))
  have F_Feast_init : FnOk P w K mg base (L2.CX P w) 4 _ fd_Feast_init ["self", "name", "place", "days", "years", "puts"] (spD K (c_Feast_init K)) := ok_Feast_init G_Feast_init ⟨⟨F_is_name, B_is_name⟩, q14, G_is_name.kp⟩ ⟨⟨F_is_number, B_is_number⟩, q12, G_is_number.kp⟩ ⟨⟨F_good_years, B_good_years⟩, (He.glo_ok X G (c.fact 24 (f := .glo "good_years") rfl)), G_good_years.kp⟩ ⟨⟨F_good_puts, B_good_puts⟩, (He.glo_ok X G (c.fact 25 (f := .glo "good_puts") rfl)), G_good_puts.kp⟩ ⟨q15.1, q16, q15.2.1, q15.2.2.1, q15.2.2.2⟩ q4 (⟨q17, q18, q19, q20, q21, q22⟩)
  have F_law_bad : FnOk P w K mg base (L2.CX P w) 6 _ fd_law_bad ["_law_some"] (spD K (c_law_bad K)) := ok_law_bad G_law_bad ⟨F_Feast_init, B_Feast_init⟩ q23 q24 q25 q26 q8 q27 q16 q28 q29 q30 q31 q32 q33 q34 q35 q36 q37 q38 q39 (kexcB_ok (exAll_at cx 0 (e := kexcB excNames) rfl))
  have F_Calendar_init : FnOk P w K mg base (L2.CX P w) 3 _ fd_Calendar_init ["self", "years"] (spD K (c_Calendar_init K)) := ok_Calendar_init G_Calendar_init ⟨⟨F_are_numbers, B_are_numbers⟩, q13, G_are_numbers.kp⟩ ⟨q40.1, q26, q40.2.1, q40.2.2.1, q40.2.2.2⟩ q4 (⟨q41, q42, q43, q44⟩)
  have F_law_lengths : FnOk P w K mg base (L2.CX P w) 2 _ fd_law_lengths ["_law_hold", "_law_most", "_law_many"] (spD K (c_law_lengths K)) := ok_law_lengths G_law_lengths ⟨⟨F_law_draw, B_law_draw⟩, q1, G_law_draw.kp⟩ q2
  have F_need_day : FnOk P w K mg base (L2.CX P w) 1 _ fd_need_day ["number"] (spD K (c_need_day K)) := ok_need_day G_need_day ⟨q45.1, q35, q45.2.1, q45.2.2.1, q45.2.2.2⟩
  have F_Calendar_years : FnOk P w K mg base (L2.CX P w) 1 _ fd_Calendar_years ["self"] (spD K (c_Calendar_years K)) := ok_Calendar_years G_Calendar_years q4 (⟨q41, q42, q43, q44⟩)
  have F_Calendar_long : FnOk P w K mg base (L2.CX P w) 2 _ fd_Calendar_long ["self", "year"] (spD K (c_Calendar_long K)) := ok_Calendar_long G_Calendar_long ⟨⟨F_need_day, B_need_day⟩, q46, G_need_day.kp⟩ q0 (⟨q41, q42, q43, q44⟩)
  have F_Calendar_first : FnOk P w K mg base (L2.CX P w) 2 _ fd_Calendar_first ["self", "year"] (spD K (c_Calendar_first K)) := ok_Calendar_first G_Calendar_first ⟨⟨F_need_day, B_need_day⟩, q46, G_need_day.kp⟩ q0 q47 (⟨q41, q42, q43, q44⟩)
  have F_Feast_span : FnOk P w K mg base (L2.CX P w) 3 _ fd_Feast_span ["self", "calendar", "year"] (spD K (c_Feast_span K)) := ok_Feast_span G_Feast_span ⟨⟨F_need_day, B_need_day⟩, q46, G_need_day.kp⟩ ⟨F_Calendar_years, B_Calendar_years⟩ ⟨F_Calendar_long, B_Calendar_long⟩ ⟨F_Calendar_first, B_Calendar_first⟩ q41 q48 q0 (He.meth_ok (c.fact 60 (f := .meth "Calendar" "long") rfl)) (He.meth_ok (c.fact 61 (f := .meth "Calendar" "first") rfl)) q49 (⟨q17, q18, q19, q20, q21, q22⟩)
  have F_Calendar_at : FnOk P w K mg base (L2.CX P w) 2 _ fd_Calendar_at ["self", "day"] (spD K (c_Calendar_at K)) := ok_Calendar_at G_Calendar_at ⟨⟨F_need_day, B_need_day⟩, q46, G_need_day.kp⟩ q47 q0 (⟨q41, q42, q43, q44⟩)
  have F_Feast_keeps : FnOk P w K mg base (L2.CX P w) 4 _ fd_Feast_keeps ["self", "calendar", "day"] (spD K (c_Feast_keeps K)) := ok_Feast_keeps G_Feast_keeps ⟨F_Calendar_at, B_Calendar_at⟩ ⟨F_Feast_span, B_Feast_span⟩ q41 q50 q17 q51
  have F_Feast_next_kept : FnOk P w K mg base (L2.CX P w) 4 _ fd_Feast_next_kept ["self", "calendar", "day"] (spD K (c_Feast_next_kept K)) := ok_Feast_next_kept G_Feast_next_kept ⟨F_Calendar_at, B_Calendar_at⟩ ⟨F_Calendar_years, B_Calendar_years⟩ ⟨F_Feast_span, B_Feast_span⟩ q41 q50 q48 q0 q2 q17 q51 q52
  have F_Calendar_turn : FnOk P w K mg base (L2.CX P w) 1 _ fd_Calendar_turn ["self"] (spD K (c_Calendar_turn K)) := ok_Calendar_turn G_Calendar_turn (⟨q41, q42, q43, q44⟩)
  have F_Feast_kept_in : FnOk P w K mg base (L2.CX P w) 4 _ fd_Feast_kept_in ["self", "calendar", "year", "end"] (spD K (c_Feast_kept_in K)) := ok_Feast_kept_in G_Feast_kept_in ⟨F_Feast_span, B_Feast_span⟩ q17 q51 q49 q52
  have F_Feast_kept_ahead : FnOk P w K mg base (L2.CX P w) 5 _ fd_Feast_kept_ahead ["self", "calendar", "day"] (spD K (c_Feast_kept_ahead K)) := ok_Feast_kept_ahead G_Feast_kept_ahead ⟨F_Calendar_at, B_Calendar_at⟩ ⟨F_Calendar_years, B_Calendar_years⟩ ⟨F_Calendar_turn, B_Calendar_turn⟩ ⟨F_Feast_kept_in, B_Feast_kept_in⟩ q41 q50 q48 q0 q2 (He.meth_ok (c.fact 66 (f := .meth "Calendar" "turn") rfl)) q17 (He.meth_ok (c.fact 67 (f := .meth "Feast" "kept_in") rfl)) (He.free_ok X G (c.fact 68 (f := .free "sum") rfl))
  have F_law_asked : FnOk P w K mg base (L2.CX P w) 6 _ fd_law_asked ["_law_feast_here", "_law_calendar", "_law_door", "_law_number"] (spD K (c_law_asked K)) := ok_law_asked G_law_asked ⟨F_Feast_span, B_Feast_span⟩ ⟨F_Feast_keeps, B_Feast_keeps⟩ ⟨F_Feast_next_kept, B_Feast_next_kept⟩ ⟨F_Feast_kept_ahead, B_Feast_kept_ahead⟩ q24 q17 q51 (He.meth_ok (c.fact 69 (f := .meth "Feast" "keeps") rfl)) (He.meth_ok (c.fact 70 (f := .meth "Feast" "next_kept") rfl)) (He.meth_ok (c.fact 71 (f := .meth "Feast" "kept_ahead") rfl)) q16 q8 q27 q35 q28 q29 q30 q31 q32 q34 q26 q36 q37 q38 q39 q33 (kexcB_ok (exAll_at cx 0 (e := kexcB excNames) rfl))
  have F_law_is : FnOk P w K mg base (L2.CX P w) 1 _ fd_law_is ["_law_found", "_law_due"] (spD K (c_law_is K)) := ok_law_is G_law_is q10 q8 q11
  have F_law_row_is : FnOk P w K mg base (L2.CX P w) 2 _ fd_law_row_is ["_law_found", "_law_due"] (spD K (c_law_row_is K)) := ok_law_row_is G_law_row_is ⟨⟨F_law_is, B_law_is⟩, q53, G_law_is.kp⟩ q4 q8 q6 q0 q2
  have F_law_told_is : FnOk P w K mg base (L2.CX P w) 3 _ fd_law_told_is ["_law_found", "_law_due"] (spD K (c_law_told_is K)) := ok_law_told_is G_law_told_is ⟨⟨F_law_is, B_law_is⟩, q53, G_law_is.kp⟩ ⟨⟨F_law_row_is, B_law_row_is⟩, (He.glo_ok X G (c.fact 73 (f := .glo "_law_row_is") rfl)), G_law_row_is.kp⟩ q6 q8 q0 q4
  have F_Feast_told : FnOk P w K mg base (L2.CX P w) 1 _ fd_Feast_told ["self"] (spD K (c_Feast_told K)) := ok_Feast_told G_Feast_told q4 (⟨q17, q18, q19, q20, q21, q22⟩)
  exact ok_law (base := base) G_law ⟨⟨F_law_feast, B_law_feast⟩, (He.glo_ok X G (c.fact 74 (f := .glo "_law_feast") rfl)), G_law_feast.kp⟩ ⟨⟨F_law_draw, B_law_draw⟩, q1, G_law_draw.kp⟩ ⟨⟨F_law_spoil, B_law_spoil⟩, (He.glo_ok X G (c.fact 75 (f := .glo "_law_spoil") rfl)), G_law_spoil.kp⟩ ⟨⟨F_law_bad, B_law_bad⟩, (He.glo_ok X G (c.fact 76 (f := .glo "_law_bad") rfl)), G_law_bad.kp⟩ ⟨F_Feast_init, B_Feast_init⟩ q23 ⟨F_Calendar_init, B_Calendar_init⟩ (He.mkr_ok (c.fact 77 (f := .mkr "Calendar") rfl)) ⟨⟨F_law_lengths, B_law_lengths⟩, (He.glo_ok X G (c.fact 78 (f := .glo "_law_lengths") rfl)), G_law_lengths.kp⟩ ⟨⟨F_law_asked, B_law_asked⟩, (He.glo_ok X G (c.fact 79 (f := .glo "_law_asked") rfl)), G_law_asked.kp⟩ ⟨⟨F_law_beyond, B_law_beyond⟩, q5, G_law_beyond.kp⟩ ⟨⟨F_law_told_is, B_law_told_is⟩, (He.glo_ok X G (c.fact 80 (f := .glo "_law_told_is") rfl)), G_law_told_is.kp⟩ ⟨F_Feast_told, B_Feast_told⟩ q4 q0 q49 q52 q2 q25 (He.glo_ok X G (c.fact 81 (f := .glo "Calendar") rfl)) q17 (He.meth_ok (c.fact 82 (f := .meth "Feast" "told") rfl)) (⟨q41, q42, q43, q44⟩) (⟨q17, q18, q19, q20, q21, q22⟩)
end Dl
open PySem PySem.W PySem.Calls PyProof.Rows
set_option maxRecDepth 100000
set_option maxHeartbeats 0
theorem PySem.Challenge.cw_readround_k18_feasts_refused_holds : PySem.Challenge.rw_readround_k18_feasts_refused.Holds := by
  refine Dl.lawOf ?hc
  case hc =>
    refine Dl.walk_ofW (l := PySem.Challenge.rw_readround_k18_feasts_refused) (n := 63) (k := 7) (x := "_law_script") rfl (by decide) Dl.law_dflt ⟨rfl, by decide, by decide⟩ ?F
    intro w mg fa h Y G hmg0
    obtain ⟨K, KX, c, cx⟩ := Y
    have hmg : mg ("law" : PySem.Str) = some (.ref fa) := by
      rw [← Dl.law_name]
      exact hmg0
    obtain ⟨fd, hb, hF⟩ := Dl.facts (P := (PySem.Challenge.rw_readround_k18_feasts_refused).prog) (w := w) KX G hmg c cx
    exact ⟨K, fd, _, KX, hb, fun H a ns hl hO hS => Dl.law_sp hS ⟨ns, rfl, hl, fun _ => rfl⟩, hF⟩
