import PyProof.Rows.All
import Wide.All
import OpenK.AllK
import Wide.FinOn
import HandS.ForMost
import HandS.ForExc
import HandS.Lambda
import HandS.IsInst
import HandS.Wide
import HandS.Defaults
import HandS.Zip
import HandS.Strs
import HandS.Style
import HandS.HeadHook2
import HandS.Ends
import HandS.HeadEnd
import HandS.Head2
import PyProof.Rows.SetListFold
import HandS.Conv
import HandS.Text
import HandS.NoneIn
import HandS.Codes
import PyProof.LongRange
import HandS.SortKw
import KE.DataMinMax
import PyProof.ListRange
import HandS.SetFor
import HandS.ExcIs
import HandS.ExcInit
import HandS.ExcField
import HandS.CallSlots
import HandS.Iter
import HandS.HeadHook4
import HandS.HeadWalk
import HandS.Deep
import HandS.DictComp
import HandS.SortInts
import HandS.More
import PyProof.InstEq
import HandS.DictTup
import HandS.TupLen
import KE.KeyNested
import KE.SortData
import HandS.TryMany
import KE.KDictSum
import HandS.RevRange
import HandS.RaiseMore
import KE.KIntText
import HandS.MakeKw
import HandS.MakeKwOnly
import PySem.Challenge.RW_readround_k16_far_meetings
set_option Elab.async false
set_option linter.all false
set_option maxRecDepth 100000
/-! Dl: a layer of data over the hand layer's readings: what is frozen is told as data (D), what may still change stands in a list (Mu) -/
namespace Dl
open PySem L2
/-- data -/
inductive D where
  | non | bl (b : Bool) | int (i : Int) | str (x : Str) | ty (n : String)
  | tup (xs : List D) | lst (xs : List D)
  /-- a list, a tuple that is read alone (the script, a written one) -/
  | rdl (xs : List D) | rdt (xs : List D)
  | obj (C : Addr) (fs : List (Str × D))
  | dct (kvs : List (Key × D))
  /-- the k-th thing that may change -/
  | own (k : Nat)
  /-- an object of the written part -/
  | loc (a : Addr)
  /-- a caught exception: its class, its fields -/
  | exc (C : Addr) (fs : List (Str × D))
deriving Inhabited
/-- a caught exception in the heap: its class, its own dict -/
def ExV (cls : Value) (d : Option Addr) (a : Addr) : HO := .ext fun h => ∃ (oe : Obj) (vs : Array Value), h.get? a = some oe ∧ Zc cls d oe ∧ oe.data = .fields vs
/-- the own dict of an exception -/
def ExD (G : Hp) (d : Option Addr) (fs : List (Str × V)) : Prop := (d = none ∧ fs = []) ∨ ∃ dx, d = some dx ∧ G dx = some (.xd fs)
theorem ExD.mono {G G' : Hp} (s : Same G G') {d : Option Addr} {fs : List (Str × V)} (h : ExD G d fs) : ExD G' d fs := h.imp id fun ⟨dx, e, g⟩ => ⟨dx, e, s _ _ g⟩
/-- what a thing that may change is now -/
inductive MO where
  | dead
  | lst (xs : List D)
  | ins (C : Addr) (fs : List (Str × D))
  | dK (kvs : List (Key × D))
  | dT (kvs : List (List Key × D))
  /-- the table at p of code objects of the name q -/
  | tab (p : Addr) (q : Str)
deriving Inhabited
abbrev Mu := List MO
abbrev En := List (Option D)
section
variable (K : PySem.W.Frag) (G : Hp) (al : List Addr)
mutual
inductive Rp : V → D → Prop
  | non : Rp .non .non
  | bl (b : Bool) : Rp (.bl b) (.bl b)
  | int (i : Int) : Rp (.int i) (.int i)
  | str (x : Str) : Rp (.str x) (.str x)
  | ty (n : String) : Rp (.ty n) (.ty n)
  | tup {a : Addr} {vs : List V} {ds : List D} : G a = some (.tup vs) → Rps vs ds → Rp (.ref a) (.tup ds)
  | lst {a : Addr} {vs : List V} {ds : List D} : G a = some (.lst vs) → Rps vs ds → Rp (.ref a) (.lst ds)
  | rdl {a : Addr} {vs : List V} {ds : List D} : SqL K G a vs → Rps vs ds → Rp (.ref a) (.rdl ds)
  | rdt {a : Addr} {vs : List V} {ds : List D} : SqT K G a vs → Rps vs ds → Rp (.ref a) (.rdt ds)
  | obj {a C dx : Addr} {fs : List (Str × V)} {gs : List (Str × D)} : G a = some (.ins C dx fs) → Rpf fs gs → Rp (.ref a) (.obj C gs)
  | dct {a : Addr} {kvs : List (Key × V)} {gs : List (Key × D)} : Rd G a (.dK kvs) → Rpk kvs gs → Rp (.ref a) (.dct gs)
  | own {a : Addr} {k : Nat} : al[k]? = some a → Rp (.ref a) (.own k)
  | loc (a : Addr) : Rp (.ref a) (.loc a)
  | exc {a C : Addr} {dd : Option Addr} {fs : List (Str × V)} {gs : List (Str × D)} : G a = some (ExV (.ref C) dd a) → ExD G dd fs → Rpf fs gs → Rp (.ref a) (.exc C gs)
inductive Rps : List V → List D → Prop
  | nil : Rps [] []
  | cons {v : V} {vs : List V} {d : D} {ds : List D} : Rp v d → Rps vs ds → Rps (v :: vs) (d :: ds)
inductive Rpf : List (Str × V) → List (Str × D) → Prop
  | nil : Rpf [] []
  | cons {f : Str} {v : V} {vs : List (Str × V)} {d : D} {ds : List (Str × D)} : Rp v d → Rpf vs ds → Rpf ((f, v) :: vs) ((f, d) :: ds)
inductive Rpk : List (Key × V) → List (Key × D) → Prop
  | nil : Rpk [] []
  | cons {f : Key} {v : V} {vs : List (Key × V)} {d : D} {ds : List (Key × D)} : Rp v d → Rpk vs ds → Rpk ((f, v) :: vs) ((f, d) :: ds)
end
end
theorem rd_mono {H H' : Hp} {a : Addr} {u : HO} (s : Same H H') (h : Rd H a u) : Rd H' a u := by
  rcases h with h | ⟨o, h⟩
  · exact .inl (s _ _ h)
  · exact .inr ⟨o, s _ _ h⟩
theorem sql_mono {K : PySem.W.Frag} {H H' : Hp} {a : Addr} {xs : List V} (e : Same H H') (h : SqL K H a xs) : SqL K H' a xs := e.seq h
theorem sqt_mono {K : PySem.W.Frag} {H H' : Hp} {a : Addr} {xs : List V} (e : Same H H') (h : SqT K H a xs) : SqT K H' a xs := by
  rcases h with (h | ⟨o, h⟩) | h
  · exact .inl (.inl (e _ _ h))
  · exact .inl (.inr ⟨o, e _ _ h⟩)
  · exact .inr h
/-- al' goes on from al -/
def Pre (al al' : List Addr) : Prop := ∃ be, al' = al ++ be
theorem Pre.refl (al : List Addr) : Pre al al := ⟨[], by simp⟩
theorem Pre.trans {a b c : List Addr} (h : Pre a b) (h' : Pre b c) : Pre a c := by
  obtain ⟨x, rfl⟩ := h
  obtain ⟨y, rfl⟩ := h'
  exact ⟨x ++ y, by simp⟩
theorem Pre.get {al al' : List Addr} (h : Pre al al') {k : Nat} {a : Addr} (e : al[k]? = some a) : al'[k]? = some a := by
  obtain ⟨x, rfl⟩ := h
  rw [List.getElem?_append_left (List.getElem?_eq_some_iff.mp e).1]
  exact e
theorem Pre.mem {al al' : List Addr} (h : Pre al al') {a : Addr} (e : a ∈ al) : a ∈ al' := by
  obtain ⟨x, rfl⟩ := h
  exact List.mem_append_left _ e
section
variable {K : PySem.W.Frag} {G G' : Hp} {al al' : List Addr}
mutual
theorem Rp.mono (s : Same G G') (p : Pre al al') : ∀ {v : V} {d : D}, Rp K G al v d → Rp K G' al' v d
  | _, _, .non => .non
  | _, _, .bl b => .bl b
  | _, _, .int i => .int i
  | _, _, .str x => .str x
  | _, _, .ty x => .ty x
  | _, _, .tup h r => .tup (s _ _ h) (Rps.mono s p r)
  | _, _, .lst h r => .lst (s _ _ h) (Rps.mono s p r)
  | _, _, .rdl h r => .rdl (sql_mono s h) (Rps.mono s p r)
  | _, _, .rdt h r => .rdt (sqt_mono s h) (Rps.mono s p r)
  | _, _, .obj h r => .obj (s _ _ h) (Rpf.mono s p r)
  | _, _, .dct h r => .dct (rd_mono s h) (Rpk.mono s p r)
  | _, _, .own h => .own (p.get h)
  | _, _, .loc a => .loc a
  | _, _, .exc h hd r => .exc (s _ _ h) (hd.mono s) (Rpf.mono s p r)
theorem Rps.mono (s : Same G G') (p : Pre al al') : ∀ {v : List V} {d : List D}, Rps K G al v d → Rps K G' al' v d
  | _, _, .nil => .nil
  | _, _, .cons h r => .cons (Rp.mono s p h) (Rps.mono s p r)
theorem Rpf.mono (s : Same G G') (p : Pre al al') : ∀ {v : List (Str × V)} {d : List (Str × D)}, Rpf K G al v d → Rpf K G' al' v d
  | _, _, .nil => .nil
  | _, _, .cons h r => .cons (Rp.mono s p h) (Rpf.mono s p r)
theorem Rpk.mono (s : Same G G') (p : Pre al al') : ∀ {v : List (Key × V)} {d : List (Key × D)}, Rpk K G al v d → Rpk K G' al' v d
  | _, _, .nil => .nil
  | _, _, .cons h r => .cons (Rp.mono s p h) (Rpk.mono s p r)
end
theorem Rps.length {vs : List V} {ds : List D} (h : Rps K G al vs ds) : vs.length = ds.length := by
  induction ds generalizing vs with
  | nil => cases h; rfl
  | cons d ds ih => cases h with | cons _ r => simp [ih r]
theorem Rps.get {vs : List V} {ds : List D} (h : Rps K G al vs ds) : ∀ {i : Nat} {d : D}, ds[i]? = some d → ∃ v, vs[i]? = some v ∧ Rp K G al v d := by
  induction ds generalizing vs with
  | nil => intro i d e; simp at e
  | cons x xs ih =>
    intro i d e
    cases h with
    | cons r t =>
      cases i with
      | zero => simp at e; subst e; exact ⟨_, rfl, r⟩
      | succ i => simp at e; simpa using ih t e
theorem Rps.getV {vs : List V} {ds : List D} (h : Rps K G al vs ds) {i : Nat} {v : V} (e : vs[i]? = some v) : ∃ d, ds[i]? = some d ∧ Rp K G al v d := by
  have hi : i < ds.length := by rw [← h.length]; exact (List.getElem?_eq_some_iff.mp e).1
  obtain ⟨w, e2, r⟩ := h.get (List.getElem?_eq_getElem hi)
  rw [e] at e2; cases e2
  exact ⟨_, List.getElem?_eq_getElem hi, r⟩
theorem Rps.append {vs ws : List V} {ds es : List D} (h : Rps K G al vs ds) (h' : Rps K G al ws es) : Rps K G al (vs ++ ws) (ds ++ es) := by
  induction ds generalizing vs with
  | nil => cases h; exact h'
  | cons d ds ih => cases h with | cons r t => exact .cons r (ih t)
theorem Rps.take {vs : List V} {ds : List D} (h : Rps K G al vs ds) (n : Nat) : Rps K G al (vs.take n) (ds.take n) := by
  induction n generalizing vs ds with
  | zero => simp; exact .nil
  | succ n ih => cases h with
    | nil => simp; exact .nil
    | cons r t => simpa using .cons r (ih t)
theorem Rps.drop {vs : List V} {ds : List D} (h : Rps K G al vs ds) (n : Nat) : Rps K G al (vs.drop n) (ds.drop n) := by
  induction n generalizing vs ds with
  | zero => simpa using h
  | succ n ih => cases h with
    | nil => simp; exact .nil
    | cons r t => simpa using ih t
theorem Rps.reverse {vs : List V} {ds : List D} (h : Rps K G al vs ds) : Rps K G al vs.reverse ds.reverse := by
  induction ds generalizing vs with
  | nil => cases h; exact .nil
  | cons d ds ih => cases h with | cons r t => simpa using (ih t).append (.cons r .nil)
theorem Rps.set {vs : List V} {ds : List D} (h : Rps K G al vs ds) (i : Nat) {v : V} {d : D} (r : Rp K G al v d) : Rps K G al (vs.set i v) (ds.set i d) := by
  induction ds generalizing vs i with
  | nil => cases h; simp; exact .nil
  | cons x xs ih => cases h with
    | cons r' t => cases i with
      | zero => exact .cons r t
      | succ i => exact .cons r' (ih t i)
theorem Rps.ints : ∀ {vs : List V} {ns : List Int}, Rps K G al vs (ns.map D.int) → vs = ns.map V.int
  | _, [], h => by cases h; rfl
  | _, n :: ns, h => by
    cases h with
    | cons r t => cases r; rw [Rps.ints (ns := ns) t]; rfl
theorem Rps.of_ints : ∀ (ns : List Int), Rps K G al (ns.map V.int) (ns.map D.int)
  | [] => .nil
  | n :: ns => .cons (.int n) (Rps.of_ints ns)
theorem Rps.bools : ∀ {vs : List V} {ns : List Bool}, Rps K G al vs (ns.map D.bl) → vs = ns.map V.bl
  | _, [], h => by cases h; rfl
  | _, n :: ns, h => by
    cases h with
    | cons r t => cases r; rw [Rps.bools (ns := ns) t]; rfl
theorem Rpf.look {fs : List (Str × V)} {gs : List (Str × D)} (h : Rpf K G al fs gs) {f : Str} {d : D} (e : gs.lookup f = some d) : ∃ v, fs.lookup f = some v ∧ Rp K G al v d := by
  induction gs generalizing fs with
  | nil => simp at e
  | cons x xs ih =>
    cases h with
    | cons r t =>
      rw [List.lookup_cons] at e ⊢
      split at e
      · cases e; exact ⟨_, rfl, r⟩
      · exact ih t e
theorem Rpf.none {fs : List (Str × V)} {gs : List (Str × D)} (h : Rpf K G al fs gs) {f : Str} (e : gs.lookup f = Option.none) : fs.lookup f = Option.none := by
  induction gs generalizing fs with
  | nil => cases h; rfl
  | cons x xs ih =>
    cases h with
    | cons r t =>
      rw [List.lookup_cons] at e ⊢
      split at e
      · cases e
      · exact ih t e
theorem Rpf.length {fs : List (Str × V)} {gs : List (Str × D)} (h : Rpf K G al fs gs) : fs.length = gs.length := by
  induction gs generalizing fs with
  | nil => cases h; rfl
  | cons d ds ih => cases h with | cons _ r => simp [ih r]
end
/-- a field put -/
def putD (f : Str) (v : D) : List (Str × D) → List (Str × D)
  | [] => [(f, v)]
  | (g, x) :: r => if g = f then (g, v) :: r else (g, x) :: putD f v r
theorem Rpf.put {K : PySem.W.Frag} {G : Hp} {al : List Addr} {fs : List (Str × V)} {gs : List (Str × D)} (h : Rpf K G al fs gs) (f : Str) {v : V} {d : D} (r : Rp K G al v d) : Rpf K G al (putF f v fs) (putD f d gs) := by
  induction gs generalizing fs with
  | nil => cases h; exact .cons r .nil
  | cons x xs ih =>
    cases h with
    | cons r' t =>
      unfold putF putD
      split
      · exact .cons r t
      · exact .cons r' (ih t)
/-! ### the slots -/
def RpS (K : PySem.W.Frag) (G : Hp) (al : List Addr) (σ : St) (ρ : En) : Prop := σ.length = ρ.length ∧ ∀ (i : Nat) (d : D), ρ[i]? = some (some d) → ∃ v, σ[i]? = some (some v) ∧ Rp K G al v d
section
variable {K : PySem.W.Frag} {G G' : Hp} {al al' : List Addr} {σ : St} {ρ : En}
theorem RpS.mono (s : Same G G') (p : Pre al al') (h : RpS K G al σ ρ) : RpS K G' al' σ ρ := ⟨h.1, fun i d e => by
  obtain ⟨v, e1, r⟩ := h.2 i d e
  exact ⟨v, e1, r.mono s p⟩⟩
theorem RpS.set (h : RpS K G al σ ρ) (i : Nat) {v : V} {d : D} (r : Rp K G al v d) : RpS K G al (σ.set i (some v)) (ρ.set i (some d)) := by
  refine ⟨by simp [h.1], fun j e hj => ?_⟩
  rw [List.getElem?_set] at hj ⊢
  by_cases hij : i = j
  · subst hij
    rw [if_pos rfl] at hj ⊢
    by_cases hl : i < ρ.length
    · rw [if_pos hl] at hj
      have hl2 : i < σ.length := by rw [h.1]; exact hl
      rw [if_pos hl2]
      cases hj
      exact ⟨v, rfl, r⟩
    · rw [if_neg hl] at hj; cases hj
  · rw [if_neg hij] at hj ⊢
    exact h.2 j e hj
/-- a slot's value forgotten -/
theorem RpS.forget (h : RpS K G al σ ρ) (i : Nat) (x : Option V) : RpS K G al (σ.set i x) (ρ.set i none) := by
  refine ⟨by simp [h.1], fun j e hj => ?_⟩
  rw [List.getElem?_set] at hj ⊢
  by_cases hij : i = j
  · subst hij
    rw [if_pos rfl] at hj
    by_cases hl : i < ρ.length
    · rw [if_pos hl] at hj; cases hj
    · rw [if_neg hl] at hj; cases hj
  · rw [if_neg hij] at hj ⊢
    exact h.2 j e hj
end
/-! ### what may change -/
def OkO (K : PySem.W.Frag) (G H : Hp) (al : List Addr) (a : Addr) : MO → Prop
  | .dead => True
  | .lst ds => G a = none ∧ ∃ vs, H a = some (.lst vs) ∧ Rps K G al vs ds
  | .ins C gs => G a = none ∧ ∃ dx fs, H a = some (.ins C dx fs) ∧ Rpf K G al fs gs
  | .dK gs => G a = none ∧ ∃ kvs, H a = some (.dK kvs) ∧ Rpk K G al kvs gs
  | .dT gs => G a = none ∧ ∃ kvs : List (List Key × V), H a = some (.dT kvs) ∧ kvs.map (·.1) = gs.map (·.1) ∧ Rps K G al (kvs.map (·.2)) (gs.map (·.2))
  | .tab p q => G a = none ∧ a = p ∧ ∃ ps : Array Value, H a = some (.tbl ps) ∧ TriplesOk ps.toList ∧ ∀ (pos : Pos) (cv : Value), codeAmong pos ps.toList = some cv → ∃ c, cv = .ref c ∧ G c = some (LamX.CodeO c q)
structure As (K : PySem.W.Frag) (G H : Hp) (al : List Addr) (μ : Mu) : Prop where
  sub : Same G H
  nd : al.Nodup
  len : al.length = μ.length
  here : ∀ a ∈ al, H a ≠ none
  ok : ∀ (k : Nat) (a : Addr) (o : MO), al[k]? = some a → μ[k]? = some o → OkO K G H al a o
/-- a later state -/
structure Nx (G H : Hp) (al : List Addr) (G' H' : Hp) (al' : List Addr) : Prop where
  g : Same G G'
  p : Pre al al'
  keep : ∀ a o, H a = some o → a ∉ al → H' a = some o
  out : ∀ a, H a ≠ none → (∀ vs, H a ≠ some (.tup vs)) → a ∉ al → G a = none → G' a = none
  new : ∀ a ∈ al', a ∈ al ∨ H a = none
section
variable {K : PySem.W.Frag} {G G1 G2 H H1 H2 : Hp} {al al1 al2 : List Addr} {μ : Mu}
theorem Nx.refl : Nx G H al G H al := ⟨Same.refl _, Pre.refl _, fun _ _ h _ => h, fun _ _ _ _ h => h, fun _ h => .inl h⟩
theorem Nx.trans (a : Nx G H al G1 H1 al1) (b : Nx G1 H1 al1 G2 H2 al2) : Nx G H al G2 H2 al2 := by
  have nin : ∀ x o, H x = some o → x ∉ al → x ∉ al1 := fun x o h n m => by
    rcases a.new x m with z | z
    · exact n z
    · rw [h] at z; cases z
  refine ⟨a.g.trans b.g, a.p.trans b.p, fun x o h n => b.keep x o (a.keep x o h n) (nin x o h n), fun x h t n g => ?_, fun x m => ?_⟩
  · cases q : H x with
    | none => exact absurd q h
    | some o =>
      have h1 := a.keep x o q n
      exact b.out x (by rw [h1]; simp) (fun vs e => t vs (by rw [q, ← h1, e])) (nin x o q n) (a.out x h t n g)
  · rcases b.new x m with z | z
    · exact a.new x z
    · by_cases hx : x ∈ al
      · exact .inl hx
      · refine .inr ?_
        cases q : H x with
        | none => rfl
        | some o => rw [a.keep x o q hx] at z; cases z
theorem Rp.nx (n : Nx G H al G1 H1 al1) {v : V} {d : D} (h : Rp K G al v d) : Rp K G1 al1 v d := h.mono n.g n.p
theorem Rps.nx (n : Nx G H al G1 H1 al1) {v : List V} {d : List D} (h : Rps K G al v d) : Rps K G1 al1 v d := h.mono n.g n.p
theorem RpS.nx (n : Nx G H al G1 H1 al1) {σ : St} {ρ : En} (h : RpS K G al σ ρ) : RpS K G1 al1 σ ρ := h.mono n.g n.p
theorem OkO.mono {a : Addr} {o : MO} (s : Same G G1) (p : Pre al al1) (hg : o ≠ .dead → G a = none → G1 a = none) (hh : H1 a = H a) (h : OkO K G H al a o) : OkO K G1 H1 al1 a o := by
  cases o with
  | dead => trivial
  | lst ds => obtain ⟨g, vs, e, r⟩ := h; exact ⟨hg (by simp) g, vs, hh.trans e, r.mono s p⟩
  | ins C gs => obtain ⟨g, dx, vs, e, r⟩ := h; exact ⟨hg (by simp) g, dx, vs, hh.trans e, r.mono s p⟩
  | dK gs => obtain ⟨g, vs, e, r⟩ := h; exact ⟨hg (by simp) g, vs, hh.trans e, r.mono s p⟩
  | dT gs => obtain ⟨g, vs, e, k, r⟩ := h; exact ⟨hg (by simp) g, vs, hh.trans e, k, r.mono s p⟩
  | tab p q => obtain ⟨g, ep, ps, e, k, r⟩ := h; exact ⟨hg (by simp) g, ep, ps, hh.trans e, k, fun pos cv hc => let ⟨c, e1, e2⟩ := r pos cv hc; ⟨c, e1, s _ _ e2⟩⟩
/-- a new frozen thing -/
theorem As.frz {p : Addr} {o : HO} (A : As K G H al μ) (hp : H p = none) : As K (upd G p o) (upd H p o) al μ ∧ Nx G H al (upd G p o) (upd H p o) al := by
  have gp : G p = none := A.sub.free hp
  have s1 : Same G (upd G p o) := fun b u e => by rw [upd_ne (ne_of_none e gp)]; exact e
  have npal : p ∉ al := fun m => A.here p m hp
  refine ⟨⟨fun b u e => ?_, A.nd, A.len, fun a m => ?_, fun k a ob e1 e2 => ?_⟩, ⟨s1, Pre.refl _, fun a u h _ => ?_, fun a h _ n g => ?_, fun a m => .inl m⟩⟩
  · by_cases hb : b = p
    · subst hb; rw [upd_same] at e ⊢; exact e
    · rw [upd_ne hb] at e ⊢; exact A.sub _ _ e
  · have : a ≠ p := fun z => npal (z ▸ m)
    rw [upd_ne this]; exact A.here a m
  · have : a ≠ p := fun z => npal (z ▸ List.mem_of_getElem? e1)
    exact OkO.mono s1 (Pre.refl _) (fun _ g => by rw [upd_ne this]; exact g) (by rw [upd_ne this]) (A.ok k a ob e1 e2)
  · rw [upd_ne (ne_of_none h hp)]; exact h
  · have z : a ≠ p := fun z => h (by rw [z]; exact hp)
    rw [upd_ne z]; exact g
/-- a new thing that may change -/
theorem As.own {p : Addr} {o : HO} {m : MO} (A : As K G H al μ) (hp : H p = none) (ok : OkO K G (upd H p o) (al ++ [p]) p m) : As K G (upd H p o) (al ++ [p]) (μ ++ [m]) ∧ Nx G H al G (upd H p o) (al ++ [p]) := by
  have npal : p ∉ al := fun m => A.here p m hp
  have gp : G p = none := A.sub.free hp
  refine ⟨⟨fun b u e => ?_, ?_, by simp [A.len], fun a m => ?_, fun k a ob e1 e2 => ?_⟩, ⟨Same.refl _, ⟨[p], rfl⟩, fun a u h _ => ?_, fun a h _ n g => g, fun a m => ?_⟩⟩
  · rw [upd_ne (ne_of_none e gp)]; exact A.sub _ _ e
  · rw [List.nodup_append]
    exact ⟨A.nd, by simp, fun a ha b hb => by simp at hb; subst hb; exact fun z => npal (z ▸ ha)⟩
  · rcases List.mem_append.mp m with m | m
    · have : a ≠ p := fun z => npal (z ▸ m)
      rw [upd_ne this]; exact A.here a m
    · simp at m; subst m; rw [upd_same]; simp
  · by_cases hk : k < al.length
    · rw [List.getElem?_append_left hk] at e1
      rw [List.getElem?_append_left (by rw [← A.len]; exact hk)] at e2
      have : a ≠ p := fun z => npal (z ▸ List.mem_of_getElem? e1)
      exact OkO.mono (Same.refl _) ⟨[p], rfl⟩ (fun _ g => g) (by rw [upd_ne this]) (A.ok k a ob e1 e2)
    · have hk1 := (List.getElem?_eq_some_iff.mp e1).1
      have hk' : k = al.length := by simp at hk1; omega
      subst hk'
      simp at e1
      rw [A.len] at e2
      simp at e2
      subst e1 e2
      exact ok
  · rw [upd_ne (ne_of_none h hp)]; exact h
  · rcases List.mem_append.mp m with m | m
    · exact .inl m
    · simp at m; subst m; exact .inr hp
/-- a thing that may change is changed -/
theorem As.put {k : Nat} {a : Addr} {o : HO} {m m' : MO} (A : As K G H al μ) (hk : al[k]? = some a) (hm : μ[k]? = some m) (hd : m ≠ .dead) (ok : OkO K G (upd H a o) al a m') : As K G (upd H a o) al (μ.set k m') ∧ Nx G H al G (upd H a o) al := by
  have ga : G a = none := by
    have := A.ok k a m hk hm
    cases m with
    | dead => exact absurd rfl hd
    | lst _ => exact this.1
    | ins _ _ => exact this.1
    | dK _ => exact this.1
    | dT _ => exact this.1
    | tab _ _ => exact this.1
  have ma : a ∈ al := List.mem_of_getElem? hk
  refine ⟨⟨fun b u e => ?_, A.nd, by simp [A.len], fun b m => ?_, fun j b ob e1 e2 => ?_⟩, ⟨Same.refl _, Pre.refl _, fun b u h n => ?_, fun _ _ _ _ g => g, fun _ m => .inl m⟩⟩
  · rw [upd_ne (ne_of_none e ga)]; exact A.sub _ _ e
  · by_cases hb : b = a
    · subst hb; rw [upd_same]; simp
    · rw [upd_ne hb]; exact A.here b m
  · rw [List.getElem?_set] at e2
    by_cases hj : k = j
    · subst hj
      rw [if_pos rfl] at e2
      split at e2
      · cases e2; rw [hk] at e1; cases e1; exact ok
      · cases e2
    · rw [if_neg hj] at e2
      have hne : b ≠ a := fun z => by
        subst z
        exact hj (nd_ix A.nd hk e1)
      exact OkO.mono (Same.refl _) (Pre.refl _) (fun _ g => g) (by rw [upd_ne hne]) (A.ok j b ob e1 e2)
  · have z : b ≠ a := fun z => n (by rw [z]; exact ma)
    rw [upd_ne z]; exact h
/-- .. it is frozen -/
theorem As.freeze {k : Nat} {a : Addr} {o : HO} (A : As K G H al μ) (hk : al[k]? = some a) (ha : H a = some o) (ga : G a = none) : As K (upd G a o) H al (μ.set k .dead) ∧ Nx G H al (upd G a o) H al := by
  have ma : a ∈ al := List.mem_of_getElem? hk
  have s1 : Same G (upd G a o) := fun b u e => by rw [upd_ne (ne_of_none e ga)]; exact e
  refine ⟨⟨fun b u e => ?_, A.nd, by simp [A.len], A.here, fun j b ob e1 e2 => ?_⟩, ⟨s1, Pre.refl _, fun b u h n => h, fun b h _ n g => ?_, fun _ m => .inl m⟩⟩
  · by_cases hb : b = a
    · subst hb; rw [upd_same] at e; rw [← e]; exact ha
    · rw [upd_ne hb] at e; exact A.sub _ _ e
  · rw [List.getElem?_set] at e2
    by_cases hj : k = j
    · subst hj
      rw [if_pos rfl] at e2
      split at e2
      · cases e2; trivial
      · cases e2
    · rw [if_neg hj] at e2
      have hne : b ≠ a := fun z => by
        subst z
        exact hj (nd_ix A.nd hk e1)
      exact OkO.mono s1 (Pre.refl _) (fun _ g => by rw [upd_ne hne]; exact g) rfl (A.ok j b ob e1 e2)
  · have z : b ≠ a := fun z => n (by rw [z]; exact ma)
    rw [upd_ne z]; exact g
theorem As.get {k : Nat} {m : MO} (A : As K G H al μ) (hm : μ[k]? = some m) : ∃ a, al[k]? = some a ∧ OkO K G H al a m := by
  have hk : k < al.length := by rw [A.len]; exact (List.getElem?_eq_some_iff.mp hm).1
  exact ⟨al[k], List.getElem?_eq_getElem hk, A.ok k _ m (List.getElem?_eq_getElem hk) hm⟩
end
end Dl
set_option Elab.async false
set_option linter.all false
set_option maxRecDepth 100000
namespace Dl
open PySem L2
/-! ### judgements over data -/
structure Bs where
  G : Hp
  H : Hp
  al : List Addr
abbrev Bs.le (B : Bs) (G H : Hp) (al : List Addr) : Prop := Nx B.G B.H B.al G H al
section
variable (K : PySem.W.Frag)
def KV (G H : Hp) (al : List Addr) (P : D → Mu → Prop) (Q : VK) : Prop := ∀ v d μ' G' H' al', Nx G H al G' H' al' → As K G' H' al' μ' → Rp K G' al' v d → P d μ' → Q v H'
def KT (G H : Hp) (al : List Addr) (P : Bool → Mu → Prop) (Q : Bool → Hp → Prop) : Prop := ∀ b μ' G' H' al', Nx G H al G' H' al' → As K G' H' al' μ' → P b μ' → Q b H'
def KA (G H : Hp) (al : List Addr) (P : List D → Mu → Prop) (Q : List V → Hp → Prop) : Prop := ∀ vs ds μ' G' H' al', Nx G H al G' H' al' → As K G' H' al' μ' → Rps K G' al' vs ds → P ds μ' → Q vs H'
def KS (G H : Hp) (al : List Addr) (P : En → Mu → Prop) (Q : St → Hp → Prop) : Prop := ∀ σ' ρ' μ' G' H' al', Nx G H al G' H' al' → RpS K G' al' σ' ρ' → As K G' H' al' μ' → P ρ' μ' → Q σ' H'
def DE (B : Bs) (te : TE) (ρ : En) (μ : Mu) (P : D → Mu → Prop) : Prop := ∀ σ G H al, B.le G H al → RpS K G al σ ρ → As K G H al μ → ∀ Q, KV K G H al P Q → te σ H Q
def DT (B : Bs) (tt : TT) (ρ : En) (μ : Mu) (P : Bool → Mu → Prop) : Prop := ∀ σ G H al, B.le G H al → RpS K G al σ ρ → As K G H al μ → ∀ Q, KT K G H al P Q → tt σ H Q
def DA (B : Bs) (ta : TA) (ρ : En) (μ : Mu) (P : List D → Mu → Prop) : Prop := ∀ σ G H al, B.le G H al → RpS K G al σ ρ → As K G H al μ → ∀ Q, KA K G H al P Q → ta σ H Q
/-- a part of a slice -/
def DO (B : Bs) (to : TO) (ρ : En) (μ : Mu) (P : Option Int → Mu → Prop) : Prop := ∀ σ G H al, B.le G H al → RpS K G al σ ρ → As K G H al μ → ∀ Q : Option Int → Hp → Prop, (∀ o μ' G' H' al', Nx G H al G' H' al' → As K G' H' al' μ' → P o μ' → Q o H') → to σ H Q
def DG (B : Bs) (g : TG) (d : D) (ρ : En) (μ : Mu) (P : En → Mu → Prop) : Prop := ∀ σ G H al v, B.le G H al → RpS K G al σ ρ → As K G H al μ → Rp K G al v d → ∀ Q, KS K G H al P Q → g v σ H Q
def DGs (B : Bs) (g : TGs) (ds : List D) (ρ : En) (μ : Mu) (P : En → Mu → Prop) : Prop := ∀ σ G H al vs, B.le G H al → RpS K G al σ ρ → As K G H al μ → Rps K G al vs ds → ∀ Q, KS K G H al P Q → g vs σ H Q
/-- operations on values -/
def RO (r : R2) (x y : D) (μ : Mu) (P : D → Mu → Prop) : Prop := ∀ G H al v w, As K G H al μ → Rp K G al v x → Rp K G al w y → ∀ Q, KV K G H al P Q → r v w H Q
def RU (r : V → Hp → VK → Prop) (x : D) (μ : Mu) (P : D → Mu → Prop) : Prop := ∀ G H al v, As K G H al μ → Rp K G al v x → ∀ Q, KV K G H al P Q → r v H Q
def RC (r : List V → Hp → VK → Prop) (xs : List D) (μ : Mu) (P : D → Mu → Prop) : Prop := ∀ G H al vs, As K G H al μ → Rps K G al vs xs → ∀ Q, KV K G H al P Q → r vs H Q
def RM (r : V → List V → Hp → VK → Prop) (x : D) (xs : List D) (μ : Mu) (P : D → Mu → Prop) : Prop := ∀ G H al v vs, As K G H al μ → Rp K G al v x → Rps K G al vs xs → ∀ Q, KV K G H al P Q → r v vs H Q
def RS (r : V → Option Int → Option Int → Hp → VK → Prop) (x : D) (lo hi : Option Int) (μ : Mu) (P : D → Mu → Prop) : Prop := ∀ G H al v, As K G H al μ → Rp K G al v x → ∀ Q, KV K G H al P Q → r v lo hi H Q
def RSet (r : V → V → V → Hp → (Hp → Prop) → Prop) (o i d : D) (μ : Mu) (P : Mu → Prop) : Prop := ∀ G H al v w u, As K G H al μ → Rp K G al v o → Rp K G al w i → Rp K G al u d → ∀ Q : Hp → Prop, (∀ μ' G' H' al', Nx G H al G' H' al' → As K G' H' al' μ' → P μ' → Q H') → r v w u H Q
end
structure DEnds where
  nx : En → Mu → Prop
  rt : D → Mu → Prop
  bk : En → Mu → Prop := fun _ _ => False
  ct : En → Mu → Prop := fun _ _ => False
structure Ag (K : PySem.W.Frag) (G H : Hp) (al : List Addr) (P : DEnds) (De : Ends) : Prop where
  nx : KS K G H al P.nx De.nx
  rt : KV K G H al P.rt De.rt
  bk : KS K G H al P.bk De.bk
  ct : KS K G H al P.ct De.ct
def DS (K : PySem.W.Frag) (B : Bs) (t : TS) (ρ : En) (μ : Mu) (P : DEnds) : Prop := ∀ σ G H al, B.le G H al → RpS K G al σ ρ → As K G H al μ → ∀ De, Ag K G H al P De → t De σ H
section
variable {K : PySem.W.Frag} {B : Bs} {G H G1 H1 : Hp} {al al1 : List Addr}
theorem KV.nx {P : D → Mu → Prop} {Q : VK} (n : Nx G H al G1 H1 al1) (h : KV K G H al P Q) : KV K G1 H1 al1 P Q := fun v d μ' G' H' al' n' A r p => h v d μ' G' H' al' (n.trans n') A r p
theorem KT.nx {P : Bool → Mu → Prop} {Q : Bool → Hp → Prop} (n : Nx G H al G1 H1 al1) (h : KT K G H al P Q) : KT K G1 H1 al1 P Q := fun v μ' G' H' al' n' A p => h v μ' G' H' al' (n.trans n') A p
theorem KA.nx {P : List D → Mu → Prop} {Q : List V → Hp → Prop} (n : Nx G H al G1 H1 al1) (h : KA K G H al P Q) : KA K G1 H1 al1 P Q := fun v d μ' G' H' al' n' A r p => h v d μ' G' H' al' (n.trans n') A r p
theorem KS.nx {P : En → Mu → Prop} {Q : St → Hp → Prop} (n : Nx G H al G1 H1 al1) (h : KS K G H al P Q) : KS K G1 H1 al1 P Q := fun v d μ' G' H' al' n' A r p => h v d μ' G' H' al' (n.trans n') A r p
theorem Ag.nx' {P : DEnds} {De : Ends} (n : Nx G H al G1 H1 al1) (h : Ag K G H al P De) : Ag K G1 H1 al1 P De := ⟨h.nx.nx n, h.rt.nx n, h.bk.nx n, h.ct.nx n⟩
theorem KV.now {P : D → Mu → Prop} {Q : VK} {v : V} {d : D} {μ : Mu} (h : KV K G H al P Q) (A : As K G H al μ) (r : Rp K G al v d) (p : P d μ) : Q v H := h v d μ G H al .refl A r p
variable {ρ : En} {μ : Mu} {P : D → Mu → Prop} {ta tb te tc : TE}
/-! ### expressions -/
theorem DE.imp {P' : D → Mu → Prop} (h : DE K B te ρ μ P') (i : ∀ d μ', P' d μ' → P d μ') : DE K B te ρ μ P := fun σ G H al hB hσ hA Q hQ => h σ G H al hB hσ hA Q fun v d μ' G' H' al' n A r p => hQ v d μ' G' H' al' n A r (i d μ' p)
theorem de_var {i : Nat} {d : D} (e : ρ[i]? = some (some d)) (h : P d μ) : DE K B (tVar i) ρ μ P := fun σ G H al hB hσ hA Q hQ => by
  obtain ⟨v, e1, r⟩ := hσ.2 i d e
  exact ⟨v, e1, hQ.now hA r h⟩
theorem de_int {i : Int} (h : P (.int i) μ) : DE K B (tC (.int i)) ρ μ P := fun σ G H al hB hσ hA Q hQ => hQ.now hA (.int i) h
theorem de_bl {i : Bool} (h : P (.bl i) μ) : DE K B (tC (.bl i)) ρ μ P := fun σ G H al hB hσ hA Q hQ => hQ.now hA (.bl i) h
theorem de_non (h : P .non μ) : DE K B (tC .non) ρ μ P := fun σ G H al hB hσ hA Q hQ => hQ.now hA .non h
theorem de_str {x : Str} (h : P (.str x) μ) : DE K B (tC (.str x)) ρ μ P := fun σ G H al hB hσ hA Q hQ => hQ.now hA (.str x) h
theorem de_ty {x : String} (h : P (.ty x) μ) : DE K B (tC (.ty x)) ρ μ P := fun σ G H al hB hσ hA Q hQ => hQ.now hA (.ty x) h
theorem de_loc {x : Addr} (h : P (.loc x) μ) : DE K B (tC (.ref x)) ρ μ P := fun σ G H al hB hσ hA Q hQ => hQ.now hA (.loc x) h
theorem de_op {r : R2} (h : DE K B ta ρ μ fun x μ1 => DE K B tb ρ μ1 fun y μ2 => RO K r x y μ2 P) : DE K B (tOp r ta tb) ρ μ P := fun σ G H al hB hσ hA Q hQ =>
  h σ G H al hB hσ hA _ fun v d μ1 G1 H1 al1 n1 A1 r1 p1 => p1 σ G1 H1 al1 (hB.trans n1) (hσ.nx n1) A1 _ fun w e μ2 G2 H2 al2 n2 A2 r2 p2 => p2 G2 H2 al2 v w A2 (r1.nx n2) r2 Q (hQ.nx (n1.trans n2))
theorem de_un {r : V → Hp → VK → Prop} (h : DE K B ta ρ μ fun x μ1 => RU K r x μ1 P) : DE K B (tUn r ta) ρ μ P := fun σ G H al hB hσ hA Q hQ =>
  h σ G H al hB hσ hA _ fun v d μ1 G1 H1 al1 n1 A1 r1 p1 => p1 G1 H1 al1 v A1 r1 Q (hQ.nx n1)
theorem de_chain {r r' : R2} (h : DE K B ta ρ μ fun x μ1 => DE K B tb ρ μ1 fun y μ2 => RO K r x y μ2 fun z μ3 => ∃ b, z = .bl b ∧ (b = true → DE K B tc ρ μ3 fun w μ4 => RO K r' y w μ4 P) ∧ (b = false → P (.bl false) μ3)) :
    DE K B (tChain r r' ta tb tc) ρ μ P := fun σ G H al hB hσ hA Q hQ =>
  h σ G H al hB hσ hA _ fun v d μ1 G1 H1 al1 n1 A1 r1 p1 => p1 σ G1 H1 al1 (hB.trans n1) (hσ.nx n1) A1 _ fun w e μ2 G2 H2 al2 n2 A2 r2 p2 =>
    p2 G2 H2 al2 v w A2 (r1.nx n2) r2 _ fun z dz μ3 G3 H3 al3 n3 A3 r3 p3 => by
      obtain ⟨b, rfl, pt, pf⟩ := p3
      cases r3
      refine ⟨b, rfl, ?_⟩
      cases b with
      | true =>
        rw [if_pos rfl]
        exact pt rfl σ G3 H3 al3 ((hB.trans n1).trans (n2.trans n3)) (((hσ.nx n1).nx n2).nx n3) A3 _ fun u du μ4 G4 H4 al4 n4 A4 r4 p4 => p4 G4 H4 al4 w u A4 ((r2.nx n3).nx n4) r4 Q (hQ.nx (((n1.trans n2).trans n3).trans n4))
      | false =>
        rw [if_neg (by simp)]
        exact hQ (.bl false) _ μ3 G3 H3 al3 ((n1.trans n2).trans n3) A3 (.bl _) (pf rfl)
theorem de_andV (h : DE K B ta ρ μ fun x μ1 => ∃ b, x = .bl b ∧ (b = true → DE K B tb ρ μ1 P) ∧ (b = false → P (.bl false) μ1)) : DE K B (tAndV ta tb) ρ μ P := fun σ G H al hB hσ hA Q hQ =>
  h σ G H al hB hσ hA _ fun v d μ1 G1 H1 al1 n1 A1 r1 p1 => by
    obtain ⟨b, rfl, pt, pf⟩ := p1
    cases r1
    refine ⟨b, rfl, ?_⟩
    cases b with
    | true => rw [if_pos rfl]; exact pt rfl σ G1 H1 al1 (hB.trans n1) (hσ.nx n1) A1 Q (hQ.nx n1)
    | false => rw [if_neg (by simp)]; exact hQ (.bl false) _ μ1 G1 H1 al1 n1 A1 (.bl _) (pf rfl)
theorem de_orV (h : DE K B ta ρ μ fun x μ1 => ∃ b, x = .bl b ∧ (b = false → DE K B tb ρ μ1 P) ∧ (b = true → P (.bl true) μ1)) : DE K B (tOrV ta tb) ρ μ P := fun σ G H al hB hσ hA Q hQ =>
  h σ G H al hB hσ hA _ fun v d μ1 G1 H1 al1 n1 A1 r1 p1 => by
    obtain ⟨b, rfl, pt, pf⟩ := p1
    cases r1
    refine ⟨b, rfl, ?_⟩
    cases b with
    | false => rw [if_neg (by simp)]; exact pt rfl σ G1 H1 al1 (hB.trans n1) (hσ.nx n1) A1 Q (hQ.nx n1)
    | true => rw [if_pos rfl]; exact hQ (.bl true) _ μ1 G1 H1 al1 n1 A1 (.bl _) (pf rfl)
theorem de_notV (h : DE K B ta ρ μ fun x μ1 => ∃ b, x = .bl b ∧ P (.bl (!b)) μ1) : DE K B (tNotV ta) ρ μ P := fun σ G H al hB hσ hA Q hQ =>
  h σ G H al hB hσ hA _ fun v d μ1 G1 H1 al1 n1 A1 r1 p1 => by
    obtain ⟨b, rfl, pt⟩ := p1
    cases r1
    exact ⟨b, rfl, hQ _ _ μ1 G1 H1 al1 n1 A1 (.bl _) pt⟩
theorem de_if {t : TT} (h : DT K B t ρ μ fun b μ1 => (b = true → DE K B ta ρ μ1 P) ∧ (b = false → DE K B tb ρ μ1 P)) : DE K B (tIf t ta tb) ρ μ P := fun σ G H al hB hσ hA Q hQ =>
  h σ G H al hB hσ hA _ fun b μ1 G1 H1 al1 n1 A1 p1 => by
    cases b with
    | true => rw [if_pos rfl]; exact p1.1 rfl σ G1 H1 al1 (hB.trans n1) (hσ.nx n1) A1 Q (hQ.nx n1)
    | false => rw [if_neg (by simp)]; exact p1.2 rfl σ G1 H1 al1 (hB.trans n1) (hσ.nx n1) A1 Q (hQ.nx n1)
theorem de_isN (h : DE K B ta ρ μ fun x μ1 => ∃ b, (b = true ↔ x = .non) ∧ P (.bl b) μ1) : DE K B (tIsN ta) ρ μ P := fun σ G H al hB hσ hA Q hQ =>
  h σ G H al hB hσ hA _ fun v d μ1 G1 H1 al1 n1 A1 r1 p1 => by
    obtain ⟨b, hb, p⟩ := p1
    have e : decide (v = .non) = b := by
      cases d with
      | non => cases r1; simp at hb; simp [hb]
      | _ => cases r1 <;> simp at hb <;> simp [hb]
    rw [e]
    exact hQ _ _ μ1 G1 H1 al1 n1 A1 (.bl _) p
theorem de_notN (h : DE K B ta ρ μ fun x μ1 => ∃ b, (b = true ↔ x = .non) ∧ P (.bl (!b)) μ1) : DE K B (tNotN ta) ρ μ P := fun σ G H al hB hσ hA Q hQ =>
  h σ G H al hB hσ hA _ fun v d μ1 G1 H1 al1 n1 A1 r1 p1 => by
    obtain ⟨b, hb, p⟩ := p1
    have e : decide (v = .non) = b := by
      cases d with
      | non => cases r1; simp at hb; simp [hb]
      | _ => cases r1 <;> simp at hb <;> simp [hb]
    rw [e]
    exact hQ _ _ μ1 G1 H1 al1 n1 A1 (.bl _) p
/-! tests -/
variable {PT' : Bool → Mu → Prop} {t u : TT}
theorem dt_test (h : DE K B te ρ μ fun x μ1 => ∃ b, x = .bl b ∧ PT' b μ1) : DT K B (tTest te) ρ μ PT' := fun σ G H al hB hσ hA Q hQ =>
  h σ G H al hB hσ hA _ fun v d μ1 G1 H1 al1 n1 A1 r1 p1 => by
    obtain ⟨b, rfl, p⟩ := p1
    cases r1
    exact ⟨b, rfl, hQ b μ1 G1 H1 al1 n1 A1 p⟩
theorem dt_B (h : DE K B te ρ μ fun x μ1 => ∃ b, x = .bl b ∧ PT' b μ1) : DT K B (tB te) ρ μ PT' := dt_test h
theorem dt_and (h : DT K B t ρ μ fun b μ1 => (b = true → DT K B u ρ μ1 PT') ∧ (b = false → PT' false μ1)) : DT K B (tAnd t u) ρ μ PT' := fun σ G H al hB hσ hA Q hQ =>
  h σ G H al hB hσ hA _ fun b μ1 G1 H1 al1 n1 A1 p1 => by
    cases b with
    | true => rw [if_pos rfl]; exact p1.1 rfl σ G1 H1 al1 (hB.trans n1) (hσ.nx n1) A1 Q (hQ.nx n1)
    | false => rw [if_neg (by simp)]; exact hQ false μ1 G1 H1 al1 n1 A1 (p1.2 rfl)
theorem dt_or (h : DT K B t ρ μ fun b μ1 => (b = false → DT K B u ρ μ1 PT') ∧ (b = true → PT' true μ1)) : DT K B (tOr t u) ρ μ PT' := fun σ G H al hB hσ hA Q hQ =>
  h σ G H al hB hσ hA _ fun b μ1 G1 H1 al1 n1 A1 p1 => by
    cases b with
    | false => rw [if_neg (by simp)]; exact p1.1 rfl σ G1 H1 al1 (hB.trans n1) (hσ.nx n1) A1 Q (hQ.nx n1)
    | true => rw [if_pos rfl]; exact hQ true μ1 G1 H1 al1 n1 A1 (p1.2 rfl)
theorem dt_not (h : DT K B t ρ μ fun b μ1 => PT' (!b) μ1) : DT K B (tNot t) ρ μ PT' := fun σ G H al hB hσ hA Q hQ =>
  h σ G H al hB hσ hA _ fun b μ1 G1 H1 al1 n1 A1 p1 => hQ (!b) μ1 G1 H1 al1 n1 A1 p1
/-! arguments -/
variable {PA' : List D → Mu → Prop} {tr : TA}
theorem da_nil (h : PA' [] μ) : DA K B tNil ρ μ PA' := fun σ G H al hB hσ hA Q hQ => hQ [] [] μ G H al .refl hA .nil h
theorem da_cons (h : DE K B ta ρ μ fun x μ1 => DA K B tr ρ μ1 fun xs μ2 => PA' (x :: xs) μ2) : DA K B (tCons ta tr) ρ μ PA' := fun σ G H al hB hσ hA Q hQ =>
  h σ G H al hB hσ hA _ fun v d μ1 G1 H1 al1 n1 A1 r1 p1 => p1 σ G1 H1 al1 (hB.trans n1) (hσ.nx n1) A1 _ fun vs ds μ2 G2 H2 al2 n2 A2 r2 p2 => hQ (v :: vs) (d :: ds) μ2 G2 H2 al2 (n1.trans n2) A2 (.cons (r1.nx n2) r2) p2
theorem de_tup {ts : TA} (h : DA K B ts ρ μ fun xs μ1 => xs.length ≤ 100000 ∧ P (.tup xs) μ1) : DE K B (tTup ts) ρ μ P := fun σ G H al hB hσ hA Q hQ =>
  h σ G H al hB hσ hA _ fun vs ds μ1 G1 H1 al1 n1 A1 r1 p1 => by
    refine ⟨by rw [r1.length]; exact Nat.le_trans p1.1 (by decide), fun p hp => ?_⟩
    obtain ⟨A2, n2⟩ := A1.frz (o := .tup vs) hp
    exact hQ _ _ μ1 _ _ al1 (n1.trans n2) A2 (.tup upd_same (r1.nx n2)) p1.2
/-- a list, frozen at once -/
theorem de_lst {ts : TA} (h : DA K B ts ρ μ fun xs μ1 => xs.length ≤ 100000 ∧ P (.lst xs) μ1) : DE K B (tLst ts) ρ μ P := fun σ G H al hB hσ hA Q hQ =>
  h σ G H al hB hσ hA _ fun vs ds μ1 G1 H1 al1 n1 A1 r1 p1 => by
    refine ⟨by rw [r1.length]; exact Nat.le_trans p1.1 (by decide), fun p hp => ?_⟩
    obtain ⟨A2, n2⟩ := A1.frz (o := .lst vs) hp
    exact hQ _ _ μ1 _ _ al1 (n1.trans n2) A2 (.lst upd_same (r1.nx n2)) p1.2
/-- a list that will change -/
theorem de_lstO {ts : TA} (h : DA K B ts ρ μ fun xs μ1 => xs.length ≤ 100000 ∧ P (.own μ1.length) (μ1 ++ [.lst xs])) : DE K B (tLst ts) ρ μ P := fun σ G H al hB hσ hA Q hQ =>
  h σ G H al hB hσ hA _ fun vs ds μ1 G1 H1 al1 n1 A1 r1 p1 => by
    refine ⟨by rw [r1.length]; exact Nat.le_trans p1.1 (by decide), fun p hp => ?_⟩
    obtain ⟨A2, n2⟩ := A1.own (o := .lst vs) (m := .lst ds) hp ⟨A1.sub.free hp, vs, upd_same, r1.mono (Same.refl _) ⟨[p], rfl⟩⟩
    exact hQ _ _ _ _ _ _ (n1.trans n2) A2 (.own (by rw [← A1.len]; simp)) p1.2
theorem de_cb {r : List V → Hp → VK → Prop} {ts : TA} (h : DA K B ts ρ μ fun xs μ1 => RC K r xs μ1 P) : DE K B (tCB r ts) ρ μ P := fun σ G H al hB hσ hA Q hQ =>
  h σ G H al hB hσ hA _ fun vs ds μ1 G1 H1 al1 n1 A1 r1 p1 => p1 G1 H1 al1 vs A1 r1 Q (hQ.nx n1)
theorem do_no {PO : Option Int → Mu → Prop} (h : PO none μ) : DO K B tNoPart ρ μ PO := fun σ G H al hB hσ hA Q hQ => hQ none μ G H al .refl hA h
theorem do_part {PO : Option Int → Mu → Prop} (h : DE K B te ρ μ fun x μ1 => ∃ i, x = .int i ∧ PO (some i) μ1) : DO K B (tPart te) ρ μ PO := fun σ G H al hB hσ hA Q hQ =>
  h σ G H al hB hσ hA _ fun v d μ1 G1 H1 al1 n1 A1 r1 p1 => by
    obtain ⟨i, rfl, p⟩ := p1
    cases r1
    exact ⟨i, rfl, hQ _ μ1 G1 H1 al1 n1 A1 p⟩
theorem de_sl {r : V → Option Int → Option Int → Hp → VK → Prop} {tl th : TO} (h : DE K B te ρ μ fun x μ1 => DO K B tl ρ μ1 fun lo μ2 => DO K B th ρ μ2 fun hi μ3 => RS K r x lo hi μ3 P) : DE K B (tSl r te tl th) ρ μ P := fun σ G H al hB hσ hA Q hQ =>
  h σ G H al hB hσ hA _ fun v d μ1 G1 H1 al1 n1 A1 r1 p1 => p1 σ G1 H1 al1 (hB.trans n1) (hσ.nx n1) A1 _ fun lo μ2 G2 H2 al2 n2 A2 p2 =>
    p2 σ G2 H2 al2 ((hB.trans n1).trans n2) ((hσ.nx n1).nx n2) A2 _ fun hi μ3 G3 H3 al3 n3 A3 p3 => p3 G3 H3 al3 v A3 ((r1.nx n2).nx n3) Q (hQ.nx ((n1.trans n2).trans n3))
/-! fields, methods of built-in types -/
theorem de_fld {f : Str} (h : DE K B te ρ μ fun x μ1 => ∃ C gs d, (x = .obj C gs ∨ ∃ k, x = .own k ∧ μ1[k]? = some (.ins C gs)) ∧ Cls K C ∧ NoAttr K C f ∧ gs.lookup f = some d ∧ P d μ1) : DE K B (tFld K te f) ρ μ P := fun σ G H al hB hσ hA Q hQ =>
  h σ G H al hB hσ hA _ fun v d μ1 G1 H1 al1 n1 A1 r1 p1 => by
    obtain ⟨C, gs, z, hx, cl, na, lk, p⟩ := p1
    rcases hx with rfl | ⟨k, rfl, hk⟩
    · cases r1 with
      | obj e rf =>
        obtain ⟨w, lw, rw'⟩ := rf.look lk
        exact ⟨_, C, _, _, w, rfl, A1.sub _ _ e, cl, na, lw, hQ _ _ μ1 _ _ _ n1 A1 rw' p⟩
    · obtain ⟨a, ha, ok⟩ := A1.get hk
      cases r1 with
      | own e =>
        rw [ha] at e
        cases e
        obtain ⟨ga, dx, fs, hv, rf⟩ := ok
        obtain ⟨w, lw, rw'⟩ := rf.look lk
        exact ⟨_, C, _, _, w, rfl, hv, cl, na, lw, hQ _ _ μ1 _ _ _ n1 A1 rw' p⟩
theorem de_bm {T : String} {r : V → List V → Hp → VK → Prop} {ts : TA} (h : DE K B te ρ μ fun x μ1 => (∀ G H al v, As K G H al μ1 → Rp K G al v x → tyV K T v H) ∧ DA K B ts ρ μ1 fun xs μ2 => RM K r x xs μ2 P) : DE K B (tBM K T r te ts) ρ μ P := fun σ G H al hB hσ hA Q hQ =>
  h σ G H al hB hσ hA _ fun v d μ1 G1 H1 al1 n1 A1 r1 p1 => ⟨p1.1 G1 H1 al1 v A1 r1, p1.2 σ G1 H1 al1 (hB.trans n1) (hσ.nx n1) A1 _ fun vs ds μ2 G2 H2 al2 n2 A2 r2 p2 => p2 G2 H2 al2 v vs A2 (r1.nx n2) r2 Q (hQ.nx (n1.trans n2))⟩
theorem de_bm0 {T : String} {r : V → List V → Hp → VK → Prop} (h : DE K B te ρ μ fun x μ1 => (∀ G H al v, As K G H al μ1 → Rp K G al v x → tyV K T v H) ∧ RM K r x [] μ1 P) : DE K B (tBM0 K T r te) ρ μ P := fun σ G H al hB hσ hA Q hQ =>
  h σ G H al hB hσ hA _ fun v d μ1 G1 H1 al1 n1 A1 r1 p1 => ⟨p1.1 G1 H1 al1 v A1 r1, p1.2 G1 H1 al1 v [] A1 r1 .nil Q (hQ.nx n1)⟩
end
theorem set_id {α : Type} : ∀ {l : List α} {i : Nat} {x : α}, l[i]? = some x → l.set i x = l
  | [], _, _, h => by simp at h
  | a :: r, 0, x, h => by simp at h; subst h; rfl
  | a :: r, i + 1, x, h => by simp at h; simp [set_id h]
/-! ### targets, statements -/
section
variable {K : PySem.W.Frag} {B : Bs} {ρ : En} {μ : Mu} {P : DEnds} {te ta tb : TE} {t u : TS} {PG' : En → Mu → Prop}
theorem dg_name {i : Nat} {d : D} (h : PG' (ρ.set i (some d)) μ) : DG K B (gName i) d ρ μ PG' := fun σ G H al v hB hσ hA r Q hQ => hQ _ _ μ G H al .refl (hσ.set i r) hA h
theorem dgs_nil (h : PG' ρ μ) : DGs K B gNil [] ρ μ PG' := fun σ G H al vs hB hσ hA r Q hQ => by
  cases r
  exact ⟨rfl, hQ _ _ μ G H al .refl hσ hA h⟩
theorem dgs_cons {g : TG} {gs : TGs} {d : D} {ds : List D} (h : DG K B g d ρ μ fun ρ1 μ1 => DGs K B gs ds ρ1 μ1 PG') : DGs K B (gCons g gs) (d :: ds) ρ μ PG' := fun σ G H al vs hB hσ hA r Q hQ => by
  cases r with
  | cons r1 rs => exact ⟨_, _, rfl, h σ G H al _ hB hσ hA r1 _ fun σ1 ρ1 μ1 G1 H1 al1 n1 hσ1 A1 p1 => p1 σ1 G1 H1 al1 _ (hB.trans n1) hσ1 A1 (rs.nx n1) Q (hQ.nx n1)⟩
theorem dg_tup {n : Nat} {gs : TGs} {ds : List D} (hn : ds.length = n) (h : DGs K B gs ds ρ μ PG') : DG K B (gTup K n gs) (.tup ds) ρ μ PG' := fun σ G H al v hB hσ hA r Q hQ => by
  cases r with
  | tup e rs => exact ⟨_, _, rfl, .inl (.inl (hA.sub _ _ e)), rs.length.trans hn, h σ G H al _ hB hσ hA rs Q hQ⟩
theorem dg_sub {to ti : TE} {r : TSet} {d : D} (h : DE K B to ρ μ fun o μ1 => DE K B ti ρ μ1 fun i μ2 => RSet K r o i d μ2 fun μ3 => PG' ρ μ3) : DG K B (gSub to ti r) d ρ μ PG' := fun σ G H al v hB hσ hA rv Q hQ =>
  h σ G H al hB hσ hA _ fun vo o μ1 G1 H1 al1 n1 A1 r1 p1 => p1 σ G1 H1 al1 (hB.trans n1) (hσ.nx n1) A1 _ fun vi i μ2 G2 H2 al2 n2 A2 r2 p2 =>
    p2 G2 H2 al2 vo vi v A2 (r1.nx n2) r2 ((rv.nx n1).nx n2) _ fun μ3 G3 H3 al3 n3 A3 p3 => hQ _ _ μ3 G3 H3 al3 ((n1.trans n2).trans n3) (((hσ.nx n1).nx n2).nx n3) A3 p3
theorem ds_next (h : P.nx ρ μ) : DS K B tNext ρ μ P := fun σ G H al hB hσ hA De hD => hD.nx _ _ μ G H al .refl hσ hA h
theorem ds_seq (h : DS K B t ρ μ { P with nx := fun ρ1 μ1 => DS K B u ρ1 μ1 P }) : DS K B (tSeq t u) ρ μ P := fun σ G H al hB hσ hA De hD =>
  h σ G H al hB hσ hA _ ⟨fun σ1 ρ1 μ1 G1 H1 al1 n1 hσ1 A1 p1 => p1 σ1 G1 H1 al1 (hB.trans n1) hσ1 A1 De (hD.nx' n1), hD.rt, hD.bk, hD.ct⟩
/-- a statement behind which the ways meet again -/
theorem ds_cut {M : En → Mu → Prop} (h : DS K B t ρ μ { P with nx := M }) (k : ∀ ρ1 μ1, M ρ1 μ1 → DS K B u ρ1 μ1 P) : DS K B (tSeq t u) ρ μ P := fun σ G H al hB hσ hA De hD =>
  h σ G H al hB hσ hA _ ⟨fun σ1 ρ1 μ1 G1 H1 al1 n1 hσ1 A1 p1 => k ρ1 μ1 p1 σ1 G1 H1 al1 (hB.trans n1) hσ1 A1 De (hD.nx' n1), hD.rt, hD.bk, hD.ct⟩
theorem ds_asg {g : TG} (h : DE K B te ρ μ fun d μ1 => DG K B g d ρ μ1 P.nx) : DS K B (tAsg te g) ρ μ P := fun σ G H al hB hσ hA De hD =>
  h σ G H al hB hσ hA _ fun v d μ1 G1 H1 al1 n1 A1 r1 p1 => p1 σ G1 H1 al1 v (hB.trans n1) (hσ.nx n1) A1 r1 _ (hD.nx.nx n1)
theorem ds_set {i : Nat} (h : DE K B te ρ μ fun d μ1 => P.nx (ρ.set i (some d)) μ1) : DS K B (tAsg te (gName i)) ρ μ P := ds_asg (h.imp fun d μ1 p => dg_name p)
theorem ds_drop (h : DE K B te ρ μ fun d μ1 => P.nx ρ μ1) : DS K B (tDrop te) ρ μ P := fun σ G H al hB hσ hA De hD =>
  h σ G H al hB hσ hA _ fun v d μ1 G1 H1 al1 n1 A1 r1 p1 => hD.nx _ _ μ1 G1 H1 al1 n1 (hσ.nx n1) A1 p1
theorem ds_ret (h : DE K B te ρ μ P.rt) : DS K B (tRet te) ρ μ P := fun σ G H al hB hσ hA De hD => h σ G H al hB hσ hA _ hD.rt
theorem ds_retN (h : P.rt .non μ) : DS K B tRetN ρ μ P := fun σ G H al hB hσ hA De hD => hD.rt _ _ μ G H al .refl hA .non h
theorem ds_if {c : TT} (h : DT K B c ρ μ fun b μ1 => (b = true → DS K B t ρ μ1 P) ∧ (b = false → DS K B u ρ μ1 P)) : DS K B (tIfS c t u) ρ μ P := fun σ G H al hB hσ hA De hD =>
  h σ G H al hB hσ hA _ fun b μ1 G1 H1 al1 n1 A1 p1 => by
    cases b with
    | true => rw [if_pos rfl]; exact p1.1 rfl σ G1 H1 al1 (hB.trans n1) (hσ.nx n1) A1 De (hD.nx' n1)
    | false => rw [if_neg (by simp)]; exact p1.2 rfl σ G1 H1 al1 (hB.trans n1) (hσ.nx n1) A1 De (hD.nx' n1)
theorem ds_par {i j : Nat} {ts : TA} (h : DA K B ts ρ μ fun ds μ1 => ∃ x y, ds = [x, y] ∧ P.nx ((ρ.set i (some x)).set j (some y)) μ1) : DS K B (tPar i j ts) ρ μ P := fun σ G H al hB hσ hA De hD =>
  h σ G H al hB hσ hA _ fun vs ds μ1 G1 H1 al1 n1 A1 r1 p1 => by
    obtain ⟨x, y, rfl, p⟩ := p1
    cases r1 with
    | cons rx r2 => cases r2 with
      | cons ry r3 =>
        cases r3
        exact ⟨_, _, rfl, hD.nx _ _ μ1 G1 H1 al1 n1 (((hσ.nx n1).set i rx).set j ry) A1 p⟩
theorem ds_aug {i : Nat} {r : TIp} {x : D} (e : ρ[i]? = some (some x)) (h : DE K B te ρ μ fun y μ1 => RO K r x y μ1 fun z μ2 => P.nx (ρ.set i (some z)) μ2) : DS K B (tAug i te r) ρ μ P := fun σ G H al hB hσ hA De hD => by
  obtain ⟨v, e1, r1⟩ := hσ.2 i x e
  refine ⟨v, e1, h σ G H al hB hσ hA _ fun w y μ1 G1 H1 al1 n1 A1 r2 p1 => p1 G1 H1 al1 v w A1 (r1.nx n1) r2 _ fun z dz μ2 G2 H2 al2 n2 A2 r3 p2 => ?_⟩
  exact hD.nx _ _ μ2 G2 H2 al2 (n1.trans n2) (((hσ.nx n1).nx n2).set i r3) A2 p2
theorem ds_fld {f : Str} (h : DE K B tb ρ μ fun y μ1 => DE K B ta ρ μ1 fun x μ2 => ∃ k C gs, x = .own k ∧ μ2[k]? = some (.ins C gs) ∧ Cls K C ∧ NoAttr K C f ∧ gs.length < 1000 ∧ P.nx ρ (μ2.set k (.ins C (putD f y gs)))) : DS K B (sFld K ta tb f) ρ μ P := fun σ G H al hB hσ hA De hD =>
  h σ G H al hB hσ hA _ fun vy y μ1 G1 H1 al1 n1 A1 r1 p1 => p1 σ G1 H1 al1 (hB.trans n1) (hσ.nx n1) A1 _ fun vx x μ2 G2 H2 al2 n2 A2 r2 p2 => by
    obtain ⟨k, C, gs, rfl, hk, cl, na, hl, p⟩ := p2
    obtain ⟨a, ha, ok⟩ := A2.get hk
    cases r2 with
    | own e =>
      rw [ha] at e
      cases e
      obtain ⟨ga, dx, fs, hv, rf⟩ := ok
      obtain ⟨A3, n3⟩ := A2.put (o := .ins C dx (putF f vy fs)) (m' := .ins C (putD f y gs)) ha hk (by simp) ⟨ga, dx, _, upd_same, rf.put f (r1.nx n2)⟩
      exact ⟨_, C, dx, fs, rfl, hv, cl, na, by rw [rf.length]; exact hl, hD.nx _ _ _ _ _ _ ((n1.trans n2).trans n3) (((hσ.nx n1).nx n2).nx n3) A3 p⟩
theorem ds_fldAug {f : Str} {r : V → V → Hp → VK → Prop} (h : DE K B ta ρ μ fun x μ1 => ∃ k C gs d, x = .own k ∧ μ1[k]? = some (.ins C gs) ∧ Cls K C ∧ NoAttr K C f ∧ gs.lookup f = some d ∧
      DE K B tb ρ μ1 fun y μ2 => RO K r d y μ2 fun z μ3 => ∃ gs', μ3[k]? = some (.ins C gs') ∧ gs'.length < 1000 ∧ P.nx ρ (μ3.set k (.ins C (putD f z gs')))) : DS K B (sFldAug K ta tb r f) ρ μ P := fun σ G H al hB hσ hA De hD =>
  h σ G H al hB hσ hA _ fun vx x μ1 G1 H1 al1 n1 A1 r1 p1 => by
    obtain ⟨k, C, gs, d, rfl, hk, cl, na, lk, p⟩ := p1
    obtain ⟨a, ha, ok⟩ := A1.get hk
    cases r1 with
    | own e =>
      rw [ha] at e
      cases e
      obtain ⟨ga, dx, fs, hv, rf⟩ := ok
      obtain ⟨w, lw, rw'⟩ := rf.look lk
      refine ⟨_, C, dx, fs, w, rfl, hv, cl, na, lw, p σ G1 H1 al1 (hB.trans n1) (hσ.nx n1) A1 _ fun vy y μ2 G2 H2 al2 n2 A2 r2 p2 => p2 G2 H2 al2 w vy A2 (rw'.nx n2) r2 _ fun vz z μ3 G3 H3 al3 n3 A3 r3 p3 => ?_⟩
      obtain ⟨gs', hk3, hl, p⟩ := p3
      obtain ⟨a3, ha3, ok3⟩ := A3.get hk3
      have ea : a3 = _ := Option.some.inj (ha3.symm.trans (n3.p.get (n2.p.get ha)))
      subst ea
      obtain ⟨ga3, dx3, fs3, hv3, rf3⟩ := ok3
      obtain ⟨A4, n4⟩ := A3.put (o := .ins C dx3 (putF f vz fs3)) (m' := .ins C (putD f z gs')) ha3 hk3 (by simp) ⟨ga3, dx3, _, upd_same, rf3.put f r3⟩
      exact ⟨dx3, fs3, hv3, by rw [rf3.length]; exact hl, hD.nx _ _ _ _ _ _ (((n1.trans n2).trans n3).trans n4) ((((hσ.nx n1).nx n2).nx n3).nx n4) A4 p⟩
/-- a list that a slot holds is frozen -/
theorem ds_freeze {i k : Nat} {ds : List D} (hi : ρ[i]? = some (some (.own k))) (hk : μ[k]? = some (.lst ds)) (h : DS K B t (ρ.set i (some (.lst ds))) (μ.set k .dead) P) : DS K B t ρ μ P := fun σ G H al hB hσ hA De hD => by
  obtain ⟨v, e1, r1⟩ := hσ.2 i _ hi
  obtain ⟨a, ha, ok⟩ := hA.get hk
  cases r1 with
  | own e =>
    rw [ha] at e
    cases e
    obtain ⟨ga, vs, hv, rv⟩ := ok
    obtain ⟨A2, n2⟩ := hA.freeze ha hv ga
    refine h σ _ _ _ (hB.trans n2) ?_ A2 De (hD.nx' n2)
    rw [← set_id e1]
    exact (hσ.nx n2).set i (.lst upd_same (rv.nx n2))
end
end Dl
set_option Elab.async false
set_option linter.all false
set_option maxRecDepth 100000
namespace Dl
open PySem L2
/-! ### lists that are read -/
inductive Ls (μ : Mu) : D → List D → Prop
  | lst (ds : List D) : Ls μ (.lst ds) ds
  | rdl (ds : List D) : Ls μ (.rdl ds) ds
  | own {k : Nat} {ds : List D} (h : μ[k]? = some (.lst ds)) : Ls μ (.own k) ds
/-- .. and stand in the heap itself -/
inductive Lt (μ : Mu) : D → List D → Prop
  | lst (ds : List D) : Lt μ (.lst ds) ds
  | own {k : Nat} {ds : List D} (h : μ[k]? = some (.lst ds)) : Lt μ (.own k) ds
inductive Ts : D → List D → Prop
  | tup (ds : List D) : Ts (.tup ds) ds
  | rdt (ds : List D) : Ts (.rdt ds) ds
section
variable {K : PySem.W.Frag} {G H : Hp} {al : List Addr} {μ : Mu} {v : V} {d : D} {ds : List D}
theorem Lt.get (h : Lt μ d ds) (A : As K G H al μ) (r : Rp K G al v d) : ∃ a vs, v = .ref a ∧ H a = some (.lst vs) ∧ Rps K G al vs ds := by
  cases h with
  | lst => cases r with | lst e rs => exact ⟨_, _, rfl, A.sub _ _ e, rs⟩
  | own hk =>
    obtain ⟨a, ha, ga, vs, hv, rs⟩ := A.get hk
    cases r with
    | own e => rw [ha] at e; cases e; exact ⟨_, vs, rfl, hv, rs⟩
theorem Ls.get (h : Ls μ d ds) (A : As K G H al μ) (r : Rp K G al v d) : ∃ a vs, v = .ref a ∧ SqL K H a vs ∧ Rps K G al vs ds := by
  cases h with
  | lst => cases r with | lst e rs => exact ⟨_, _, rfl, .inl (.inl (A.sub _ _ e)), rs⟩
  | rdl => cases r with | rdl e rs => exact ⟨_, _, rfl, sql_mono A.sub e, rs⟩
  | own hk =>
    obtain ⟨a, ha, ga, vs, hv, rs⟩ := A.get hk
    cases r with
    | own e => rw [ha] at e; cases e; exact ⟨_, vs, rfl, .inl (.inl hv), rs⟩
theorem Ts.get (h : Ts d ds) (A : As K G H al μ) (r : Rp K G al v d) : ∃ a vs, v = .ref a ∧ SqT K H a vs ∧ Rps K G al vs ds := by
  cases h with
  | tup => cases r with | tup e rs => exact ⟨_, _, rfl, .inl (.inl (A.sub _ _ e)), rs⟩
  | rdt => cases r with | rdt e rs => exact ⟨_, _, rfl, sqt_mono A.sub e, rs⟩
end
theorem rps_cons {K : PySem.W.Frag} {G : Hp} {al : List Addr} {vs : List V} {d : D} {ds : List D} (h : Rps K G al vs (d :: ds)) : ∃ v ws, vs = v :: ws ∧ Rp K G al v d ∧ Rps K G al ws ds := by
  cases h with | cons r t => exact ⟨_, _, rfl, r, t⟩
theorem rps1 {K : PySem.W.Frag} {G : Hp} {al : List Addr} {vs : List V} {d : D} (h : Rps K G al vs [d]) : ∃ v, vs = [v] ∧ Rp K G al v d := by
  obtain ⟨v, ws, rfl, r, t⟩ := rps_cons h
  cases t; exact ⟨v, rfl, r⟩
theorem rps2 {K : PySem.W.Frag} {G : Hp} {al : List Addr} {vs : List V} {d e : D} (h : Rps K G al vs [d, e]) : ∃ v w, vs = [v, w] ∧ Rp K G al v d ∧ Rp K G al w e := by
  obtain ⟨v, ws, rfl, r, t⟩ := rps_cons h
  obtain ⟨w, rfl, q⟩ := rps1 t
  exact ⟨v, w, rfl, r, q⟩
/-- an item by an index of any sign -/
theorem atI_rps {K : PySem.W.Frag} {G : Hp} {al : List Addr} {vs : List V} {ds : List D} {i : Int} {d : D} (h : Rps K G al vs ds) (e : atI ds i = some d) : ∃ v, atI vs i = some v ∧ Rp K G al v d := by
  unfold atI at e ⊢
  rw [h.length]
  cases q : ixN ds.length i with
  | none => rw [q] at e; cases e
  | some j =>
    rw [q] at e
    exact h.get e
def cutD (xs : List D) (lo hi : Option Int) : List D := (xs.drop (HT.sIx xs.length 0 lo)).take (HT.sIx xs.length xs.length hi - HT.sIx xs.length 0 lo)
theorem cut_rps {K : PySem.W.Frag} {G : Hp} {al : List Addr} {vs : List V} {ds : List D} (h : Rps K G al vs ds) (lo hi : Option Int) : Rps K G al (cutV vs lo hi) (cutD ds lo hi) := by
  unfold cutV cutD
  rw [h.length]
  exact (h.drop _).take _
section
variable {K : PySem.W.Frag} {μ : Mu} {P : D → Mu → Prop} {i j : Int} {x y d : D} {ds es : List D}
/-! ### numbers -/
theorem ro_i {f : Int → Int → Int} (h : P (.int (f i j)) μ) : RO K (rI0 fun i j => .int (f i j)) (.int i) (.int j) μ P := fun G H al v w A r1 r2 Q hQ => by
  cases r1; cases r2
  exact ⟨i, j, rfl, rfl, hQ.now A (.int _) h⟩
theorem ro_b {f : Int → Int → Bool} (h : P (.bl (f i j)) μ) : RO K (rI0 fun i j => .bl (f i j)) (.int i) (.int j) μ P := fun G H al v w A r1 r2 Q hQ => by
  cases r1; cases r2
  exact ⟨i, j, rfl, rfl, hQ.now A (.bl _) h⟩
theorem ro_ic {C : Int → Int → Prop} {f : Int → Int → Int} (hc : C i j) (h : P (.int (f i j)) μ) : RO K (rI C fun i j => .int (f i j)) (.int i) (.int j) μ P := fun G H al v w A r1 r2 Q hQ => by
  cases r1; cases r2
  exact ⟨i, j, rfl, rfl, hc, hQ.now A (.int _) h⟩
theorem ro_ip {f : Int → Int → Int} (h : P (.int (f i j)) μ) : RO K (ipI f) (.int i) (.int j) μ P := fun G H al v w A r1 r2 Q hQ => by
  cases r1; cases r2
  exact ⟨i, j, rfl, rfl, hQ.now A (.int _) h⟩
theorem ro_add (h : P (.int (i + j)) μ) : RO K rAdd (.int i) (.int j) μ P := fun G H al v w A r1 r2 Q hQ => by
  cases r1; cases r2
  exact ⟨i, j, rfl, rfl, hQ.now A (.int _) h⟩
theorem ru_i {f : Int → Int} (h : P (.int (f i)) μ) : RU K (rU fun i => .int (f i)) (.int i) μ P := fun G H al v A r1 Q hQ => by
  cases r1
  exact ⟨i, rfl, hQ.now A (.int _) h⟩
theorem rc_max2 (h : P (.int (max i j)) μ) : RC K (fun xs H Q => ∃ i j, xs = [.int i, .int j] ∧ Q (.int (if j > i then j else i)) H) [.int i, .int j] μ P := fun G H al vs A r Q hQ => by
  obtain ⟨v, w, rfl, r1, r2⟩ := rps2 r
  cases r1; cases r2
  refine ⟨i, j, rfl, ?_⟩
  have e : (if j > i then j else i) = max i j := by rw [Int.max_def]; split <;> split <;> omega
  rw [e]
  exact hQ.now A (.int _) h
theorem rc_min2 (h : P (.int (min i j)) μ) : RC K (fun xs H Q => ∃ i j, xs = [.int i, .int j] ∧ Q (.int (if j < i then j else i)) H) [.int i, .int j] μ P := fun G H al vs A r Q hQ => by
  obtain ⟨v, w, rfl, r1, r2⟩ := rps2 r
  cases r1; cases r2
  refine ⟨i, j, rfl, ?_⟩
  have e : (if j < i then j else i) = min i j := by rw [Int.min_def]; split <;> split <;> omega
  rw [e]
  exact hQ.now A (.int _) h
/-! ### lengths, items, slices, joins -/
theorem rc_len (hl : Ls μ x ds) (h : P (.int (ds.length : Int)) μ) : RC K (fun xs H Q => ∃ x n, xs = [x] ∧ LenV K x H n ∧ Q (.int (n : Nat)) H) [x] μ P := fun G H al vs A r Q hQ => by
  obtain ⟨v, rfl, r1⟩ := rps1 r
  obtain ⟨a, ws, rfl, s, rs⟩ := hl.get A r1
  exact ⟨.ref a, ds.length, rfl, .inl ⟨ws, s, rs.length.symm⟩, hQ.now A (.int _) h⟩
theorem rc_lenT (hl : Ts x ds) (h : P (.int (ds.length : Int)) μ) : RC K (fun xs H Q => ∃ x n, xs = [x] ∧ LenV K x H n ∧ Q (.int (n : Nat)) H) [x] μ P := fun G H al vs A r Q hQ => by
  obtain ⟨v, rfl, r1⟩ := rps1 r
  obtain ⟨a, ws, rfl, s, rs⟩ := hl.get A r1
  exact ⟨.ref a, ds.length, rfl, .inr ⟨ws, s, rs.length.symm⟩, hQ.now A (.int _) h⟩
theorem ro_ixL (hl : Ls μ x ds) (e : atI ds i = some d) (h : P d μ) : RO K (rIx K) x (.int i) μ P := fun G H al v w A r1 r2 Q hQ => by
  cases r2
  obtain ⟨a, ws, rfl, s, rs⟩ := hl.get A r1
  obtain ⟨z, ez, rz⟩ := atI_rps rs e
  exact .inl ⟨a, ws, i, z, rfl, rfl, s, ez, hQ.now A rz h⟩
theorem ro_ixT (hl : Ts x ds) (e : atI ds i = some d) (h : P d μ) : RO K (rIx K) x (.int i) μ P := fun G H al v w A r1 r2 Q hQ => by
  cases r2
  obtain ⟨a, ws, rfl, s, rs⟩ := hl.get A r1
  obtain ⟨z, ez, rz⟩ := atI_rps rs e
  exact .inr (.inl ⟨a, ws, i, z, rfl, rfl, s, ez, hQ.now A rz h⟩)
theorem rs_lst {lo hi : Option Int} (hl : Ls μ x ds) (h : P (.lst (cutD ds lo hi)) μ) : RS K (rSlL K) x lo hi μ P := fun G H al v A r Q hQ => by
  obtain ⟨a, ws, rfl, s, rs⟩ := hl.get A r
  refine ⟨a, ws, rfl, s, fun p hp => ?_⟩
  obtain ⟨A2, n2⟩ := A.frz (o := .lst (cutV ws lo hi)) hp
  exact hQ _ _ μ _ _ _ n2 A2 (.lst upd_same ((cut_rps rs lo hi).nx n2)) h
/-! ### lists that change -/
theorem ty_list (hl : Ls μ x ds) : ∀ G H al v, As K G H al μ → Rp K G al v x → tyV K "list" v H := fun G H al v A r => by
  obtain ⟨a, ws, rfl, s, rs⟩ := hl.get A r
  exact .inl ⟨rfl, ws, s⟩
theorem rm_app {k : Nat} (hk : μ[k]? = some (.lst ds)) (hs : ds.length < 100000) (h : P .non (μ.set k (.lst (ds ++ [d])))) : RM K rAppend (.own k) [d] μ P := fun G H al v vs A r rs Q hQ => by
  obtain ⟨a, ha, ga, ws, hv, rw'⟩ := A.get hk
  obtain ⟨u, rfl, ru⟩ := rps1 rs
  cases r with
  | own e =>
    rw [ha] at e; cases e
    refine ⟨a, ws, u, rfl, rfl, hv, by rw [rw'.length]; exact Nat.lt_of_lt_of_le hs (by decide), ?_⟩
    obtain ⟨A2, n2⟩ := A.put (o := .lst (ws ++ [u])) (m' := .lst (ds ++ [d])) ha hk (by simp) ⟨ga, _, upd_same, rw'.append (.cons ru .nil)⟩
    exact hQ _ _ _ _ _ _ n2 A2 .non h
theorem rset_lst {k j : Nat} {PM : Mu → Prop} (hk : μ[k]? = some (.lst ds)) (hj : ixN ds.length i = some j) (h : PM (μ.set k (.lst (ds.set j d)))) : RSet K rSetL (.own k) (.int i) d μ PM := fun G H al v w u A r1 r2 r3 Q hQ => by
  obtain ⟨a, ha, ga, ws, hv, rw'⟩ := A.get hk
  cases r2
  cases r1 with
  | own e =>
    rw [ha] at e; cases e
    obtain ⟨A2, n2⟩ := A.put (o := .lst (ws.set j u)) (m' := .lst (ds.set j d)) ha hk (by simp) ⟨ga, _, upd_same, rw'.set j r3⟩
    exact ⟨a, ws, i, j, rfl, rfl, hv, by rw [rw'.length]; exact hj, hQ _ _ _ _ n2 A2 h⟩
/-! ### sums, all, any -/
theorem rc_sum {ns : List Int} (hl : Ls μ x (ns.map D.int)) (h : P (.int ns.sum) μ) : RC K (rSum K) [x] μ P := fun G H al vs A r Q hQ => by
  obtain ⟨v, rfl, r1⟩ := rps1 r
  obtain ⟨a, ws, rfl, s, rs⟩ := hl.get A r1
  have e := rs.ints
  subst e
  exact ⟨a, ns, rfl, s, hQ.now A (.int _) h⟩
theorem rc_all {bs : List Bool} (hl : Ls μ x (bs.map D.bl)) (h : P (.bl (bs.all id)) μ) : RC K (rAll K) [x] μ P := fun G H al vs A r Q hQ => by
  obtain ⟨v, rfl, r1⟩ := rps1 r
  obtain ⟨a, ws, rfl, s, rs⟩ := hl.get A r1
  have e := rs.bools
  subst e
  exact ⟨a, bs, rfl, s, hQ.now A (.bl _) h⟩
end
/-! ### isinstance -/
/-- a built-in type's name -/
def tyD (μ : Mu) : D → Option String
  | .non => some "NoneType"
  | .bl _ => some "bool"
  | .int _ => some "int"
  | .str _ => some "str"
  | .tup _ => some "tuple"
  | .lst _ => some "list"
  | .rdl _ => some "list"
  | .rdt _ => some "tuple"
  | .dct _ => some "dict"
  | .own k => match μ[k]? with
    | some (.lst _) => some "list"
    | some (.dK _) => some "dict"
    | some (.dT _) => some "dict"
    | _ => none
  | _ => none
/-- what isinstance asks of an own class -/
structure ObT (K : PySem.W.Frag) (C : Addr) : Prop where
  cl : Cls K C
  ha : PySem.W.findIn K (.ref C) "__class__" = some (some (.builtin "object.__class__"))
  hn : PySem.W.specialIn K (.builtin "object.__class__") "__get__" = some (some (.builtin "getset_descriptor.__get__"))
  htk : PySem.W.takesIn K (.builtin "object.__class__") = some true
  hm : PySem.W.mroIn K C (.type "object") = some true
/-- the type of a datum as the deciders take it -/
inductive TyDV (K : PySem.W.Frag) (μ : Mu) : D → Value → Prop
  | ty {d : D} {n : String} (h : tyD μ d = some n) : TyDV K μ d (.type n)
  | obj {C : Addr} {gs : List (Str × D)} (o : ObT K C) : TyDV K μ (.obj C gs) (.ref C)
  | own {C : Addr} {gs : List (Str × D)} {k : Nat} (h : μ[k]? = some (.ins C gs)) (o : ObT K C) : TyDV K μ (.own k) (.ref C)
inductive ClD : D → Value → Prop
  | ty (n : String) : ClD (.ty n) (.type n)
  | loc (C : Addr) : ClD (.loc C) (.ref C)
theorem TyDV.tyx {K : PySem.W.Frag} {G H : Hp} {al : List Addr} {μ : Mu} {v : V} {d : D} {t : Value} (h : TyDV K μ d t) (A : As K G H al μ) (r : Rp K G al v d) : TyX K H v t := by
  cases h with
  | obj o =>
    cases r with
    | obj e rf => exact .base (.ins (A.sub _ _ e) o.cl o.ha o.hn o.htk o.hm)
  | own hk o =>
    obtain ⟨a, ha, ga, dx, fs, hv, rf⟩ := A.get hk
    cases r with
    | own e => rw [ha] at e; cases e; exact .base (.ins hv o.cl o.ha o.hn o.htk o.hm)
  | ty ht =>
    cases r with
    | non => cases ht; exact .base .non
    | bl b => cases ht; exact .base (.bl b)
    | int i => cases ht; exact .base (.int i)
    | str x => cases ht; exact .base (.str x)
    | ty n => cases ht
    | tup e rs => cases ht; exact .base (.tup (A.sub _ _ e))
    | lst e rs => cases ht; exact .base (.lst (A.sub _ _ e))
    | rdl e rs =>
      cases ht
      rcases e with (e | ⟨o, e⟩) | ⟨o, its, n, hk, hc, hd, hs, hz, _⟩
      · exact .base (.lst (A.sub _ _ e))
      · exact .base (.frz (A.sub _ _ e))
      · exact .kList hk hc
    | rdt e rs =>
      cases ht
      rcases e with (e | ⟨o, e⟩) | ⟨o, its, n, hk, hc, hs, hz, _⟩
      · exact .base (.tup (A.sub _ _ e))
      · exact .fTuple (A.sub _ _ e)
      · exact .kTuple hk hc
    | obj e rf => cases ht
    | dct e rf =>
      cases ht
      rcases e with e | ⟨o, e⟩
      · exact .base (.dK (A.sub _ _ e))
      · exact .fDict (A.sub _ _ e)
    | own e =>
      rename_i a k
      simp only [tyD] at ht
      cases hk : μ[k]? with
      | none => rw [hk] at ht; cases ht
      | some m =>
        rw [hk] at ht
        obtain ⟨a', ha, ok⟩ := A.get hk
        rw [ha] at e; cases e
        cases m with
        | lst ds => cases ht; obtain ⟨ga, vs, hv, _⟩ := ok; exact .base (.lst hv)
        | dK ds => cases ht; obtain ⟨ga, vs, hv, _⟩ := ok; exact .base (.dK hv)
        | dT ds => cases ht; obtain ⟨ga, vs, hv, _⟩ := ok; exact .base (.dT hv)
        | dead => cases ht
        | ins _ _ => cases ht
        | tab _ _ => cases ht
    | loc a => cases ht
    | exc _ _ _ => cases ht
section
variable {K : PySem.W.Frag} {μ : Mu} {P : D → Mu → Prop} {x c : D}
theorem rc_isi {t u : Value} {b : Bool} (ht : TyDV K μ x t) (hc : ClD c u) (hk : PySem.W.kitOne K t u = some b) (h : P (.bl b) μ) : RC K (rIsi K) [x, c] μ P := fun G H al vs A r Q hQ => by
  obtain ⟨v, w, rfl, r1, r2⟩ := rps2 r
  have tx := ht.tyx A r1
  cases hc with
  | ty n => cases r2; exact ⟨v, _, t, _, b, rfl, .ty n, tx, hk, hQ.now A (.bl b) h⟩
  | loc C => cases r2; exact ⟨v, _, t, _, b, rfl, .own C, tx, hk, hQ.now A (.bl b) h⟩
theorem rc_isiB {n m : String} {b : Bool} (ht : tyD μ x = some n) (hk : kitB n m = some b) (h : P (.bl b) μ) : RC K (rIsi K) [x, .ty m] μ P := rc_isi (.ty ht) (.ty m) (kit_ty hk) h
end
/-! ### == of data -/
mutual
def D.py : D → PyData
  | .non => .none
  | .bl b => .bool b
  | .int i => .int i
  | .str x => .str x
  | .ty _ => .none
  | .tup xs => .tuple (pyL xs)
  | .lst xs => .list (pyL xs)
  | .rdl xs => .list (pyL xs)
  | .rdt xs => .tuple (pyL xs)
  | .obj _ _ => .none
  | .dct _ => .none
  | .own _ => .none
  | .loc _ => .none
  | .exc _ _ => .none
def pyL : List D → List PyData
  | [] => []
  | x :: xs => D.py x :: pyL xs
end
mutual
/-- data that == goes through: how deep -/
def D.shp : D → Nat → Bool
  | .non, _ => true
  | .bl _, _ => true
  | .int _, _ => true
  | .str x, _ => PyData.strOk x
  | .tup xs, n => decide (0 < n) && shpL xs (n - 1)
  | .lst xs, n => decide (0 < n) && shpL xs (n - 1)
  | .rdl xs, n => decide (0 < n) && shpL xs (n - 1)
  | .rdt xs, n => decide (0 < n) && shpL xs (n - 1)
  | .ty _, _ => false
  | .obj _ _, _ => false
  | .dct _, _ => false
  | .own _, _ => false
  | .loc _, _ => false
  | .exc _ _, _ => false
def shpL : List D → Nat → Bool
  | [], _ => true
  | x :: xs, n => D.shp x n && shpL xs n
end
section
variable {K : PySem.W.Frag} {G H : Hp} {al : List Addr}
mutual
theorem dp_of (s : Same G H) : ∀ {d : D} {n : Nat} {v : V}, d.shp n = true → Rp K G al v d → Dp K H v d.py
  | .non, _, _, _, .non => by unfold D.py; exact .non
  | .bl _, _, _, _, .bl b => by unfold D.py; exact .bl b
  | .int _, _, _, _, .int i => by unfold D.py; exact .int i
  | .str _, _, _, _, .str x => by unfold D.py; exact .str x
  | .tup xs, n, _, h, .tup e r => by
    unfold D.py; unfold D.shp at h; simp at h
    exact .tup (.inl (.inl (s _ _ e))) (dpAll_of s h.2 r)
  | .lst xs, n, _, h, .lst e r => by
    unfold D.py; unfold D.shp at h; simp at h
    exact .lst (.inl (.inl (s _ _ e))) (dpAll_of s h.2 r)
  | .rdl xs, n, _, h, .rdl e r => by
    unfold D.py; unfold D.shp at h; simp at h
    exact .lst (sql_mono s e) (dpAll_of s h.2 r)
  | .rdt xs, n, _, h, .rdt e r => by
    unfold D.py; unfold D.shp at h; simp at h
    exact .tup (sqt_mono s e) (dpAll_of s h.2 r)
  | .ty _, _, _, h, _ => by unfold D.shp at h; cases h
  | .obj _ _, _, _, h, _ => by unfold D.shp at h; cases h
  | .dct _, _, _, h, _ => by unfold D.shp at h; cases h
  | .own _, _, _, h, _ => by unfold D.shp at h; cases h
  | .loc _, _, _, h, _ => by unfold D.shp at h; cases h
  | .exc _ _, _, _, h, _ => by unfold D.shp at h; cases h
theorem dpAll_of (s : Same G H) : ∀ {ds : List D} {n : Nat} {vs : List V}, shpL ds n = true → Rps K G al vs ds → DpAll K H vs (pyL ds)
  | [], _, _, _, .nil => by unfold pyL; exact .nil
  | d :: ds, n, _, h, .cons r t => by
    unfold pyL; unfold shpL at h; simp at h
    exact .cons (dp_of s h.1 r) (dpAll_of s h.2 t)
end
end
mutual
theorem can_of : ∀ {d : D} {n : Nat}, d.shp n = true → d.py.canLay0 = true ∧ d.py.depth ≤ n
  | .non, n, _ => by simp [D.py, PyData.canLay0, PyData.depth]
  | .bl _, n, _ => by simp [D.py, PyData.canLay0, PyData.depth]
  | .int _, n, _ => by simp [D.py, PyData.canLay0, PyData.depth]
  | .str x, n, h => by
    unfold D.shp at h
    simp [D.py, PyData.canLay0, PyData.depth, h]
  | .tup xs, n, h => by
    unfold D.shp at h; simp at h
    have q := canL_of h.2
    simp [D.py, PyData.canLay0, PyData.depth, q.1]
    omega
  | .lst xs, n, h => by
    unfold D.shp at h; simp at h
    have q := canL_of h.2
    simp [D.py, PyData.canLay0, PyData.depth, q.1]
    omega
  | .rdl xs, n, h => by
    unfold D.shp at h; simp at h
    have q := canL_of h.2
    simp [D.py, PyData.canLay0, PyData.depth, q.1]
    omega
  | .rdt xs, n, h => by
    unfold D.shp at h; simp at h
    have q := canL_of h.2
    simp [D.py, PyData.canLay0, PyData.depth, q.1]
    omega
  | .ty _, _, h => by unfold D.shp at h; cases h
  | .obj _ _, _, h => by unfold D.shp at h; cases h
  | .dct _, _, h => by unfold D.shp at h; cases h
  | .own _, _, h => by unfold D.shp at h; cases h
  | .loc _, _, h => by unfold D.shp at h; cases h
  | .exc _ _, _, h => by unfold D.shp at h; cases h
theorem canL_of : ∀ {ds : List D} {n : Nat}, shpL ds n = true → PyData.canLayAll0 (pyL ds) = true ∧ PyData.depthAll (pyL ds) ≤ n
  | [], n, _ => by simp [pyL, PyData.canLayAll0, PyData.depthAll]
  | d :: ds, n, h => by
    unfold shpL at h; simp at h
    have q1 := can_of h.1
    have q2 := canL_of h.2
    simp [pyL, PyData.canLayAll0, PyData.depthAll, q1.1, q2.1]
    have := q1.2; have := q2.2; omega
end
theorem shaped_of {d : D} {n : Nat} (hn : n ≤ 64) (h : d.shp n = true) : SeqAt.shaped d.py = true := by
  have q := can_of h
  unfold SeqAt.shaped
  simp [q.1]
  omega
theorem beq_dec {α : Type} [BEq α] [LawfulBEq α] [DecidableEq α] (a b : α) : (a == b) = decide (a = b) := by
  rw [Bool.eq_iff_iff, beq_iff_eq, decide_eq_true_eq]
/-- what == says of two data -/
def eqvD (x y : D) : Bool := PyData.eqv x.py y.py
def eqvL (xs ys : List D) : Bool := PyData.eqvAll (pyL xs) (pyL ys)
@[simp] theorem eqvD_int (i j : Int) : eqvD (.int i) (.int j) = decide (i = j) := by
  simp only [eqvD, D.py, PyData.eqv]
  exact beq_dec i j
@[simp] theorem eqvD_bl (i j : Bool) : eqvD (.bl i) (.bl j) = decide (i = j) := by
  simp only [eqvD, D.py, PyData.eqv]
  exact beq_dec i j
@[simp] theorem eqvD_str (i j : Str) : eqvD (.str i) (.str j) = decide (i = j) := by
  simp only [eqvD, D.py, PyData.eqv]
  exact beq_dec i j
@[simp] theorem eqvD_tup (xs ys : List D) : eqvD (.tup xs) (.tup ys) = eqvL xs ys := by simp only [eqvD, eqvL, D.py, PyData.eqv]
@[simp] theorem eqvD_lst (xs ys : List D) : eqvD (.lst xs) (.lst ys) = eqvL xs ys := by simp only [eqvD, eqvL, D.py, PyData.eqv]
@[simp] theorem eqvD_rdl (xs ys : List D) : eqvD (.rdl xs) (.lst ys) = eqvL xs ys := by simp only [eqvD, eqvL, D.py, PyData.eqv]
@[simp] theorem eqvL_nil : eqvL [] [] = true := by simp only [eqvL, pyL, PyData.eqvAll]
@[simp] theorem eqvL_cons (x y : D) (xs ys : List D) : eqvL (x :: xs) (y :: ys) = (eqvD x y && eqvL xs ys) := by simp only [eqvL, eqvD, pyL, PyData.eqvAll]
@[simp] theorem eqvL_nc (y : D) (ys : List D) : eqvL [] (y :: ys) = false := by simp only [eqvL, pyL, PyData.eqvAll]
@[simp] theorem eqvL_cn (y : D) (ys : List D) : eqvL (y :: ys) [] = false := by simp only [eqvL, pyL, PyData.eqvAll]
@[simp] theorem eqvD_nn : eqvD .non .non = true := by simp only [eqvD, D.py, PyData.eqv]
theorem shpL_map {α : Type} {f : α → D} {n : Nat} {xs : List α} (h : ∀ x ∈ xs, (f x).shp n = true) : shpL (xs.map f) n = true := by
  induction xs with
  | nil => simp [shpL]
  | cons x xs ih =>
    simp [shpL, h x (by simp)]
    exact ih fun y hy => h y (by simp [hy])
/-- one that may still change is looked at as it is now -/
inductive Fz (μ : Mu) : D → D → Prop
  | id (d : D) : Fz μ d d
  | own {k : Nat} {ds : List D} (h : μ[k]? = some (.lst ds)) : Fz μ (.own k) (.lst ds)
theorem Fz.dp {K : PySem.W.Frag} {G H : Hp} {al : List Addr} {μ : Mu} {v : V} {x d : D} {n : Nat} (h : Fz μ x d) (A : As K G H al μ) (hs : d.shp n = true) (r : Rp K G al v x) : Dp K H v d.py := by
  cases h with
  | id => exact dp_of A.sub hs r
  | own hk =>
    obtain ⟨a, ha, ga, ws, hv, rw'⟩ := A.get hk
    cases r with
    | own e =>
      rw [ha] at e; cases e
      unfold D.py; unfold D.shp at hs; simp at hs
      exact .lst (.inl (.inl hv)) (dpAll_of A.sub hs.2 rw')
section
variable {K : PySem.W.Frag} {μ : Mu} {P : D → Mu → Prop} {x y d e : D}
theorem ro_eqD {n m : Nat} (hx : Fz μ x d) (hy : Fz μ y e) (h1 : d.shp n = true) (h2 : e.shp m = true) (h : P (.bl (eqvD d e)) μ) (hn : n ≤ 64 := by decide) (hm : m ≤ 64 := by decide) : RO K (rEqD K) x y μ P := fun G H al v w A r1 r2 Q hQ =>
  ⟨d.py, e.py, hx.dp A h1 r1, hy.dp A h2 r2, shaped_of hn h1, shaped_of hm h2, hQ.now A (.bl _) h⟩
theorem ro_neD {n m : Nat} (hx : Fz μ x d) (hy : Fz μ y e) (h1 : d.shp n = true) (h2 : e.shp m = true) (h : P (.bl (!eqvD d e)) μ) (hn : n ≤ 64 := by decide) (hm : m ≤ 64 := by decide) : RO K (rNeD K) x y μ P := fun G H al v w A r1 r2 Q hQ =>
  ⟨d.py, e.py, hx.dp A h1 r1, hy.dp A h2 r2, shaped_of hn h1, shaped_of hm h2, hQ.now A (.bl _) h⟩
theorem ro_eqI {i j : Int} (h : P (.bl (decide (i = j))) μ) : RO K (rEqD K) (.int i) (.int j) μ P := ro_eqD (n := 0) (m := 0) (.id _) (.id _) rfl rfl (by rw [eqvD_int]; exact h)
theorem ro_neI {i j : Int} (h : P (.bl (!decide (i = j))) μ) : RO K (rNeD K) (.int i) (.int j) μ P := ro_neD (n := 0) (m := 0) (.id _) (.id _) rfl rfl (by rw [eqvD_int]; exact h)
theorem ro_eqB {i j : Bool} (h : P (.bl (decide (i = j))) μ) : RO K (rEqD K) (.bl i) (.bl j) μ P := ro_eqD (n := 0) (m := 0) (.id _) (.id _) rfl rfl (by rw [eqvD_bl]; exact h)
theorem ro_neB {i j : Bool} (h : P (.bl (!decide (i = j))) μ) : RO K (rNeD K) (.bl i) (.bl j) μ P := ro_neD (n := 0) (m := 0) (.id _) (.id _) rfl rfl (by rw [eqvD_bl]; exact h)
end
end Dl
set_option Elab.async false
set_option linter.all false
set_option maxRecDepth 100000
namespace Dl
open PySem L2
/-! ### what is walked -/
/-- J walks ds, as long as S holds of what may change -/
def ItOk (K : PySem.W.Frag) (J : It) (ds : List D) (S : Mu → Prop) (G H : Hp) (al : List Addr) : Prop := ∀ G2 H2 al2 μ2, Nx G H al G2 H2 al2 → As K G2 H2 al2 μ2 → S μ2 →
  (∀ i, i < ds.length → J.go i H2) ∧ (∀ i, ds.length ≤ i → J.stop i H2) ∧ ∀ i x H3, J.yld i H2 x H3 → ∀ d, ds[i]? = some d → ∃ G3, Nx G2 H2 al2 G3 H3 al2 ∧ As K G3 H3 al2 μ2 ∧ Rp K G3 al2 x d
def DI (K : PySem.W.Frag) (B : Bs) (wi : TI) (ρ : En) (μ : Mu) (P : List D → (Mu → Prop) → Mu → Prop) : Prop := ∀ σ G H al, B.le G H al → RpS K G al σ ρ → As K G H al μ → ∀ R : It → Hp → Prop,
  (∀ J ds S μ' G' H' al', Nx G H al G' H' al' → As K G' H' al' μ' → ItOk K J ds S G' H' al' → P ds S μ' → R J H') → wi σ H R
section
variable {K : PySem.W.Frag} {B : Bs} {ρ : En} {μ : Mu} {te : TE} {ts : TA} {PI' : List D → (Mu → Prop) → Mu → Prop}
theorem itl_ok {G H : Hp} {al : List Addr} {a : Addr} {ds : List D} {S : Mu → Prop} (h : ∀ G2 H2 al2 μ2, Nx G H al G2 H2 al2 → As K G2 H2 al2 μ2 → S μ2 → ∃ vs, SqL K H2 a vs ∧ Rps K G2 al2 vs ds) : ItOk K (Itl K a) ds S G H al := fun G2 H2 al2 μ2 n A s => by
  obtain ⟨vs, sq, r⟩ := h G2 H2 al2 μ2 n A s
  refine ⟨fun i hi => ⟨vs, vs[i]'(by rw [r.length]; exact hi), sq, by simp⟩, fun i hi => ⟨vs, sq, by rw [r.length]; exact hi⟩, fun i x H3 y d hd => ?_⟩
  obtain ⟨rfl, y⟩ := y
  obtain ⟨d', hd', r'⟩ := r.getV (y vs sq)
  rw [hd] at hd'; cases hd'
  exact ⟨G2, .refl, A, r'⟩
/-- lo, lo + 1, .. -/
def rangeD (lo : Int) (n : Nat) : List D := (List.range n).map fun (i : Nat) => D.int (lo + (i : Int))
theorem rangeD_length (lo : Int) (n : Nat) : (rangeD lo n).length = n := by simp [rangeD]
theorem rangeD_get {lo : Int} {n i : Nat} (h : i < n) : (rangeD lo n)[i]? = some (.int (lo + (i : Int))) := by simp [rangeD, h]
theorem rangeD_some {lo : Int} {n i : Nat} {d : D} (h : (rangeD lo n)[i]? = some d) : i < n ∧ d = .int (lo + (i : Int)) := by
  have hi : i < n := by
    have := (List.getElem?_eq_some_iff.mp h).1
    rw [rangeD_length] at this
    exact this
  rw [rangeD_get hi] at h
  exact ⟨hi, (Option.some.inj h).symm⟩
theorem itr_ok {lo : Int} {n : Nat} {G H : Hp} {al : List Addr} : ItOk K (Itr lo n) (rangeD lo n) (fun _ => True) G H al := fun G2 H2 al2 μ2 _ A _ => by
  refine ⟨fun i hi => by rw [rangeD_length] at hi; exact hi, fun i hi => by rw [rangeD_length] at hi; exact hi, fun i x H3 y d hd => ?_⟩
  obtain ⟨rfl, rfl⟩ := y
  obtain ⟨_, rfl⟩ := rangeD_some hd
  exact ⟨G2, .refl, A, .int _⟩
theorem di_range1 (h : DA K B ts ρ μ fun xs μ1 => ∃ n : Int, xs = [.int n] ∧ -(2 ^ 62) ≤ n ∧ n < 2 ^ 62 ∧ PI' (rangeD 0 n.toNat) (fun _ => True) μ1) : DI K B (iRng1 ts) ρ μ PI' := fun σ G H al hB hσ hA R hR =>
  h σ G H al hB hσ hA _ fun vs ds μ1 G1 H1 al1 n1 A1 r1 p1 => by
    obtain ⟨n, rfl, h1, h2, p⟩ := p1
    obtain ⟨v, rfl, r⟩ := rps1 r1
    cases r
    exact ⟨n, rfl, h1, h2, hR _ _ _ μ1 G1 H1 al1 n1 A1 itr_ok p⟩
theorem di_range2 (h : DA K B ts ρ μ fun xs μ1 => ∃ lo n : Int, xs = [.int lo, .int n] ∧ (-(2 ^ 62) ≤ lo ∧ lo < 2 ^ 62 ∧ -(2 ^ 62) ≤ n ∧ n < 2 ^ 62) ∧ PI' (rangeD lo (n - lo).toNat) (fun _ => True) μ1) : DI K B (iRng2 ts) ρ μ PI' := fun σ G H al hB hσ hA R hR =>
  h σ G H al hB hσ hA _ fun vs ds μ1 G1 H1 al1 n1 A1 r1 p1 => by
    obtain ⟨lo, n, rfl, h1, p⟩ := p1
    obtain ⟨v, w, rfl, r, r'⟩ := rps2 r1
    cases r; cases r'
    exact ⟨lo, n, rfl, h1, hR _ _ _ μ1 G1 H1 al1 n1 A1 itr_ok p⟩
/-- enumerate -/
def enumD (ds : List D) : List D := ds.mapIdx fun i d => .tup [.int (i : Int), d]
theorem enumD_length (ds : List D) : (enumD ds).length = ds.length := by simp [enumD]
theorem enumD_some {ds : List D} {i : Nat} {d : D} (h : (enumD ds)[i]? = some d) : ∃ x, ds[i]? = some x ∧ d = .tup [.int (i : Int), x] := by
  simp only [enumD, List.getElem?_mapIdx] at h
  cases q : ds[i]? with
  | none => rw [q] at h; cases h
  | some x => rw [q] at h; exact ⟨x, rfl, (Option.some.inj h).symm⟩
theorem di_enum (h : DA K B ts ρ μ fun xs μ1 => ∃ x ds, xs = [x] ∧ ((x = .lst ds ∧ PI' (enumD ds) (fun _ => True) μ1) ∨ (x = .rdl ds ∧ PI' (enumD ds) (fun _ => True) μ1) ∨ ∃ k, x = .own k ∧ μ1[k]? = some (.lst ds) ∧ PI' (enumD ds) (fun μ' => μ'[k]? = some (.lst ds)) μ1)) : DI K B (iEnum K ts) ρ μ PI' := fun σ G H al hB hσ hA R hR =>
  h σ G H al hB hσ hA _ fun vs ds μ1 G1 H1 al1 n1 A1 r1 p1 => by
    obtain ⟨x, xs, rfl, p1⟩ := p1
    obtain ⟨v, rfl, r⟩ := rps1 r1
    have key : ∃ a S, v = .ref a ∧ PI' (enumD xs) S μ1 ∧ S μ1 ∧ ∀ G2 H2 al2 μ2, Nx G1 H1 al1 G2 H2 al2 → As K G2 H2 al2 μ2 → S μ2 → ∃ vs, SqL K H2 a vs ∧ Rps K G2 al2 vs xs := by
      rcases p1 with ⟨rfl, p⟩ | ⟨rfl, p⟩ | ⟨k, rfl, hk, p⟩
      · cases r with | lst e rs => exact ⟨_, _, rfl, p, trivial, fun G2 H2 al2 μ2 n2 A2 _ => ⟨_, .inl (.inl (A2.sub _ _ (n2.g _ _ e))), rs.nx n2⟩⟩
      · cases r with | rdl e rs => exact ⟨_, _, rfl, p, trivial, fun G2 H2 al2 μ2 n2 A2 _ => ⟨_, sql_mono A2.sub (sql_mono n2.g e), rs.nx n2⟩⟩
      · obtain ⟨a, ha, ga, vs, hv, rs⟩ := A1.get hk
        cases r with
        | own e =>
          rw [ha] at e; cases e
          refine ⟨_, _, rfl, p, hk, fun G2 H2 al2 μ2 n2 A2 s => ?_⟩
          obtain ⟨a2, ha2, ga2, vs2, hv2, rs2⟩ := A2.get s
          rw [n2.p.get ha] at ha2; cases ha2
          exact ⟨vs2, .inl (.inl hv2), rs2⟩
    obtain ⟨a, S, rfl, p, s1, key⟩ := key
    obtain ⟨vs1, sq1, _⟩ := key G1 H1 al1 μ1 .refl A1 s1
    refine ⟨a, vs1, rfl, sq1, hR _ _ S μ1 G1 H1 al1 n1 A1 (fun G2 H2 al2 μ2 n2 A2 s => ?_) p⟩
    obtain ⟨vs, sq, r⟩ := key G2 H2 al2 μ2 n2 A2 s
    rw [enumD_length]
    refine ⟨fun i hi => ⟨vs, vs[i]'(by rw [r.length]; exact hi), sq, by simp⟩, fun i hi => ⟨vs, sq, by rw [r.length]; exact hi⟩, fun i x H3 y d hd => ?_⟩
    obtain ⟨T, z, rfl, hT, rfl, y⟩ := y
    obtain ⟨w, hw, rfl⟩ := enumD_some hd
    obtain ⟨d', hd', r'⟩ := r.getV (y vs sq)
    rw [hw] at hd'; cases hd'
    obtain ⟨A3, n3⟩ := A2.frz (o := .tup [.int (i : Nat), z]) hT
    exact ⟨_, n3, A3, .tup upd_same (.cons (.int _) (.cons (r'.nx n3) .nil))⟩
/-- the signs of a text -/
def signsD (x : Str) : List D := x.cps.toList.map fun c => .str ⟨#[c]⟩
/-! ### for -/
theorem ds_for {wi : TI} {g : TG} {tb : TS} {P : DEnds} (h : DI K B wi ρ μ fun ds S μ1 => ∃ Iv : Nat → En → Mu → Prop, Iv 0 ρ μ1 ∧ (∀ i ρ' μ', i ≤ ds.length → Iv i ρ' μ' → S μ') ∧
      (∀ i d ρ' μ', ds[i]? = some d → Iv i ρ' μ' → DG K B g d ρ' μ' fun ρ2 μ2 => DS K B tb ρ2 μ2 { P with nx := Iv (i + 1), ct := Iv (i + 1), bk := P.nx }) ∧ (∀ ρ' μ', Iv ds.length ρ' μ' → P.nx ρ' μ')) : DS K B (tFor wi g tb) ρ μ P := fun σ G H al hB hσ hA De hD =>
  h σ G H al hB hσ hA _ fun J ds S μ1 G1 H1 al1 n1 A1 ok p1 => by
    obtain ⟨Iv, h0, hS, hs, hd⟩ := p1
    refine ⟨fun i m σ' H' => m = ds.length - i ∧ i ≤ ds.length ∧ ∃ G' al' ρ' μ', Nx G1 H1 al1 G' H' al' ∧ RpS K G' al' σ' ρ' ∧ As K G' H' al' μ' ∧ Iv i ρ' μ', ⟨ds.length, by simp, Nat.zero_le _, G1, al1, ρ, μ1, .refl, hσ.nx n1, A1, h0⟩, ?_⟩
    rintro i m σ' H' ⟨rfl, hi, G', al', ρ', μ', n', hσ', A', iv⟩
    obtain ⟨go, stop, yld⟩ := ok G' H' al' μ' n' A' (hS i ρ' μ' hi iv)
    by_cases hlt : i < ds.length
    · refine .inr ⟨go i hlt, fun σ2 H2 => ∃ G2 al2 ρ2 μ2, Nx G1 H1 al1 G2 H2 al2 ∧ RpS K G2 al2 σ2 ρ2 ∧ As K G2 H2 al2 μ2 ∧ Iv (i + 1) ρ2 μ2, fun σ2 H2 q => ⟨ds.length - (i + 1), by omega, rfl, hlt, q⟩, fun x H3 y => ?_⟩
      obtain ⟨G3, n3, A3, r3⟩ := yld i x H3 y _ (List.getElem?_eq_getElem hlt)
      have q := hs i _ ρ' μ' (List.getElem?_eq_getElem hlt) iv σ' G3 H3 al' x (((hB.trans n1).trans n').trans n3) (hσ'.nx n3) A3 r3
      refine q _ fun σ4 ρ4 μ4 G4 H4 al4 n4 hσ4 A4 p4 => ?_
      have nn : Nx G1 H1 al1 G4 H4 al4 := (n'.trans n3).trans n4
      exact p4 σ4 G4 H4 al4 ((hB.trans n1).trans nn) hσ4 A4 _ ⟨fun σ5 ρ5 μ5 G5 H5 al5 n5 hσ5 A5 p5 => ⟨G5, al5, ρ5, μ5, nn.trans n5, hσ5, A5, p5⟩, hD.rt.nx (n1.trans nn), hD.nx.nx (n1.trans nn), fun σ5 ρ5 μ5 G5 H5 al5 n5 hσ5 A5 p5 => ⟨G5, al5, ρ5, μ5, nn.trans n5, hσ5, A5, p5⟩⟩
    · have e : i = ds.length := by omega
      subst e
      exact .inl ⟨stop _ (Nat.le_refl _), hD.nx _ _ μ' G' H' al' (n1.trans n') hσ' A' (hd ρ' μ' iv)⟩
/-! ### while -/
theorem ds_while {c : TT} {tb : TS} {P : DEnds} (Iv : Nat → En → Mu → Prop) {m0 : Nat} (h0 : Iv m0 ρ μ)
    (hs : ∀ m ρ' μ', Iv m ρ' μ' → DT K B c ρ' μ' fun b μ1 => (b = true → DS K B tb ρ' μ1 { P with nx := fun ρ2 μ2 => ∃ m', m' < m ∧ Iv m' ρ2 μ2, ct := fun ρ2 μ2 => ∃ m', m' < m ∧ Iv m' ρ2 μ2, bk := P.nx }) ∧ (b = false → P.nx ρ' μ1)) : DS K B (tWhile c tb) ρ μ P := fun σ G H al hB hσ hA De hD => by
  refine ⟨fun m σ' H' => ∃ G' al' ρ' μ', Nx G H al G' H' al' ∧ RpS K G' al' σ' ρ' ∧ As K G' H' al' μ' ∧ Iv m ρ' μ', ⟨m0, G, al, ρ, μ, .refl, hσ, hA, h0⟩, ?_⟩
  rintro m σ' H' ⟨G', al', ρ', μ', n', hσ', A', iv⟩
  refine hs m ρ' μ' iv σ' G' H' al' (hB.trans n') hσ' A' _ fun b μ1 G1 H1 al1 n1 A1 p1 => ?_
  have nn := n'.trans n1
  cases b with
  | true =>
    rw [if_pos rfl]
    refine ⟨fun σ2 H2 => ∃ m', m' < m ∧ ∃ G2 al2 ρ2 μ2, Nx G H al G2 H2 al2 ∧ RpS K G2 al2 σ2 ρ2 ∧ As K G2 H2 al2 μ2 ∧ Iv m' ρ2 μ2, fun σ2 H2 q => q, ?_⟩
    exact p1.1 rfl σ' G1 H1 al1 (hB.trans nn) (hσ'.nx n1) A1 _ ⟨fun σ5 ρ5 μ5 G5 H5 al5 n5 hσ5 A5 ⟨m', lt, p5⟩ => ⟨m', lt, G5, al5, ρ5, μ5, nn.trans n5, hσ5, A5, p5⟩, hD.rt.nx nn, hD.nx.nx nn, fun σ5 ρ5 μ5 G5 H5 al5 n5 hσ5 A5 ⟨m', lt, p5⟩ => ⟨m', lt, G5, al5, ρ5, μ5, nn.trans n5, hσ5, A5, p5⟩⟩
  | false =>
    rw [if_neg (by simp)]
    exact hD.nx _ _ μ1 G1 H1 al1 nn (hσ'.nx n1) A1 (p1.2 rfl)
end
/-! ### comprehensions -/
def wipeD (ρ : En) : List Nat → En
  | [] => ρ
  | v :: vs => (wipeD ρ vs).set v none
theorem wipe_rps {K : PySem.W.Frag} {G : Hp} {al : List Addr} {σ : St} {ρ : En} (h : RpS K G al σ ρ) : ∀ vs : List Nat, RpS K G al (wipe σ vs) (wipeD ρ vs)
  | [] => h
  | v :: vs => (wipe_rps h vs).forget v none
theorem wipe_set {σ : St} {j : Nat} {x : Option V} : ∀ {vs : List Nat}, j ∈ vs → wipe (σ.set j x) vs = wipe σ vs
  | [], h => by simp at h
  | v :: vs, h => by
    by_cases hv : j ∈ vs
    · unfold wipe; rw [wipe_set hv]
    · have e : j = v := by simpa [hv] using h
      subst e
      have q : ∀ (ws : List Nat), j ∉ ws → wipe (σ.set j x) ws = (wipe σ ws).set j x := by
        intro ws
        induction ws with
        | nil => intro _; rfl
        | cons w ws ih =>
          intro hn
          simp only [List.mem_cons, not_or] at hn
          unfold wipe
          rw [ih hn.2, List.set_comm _ _ (fun z => hn.1 z)]
      unfold wipe
      rw [q vs hv, List.set_set]
theorem wipe_wipe (σ : St) : ∀ vs ws : List Nat, (∀ w ∈ ws, w ∈ vs) → wipe (wipe σ ws) vs = wipe σ vs
  | vs, [], _ => rfl
  | vs, w :: ws, h => by
    show wipe ((wipe σ ws).set w none) vs = wipe σ vs
    rw [wipe_set (h w (by simp)), wipe_wipe σ vs ws fun x hx => h x (by simp [hx])]
/-- a target that stores in vs alone -/
def GW (g : TG) (vs : List Nat) : Prop := ∀ x σ H (Q : St → Hp → Prop), g x σ H Q → g x σ H fun σ2 H2 => wipe σ2 vs = wipe σ vs ∧ Q σ2 H2
theorem gw_name {i : Nat} {vs : List Nat} (h : i ∈ vs) : GW (gName i) vs := fun x σ H Q q => ⟨wipe_set h, q⟩
section
variable {K : PySem.W.Frag} {B : Bs} {ρ : En} {μ : Mu} {te : TE} {tt : TT} {wi : TI} {g : TG} {vs : List Nat} {P : D → Mu → Prop}
/-- the list that a comprehension makes is frozen at its end -/
theorem de_lc (hg : GW g vs) (h : DI K B wi ρ μ fun ds S μ1 => ds.length ≤ 100000 ∧ ∃ Iv : Nat → List D → Mu → Prop, Iv 0 [] μ1 ∧ (∀ i acc μ', i ≤ ds.length → Iv i acc μ' → S μ') ∧
      (∀ i d acc μ', ds[i]? = some d → Iv i acc μ' → DG K B g d (wipeD ρ vs) μ' fun ρ2 μ2 => DT K B tt ρ2 μ2 fun b μ3 => (b = true → DE K B te ρ2 μ3 fun y μ4 => Iv (i + 1) (acc ++ [y]) μ4) ∧ (b = false → Iv (i + 1) acc μ3)) ∧
      (∀ acc μ', Iv ds.length acc μ' → P (.lst acc) μ')) : DE K B (tLc wi g tt te vs) ρ μ P := fun σ G H al hB hσ hA Q hQ =>
  h σ G H al hB hσ hA _ fun J ds S μ1 G1 H1 al1 n1 A1 ok p1 => by
    obtain ⟨hlen, Iv, h0, hS, hs, hd⟩ := p1
    intro Dl hDl
    have nDl : Dl ∉ al1 := fun m => A1.here Dl m hDl
    have gDl : G1 Dl = none := A1.sub.free hDl
    -- a store to the list that is made
    have store : ∀ {G' H' al' μ' ac}, Nx G1 H1 al1 G' H' al' → As K G' H' al' μ' → G' Dl = none → Dl ∉ al' → As K G' (upd H' Dl (.lst ac)) al' μ' ∧ Nx G1 H1 al1 G' (upd H' Dl (.lst ac)) al' := by
      intro G' H' al' μ' ac n A g' nal
      refine ⟨⟨fun b u e => by rw [upd_ne (ne_of_none e g')]; exact A.sub _ _ e, A.nd, A.len, fun a m => ?_, fun k a o e1 e2 => ?_⟩, ⟨n.g, n.p, fun a u h m => ?_, n.out, n.new⟩⟩
      · have z : a ≠ Dl := fun z => nal (z ▸ m)
        rw [upd_ne z]; exact A.here a m
      · have z : a ≠ Dl := fun z => nal (z ▸ List.mem_of_getElem? e1)
        exact OkO.mono (Same.refl _) (Pre.refl _) (fun _ g => g) (by rw [upd_ne z]) (A.ok k a o e1 e2)
      · rw [upd_ne (ne_of_none h hDl)]; exact n.keep a u h m
    -- Dl stays where it is through a step
    have stay : ∀ {G' H' al' G'' H'' al'' u}, Nx G' H' al' G'' H'' al'' → H' Dl = some (.lst u) → G' Dl = none → Dl ∉ al' → H'' Dl = some (.lst u) ∧ G'' Dl = none ∧ Dl ∉ al'' := by
      intro G' H' al' G'' H'' al'' u n h g' nal
      refine ⟨n.keep Dl (.lst u) h nal, n.out Dl (by rw [h]; simp) (fun vs e => by rw [h] at e; cases e) nal g', fun m => ?_⟩
      rcases n.new Dl m with z | z
      · exact nal z
      · rw [h] at z; cases z
    obtain ⟨A0, N0⟩ := store (ac := []) .refl A1 gDl nDl
    refine ⟨fun i m H' => m = ds.length - i ∧ i ≤ ds.length ∧ ∃ G' al' μ' acc vacc, Nx G1 H1 al1 G' H' al' ∧ As K G' H' al' μ' ∧ H' Dl = some (.lst vacc) ∧ Rps K G' al' vacc acc ∧ G' Dl = none ∧ Dl ∉ al' ∧ acc.length ≤ i ∧ Iv i acc μ',
      ⟨ds.length, by simp, Nat.zero_le _, G1, al1, μ1, [], [], N0, A0, upd_same, .nil, gDl, nDl, Nat.le_refl _, h0⟩, ?_⟩
    rintro i m H' ⟨rfl, hi, G', al', μ', acc, vacc, n', A', hv, rv, g', nal, hacc, iv⟩
    obtain ⟨go, stop, yld⟩ := ok G' H' al' μ' n' A' (hS i acc μ' hi iv)
    by_cases hlt : i < ds.length
    · refine .inr ⟨go i hlt, fun H2 => ∃ G2 al2 μ2 acc vacc, Nx G1 H1 al1 G2 H2 al2 ∧ As K G2 H2 al2 μ2 ∧ H2 Dl = some (.lst vacc) ∧ Rps K G2 al2 vacc acc ∧ G2 Dl = none ∧ Dl ∉ al2 ∧ acc.length ≤ i + 1 ∧ Iv (i + 1) acc μ2, fun H2 q => ⟨ds.length - (i + 1), by omega, rfl, hlt, q⟩, fun x H3 y => ?_⟩
      obtain ⟨G3, n3, A3, r3⟩ := yld i x H3 y _ (List.getElem?_eq_getElem hlt)
      obtain ⟨hv3, g3, nal3⟩ := stay n3 hv g' nal
      have nn3 := n'.trans n3
      have hw : RpS K G3 al' (wipe σ vs) (wipeD ρ vs) := wipe_rps ((hσ.nx n1).nx nn3) vs
      have q := hs i _ acc μ' (List.getElem?_eq_getElem hlt) iv (wipe σ vs) G3 H3 al' x (((hB.trans n1).trans n').trans n3) hw A3 r3
      have q2 := hg x (wipe σ vs) H3 _ (q (fun σ2 H2 => tt σ2 H2 fun b H3 => if b = true then te σ2 H3 fun y H4 => ∃ acc, H4 Dl = some (.lst acc) ∧ acc.length < sizeLine ∧ (∃ G2 al2 μ2 acc' vacc, Nx G1 H1 al1 G2 (upd H4 Dl (.lst (acc ++ [y]))) al2 ∧ As K G2 (upd H4 Dl (.lst (acc ++ [y]))) al2 μ2 ∧ (upd H4 Dl (.lst (acc ++ [y]))) Dl = some (.lst vacc) ∧ Rps K G2 al2 vacc acc' ∧ G2 Dl = none ∧ Dl ∉ al2 ∧ acc'.length ≤ i + 1 ∧ Iv (i + 1) acc' μ2)
          else (∃ G2 al2 μ2 acc' vacc, Nx G1 H1 al1 G2 H3 al2 ∧ As K G2 H3 al2 μ2 ∧ H3 Dl = some (.lst vacc) ∧ Rps K G2 al2 vacc acc' ∧ G2 Dl = none ∧ Dl ∉ al2 ∧ acc'.length ≤ i + 1 ∧ Iv (i + 1) acc' μ2)) fun σ4 ρ4 μ4 G4 H4 al4 n4 hσ4 A4 p4 => ?_)
      · rw [wipe_wipe σ vs vs fun _ h => h] at q2
        exact q2
      · obtain ⟨hv4, g4, nal4⟩ := stay n4 hv3 g3 nal3
        have nn4 := nn3.trans n4
        refine p4 σ4 G4 H4 al4 ((hB.trans n1).trans nn4) hσ4 A4 _ fun b μ5 G5 H5 al5 n5 A5 p5 => ?_
        obtain ⟨hv5, g5, nal5⟩ := stay n5 hv4 g4 nal4
        have nn5 := nn4.trans n5
        cases b with
        | false =>
          rw [if_neg (by simp)]
          exact ⟨G5, al5, μ5, acc, vacc, nn5, A5, hv5, (((rv.nx n3).nx n4).nx n5), g5, nal5, Nat.le_succ_of_le hacc, p5.2 rfl⟩
        | true =>
          rw [if_pos rfl]
          refine p5.1 rfl σ4 G5 H5 al5 ((hB.trans n1).trans nn5) (hσ4.nx n5) A5 _ fun yv y μ6 G6 H6 al6 n6 A6 r6 p6 => ?_
          obtain ⟨hv6, g6, nal6⟩ := stay n6 hv5 g5 nal5
          have rv6 := (((rv.nx n3).nx n4).nx n5).nx n6
          obtain ⟨A7, n7⟩ := store (ac := vacc ++ [yv]) (nn5.trans n6) A6 g6 nal6
          refine ⟨vacc, hv6, ?_, G6, al6, μ6, acc ++ [y], vacc ++ [yv], n7, A7, upd_same, rv6.append (.cons r6 .nil), g6, nal6, by simp; omega, p6⟩
          rw [rv6.length]
          exact Nat.lt_of_lt_of_le (Nat.lt_of_le_of_lt hacc (Nat.lt_of_lt_of_le hlt hlen)) (by decide)
    · have e : i = ds.length := by omega
      subst e
      refine .inl ⟨stop _ (Nat.le_refl _), ?_⟩
      have s1 : Same G' (upd G' Dl (.lst vacc)) := fun b u e => by rw [upd_ne (ne_of_none e g')]; exact e
      have A7 : As K (upd G' Dl (.lst vacc)) H' al' μ' := by
        refine ⟨fun b u e => ?_, A'.nd, A'.len, A'.here, fun k a o e1 e2 => ?_⟩
        · by_cases hb : b = Dl
          · subst hb; rw [upd_same] at e; rw [← e]; exact hv
          · rw [upd_ne hb] at e; exact A'.sub _ _ e
        · have z : a ≠ Dl := fun z => nal (z ▸ List.mem_of_getElem? e1)
          exact OkO.mono s1 (Pre.refl _) (fun _ g => by rw [upd_ne z]; exact g) rfl (A'.ok k a o e1 e2)
      have n7 : Nx G1 H1 al1 (upd G' Dl (.lst vacc)) H' al' := ⟨n'.g.trans s1, n'.p, n'.keep, fun a h t m g => by
        have z : a ≠ Dl := fun z => h (by rw [z]; exact hDl)
        rw [upd_ne z]; exact n'.out a h t m g, n'.new⟩
      exact hQ _ _ _ _ _ _ (n1.trans n7) A7 (.lst upd_same (rv.mono s1 (Pre.refl _))) (hd acc μ' iv)
theorem dt_yes {PT' : Bool → Mu → Prop} (h : PT' true μ) : DT K B tYes ρ μ PT' := fun σ G H al hB hσ hA Q hQ => hQ true μ G H al .refl hA h
end
end Dl
set_option Elab.async false
set_option linter.all false
set_option maxRecDepth 100000
namespace Dl
open PySem L2 PyProof.Rows
/-! ### what names no thing from the n-th on -/
mutual
def D.cl : D → Nat → Bool
  | .tup xs, n => clL xs n
  | .lst xs, n => clL xs n
  | .rdl xs, n => clL xs n
  | .rdt xs, n => clL xs n
  | .obj _ gs, n => clF gs n
  | .exc _ gs, n => clF gs n
  | .dct gs, n => clK gs n
  | .own k, n => decide (k < n)
  | .non, _ => true
  | .bl _, _ => true
  | .int _, _ => true
  | .str _, _ => true
  | .ty _, _ => true
  | .loc _, _ => true
def clL : List D → Nat → Bool
  | [], _ => true
  | x :: xs, n => D.cl x n && clL xs n
def clF : List (Str × D) → Nat → Bool
  | [], _ => true
  | (_, x) :: xs, n => D.cl x n && clF xs n
def clK : List (Key × D) → Nat → Bool
  | [], _ => true
  | (_, x) :: xs, n => D.cl x n && clK xs n
end
def MO.cl : MO → Nat → Bool
  | .dead, _ => true
  | .lst xs, n => clL xs n
  | .ins _ gs, n => clF gs n
  | .dK gs, n => clK gs n
  | .dT gs, n => clL (gs.map (·.2)) n
  | .tab _ _, _ => true
theorem clL_iff {xs : List D} {n : Nat} : clL xs n = true ↔ ∀ x ∈ xs, x.cl n = true := by
  induction xs with
  | nil => simp [clL]
  | cons x xs ih => simp [clL, ih]
theorem clL_map {α : Type} {f : α → D} {xs : List α} {n : Nat} (h : ∀ x ∈ xs, (f x).cl n = true) : clL (xs.map f) n = true := by
  rw [clL_iff]
  intro x hx
  obtain ⟨a, ha, rfl⟩ := List.mem_map.mp hx
  exact h a ha
@[simp] theorem clL_append {xs ys : List D} {n : Nat} : clL (xs ++ ys) n = (clL xs n && clL ys n) := by
  induction xs with
  | nil => simp [clL]
  | cons x xs ih => simp [clL, ih, Bool.and_assoc]
section
variable {K : PySem.W.Frag} {G : Hp} {al be : List Addr}
mutual
theorem Rp.cl : ∀ {v : V} {d : D}, Rp K G al v d → d.cl al.length = true
  | _, _, .non => by simp [D.cl]
  | _, _, .bl _ => by simp [D.cl]
  | _, _, .int _ => by simp [D.cl]
  | _, _, .str _ => by simp [D.cl]
  | _, _, .ty _ => by simp [D.cl]
  | _, _, .tup _ r => by unfold D.cl; exact Rps.cl r
  | _, _, .lst _ r => by unfold D.cl; exact Rps.cl r
  | _, _, .rdl _ r => by unfold D.cl; exact Rps.cl r
  | _, _, .rdt _ r => by unfold D.cl; exact Rps.cl r
  | _, _, .obj _ r => by unfold D.cl; exact Rpf.cl r
  | _, _, .dct _ r => by unfold D.cl; exact Rpk.cl r
  | _, _, .own h => by unfold D.cl; exact decide_eq_true (List.getElem?_eq_some_iff.mp h).1
  | _, _, .loc _ => by simp [D.cl]
  | _, _, .exc _ _ r => by unfold D.cl; exact Rpf.cl r
theorem Rps.cl : ∀ {v : List V} {d : List D}, Rps K G al v d → clL d al.length = true
  | _, _, .nil => by simp [clL]
  | _, _, .cons h r => by unfold clL; rw [Rp.cl h, Rps.cl r]; rfl
theorem Rpf.cl : ∀ {v : List (Str × V)} {d : List (Str × D)}, Rpf K G al v d → clF d al.length = true
  | _, _, .nil => by simp [clF]
  | _, _, .cons h r => by unfold clF; rw [Rp.cl h, Rpf.cl r]; rfl
theorem Rpk.cl : ∀ {v : List (Key × V)} {d : List (Key × D)}, Rpk K G al v d → clK d al.length = true
  | _, _, .nil => by simp [clK]
  | _, _, .cons h r => by unfold clK; rw [Rp.cl h, Rpk.cl r]; rfl
end
mutual
theorem Rp.shrink : ∀ {v : V} {d : D}, Rp K G (al ++ be) v d → d.cl al.length = true → Rp K G al v d
  | _, _, .non, _ => .non
  | _, _, .bl b, _ => .bl b
  | _, _, .int i, _ => .int i
  | _, _, .str x, _ => .str x
  | _, _, .ty x, _ => .ty x
  | _, _, .tup e r, h => .tup e (Rps.shrink r (by unfold D.cl at h; exact h))
  | _, _, .lst e r, h => .lst e (Rps.shrink r (by unfold D.cl at h; exact h))
  | _, _, .rdl e r, h => .rdl e (Rps.shrink r (by unfold D.cl at h; exact h))
  | _, _, .rdt e r, h => .rdt e (Rps.shrink r (by unfold D.cl at h; exact h))
  | _, _, .obj e r, h => .obj e (Rpf.shrink r (by unfold D.cl at h; exact h))
  | _, _, .dct e r, h => .dct e (Rpk.shrink r (by unfold D.cl at h; exact h))
  | _, _, .own e, h => .own (by
      unfold D.cl at h
      rw [List.getElem?_append_left (of_decide_eq_true h)] at e
      exact e)
  | _, _, .loc a, _ => .loc a
  | _, _, .exc e d r, h => .exc e d (Rpf.shrink r (by unfold D.cl at h; exact h))
theorem Rps.shrink : ∀ {v : List V} {d : List D}, Rps K G (al ++ be) v d → clL d al.length = true → Rps K G al v d
  | _, _, .nil, _ => .nil
  | _, _, .cons r t, h => by
    unfold clL at h; simp at h
    exact .cons (Rp.shrink r h.1) (Rps.shrink t h.2)
theorem Rpf.shrink : ∀ {v : List (Str × V)} {d : List (Str × D)}, Rpf K G (al ++ be) v d → clF d al.length = true → Rpf K G al v d
  | _, _, .nil, _ => .nil
  | _, _, .cons r t, h => by
    unfold clF at h; simp at h
    exact .cons (Rp.shrink r h.1) (Rpf.shrink t h.2)
theorem Rpk.shrink : ∀ {v : List (Key × V)} {d : List (Key × D)}, Rpk K G (al ++ be) v d → clK d al.length = true → Rpk K G al v d
  | _, _, .nil, _ => .nil
  | _, _, .cons r t, h => by
    unfold clK at h; simp at h
    exact .cons (Rp.shrink r h.1) (Rpk.shrink t h.2)
end
end
def MuCl (μ : Mu) (n : Nat) : Prop := ∀ o ∈ μ, o.cl n = true
section
variable {K : PySem.W.Frag} {G H : Hp} {al be : List Addr} {μ ext : Mu}
theorem As.cl (A : As K G H al μ) : MuCl μ μ.length := fun o ho => by
  obtain ⟨k, hk⟩ := List.getElem?_of_mem ho
  obtain ⟨a, ha, ok⟩ := A.get hk
  rw [← A.len]
  cases o with
  | dead => rfl
  | lst ds => obtain ⟨_, _, _, r⟩ := ok; exact r.cl
  | ins C gs => obtain ⟨_, _, _, _, r⟩ := ok; exact r.cl
  | dK gs => obtain ⟨_, _, _, r⟩ := ok; exact r.cl
  | dT gs => obtain ⟨_, _, _, _, r⟩ := ok; exact r.cl
  | tab _ _ => rfl
theorem As.shrink (A : As K G H (al ++ be) (μ ++ ext)) (hl : al.length = μ.length) (hc : MuCl μ μ.length) : As K G H al μ := by
  refine ⟨A.sub, (List.nodup_append.mp A.nd).1, hl, fun a m => A.here a (List.mem_append_left _ m), fun k a o e1 e2 => ?_⟩
  have hk : k < al.length := (List.getElem?_eq_some_iff.mp e1).1
  have ok := A.ok k a o (by rw [List.getElem?_append_left hk]; exact e1) (by rw [List.getElem?_append_left (by rw [← hl]; exact hk)]; exact e2)
  have c := hc o (List.mem_of_getElem? e2)
  rw [← hl] at c
  cases o with
  | dead => trivial
  | lst ds => obtain ⟨g, vs, e, r⟩ := ok; exact ⟨g, vs, e, r.shrink c⟩
  | ins C gs => obtain ⟨g, dx, vs, e, r⟩ := ok; exact ⟨g, dx, vs, e, r.shrink c⟩
  | dK gs => obtain ⟨g, vs, e, r⟩ := ok; exact ⟨g, vs, e, r.shrink c⟩
  | dT gs => obtain ⟨g, vs, e, q, r⟩ := ok; exact ⟨g, vs, e, q, r.shrink c⟩
  | tab _ _ => exact ok
theorem Nx.shrink {G' H' : Hp} {al' : List Addr} (n : Nx G H al G' H' (al ++ al')) : Nx G H al G' H' al := ⟨n.g, Pre.refl _, n.keep, n.out, fun a m => .inl m⟩
end
/-! ### exceptions -/
abbrev PXT := Addr → List (Str × D) → Mu → Prop
/-- the own dict of an exception, frozen -/
def XRep (K : PySem.W.Frag) (G : Hp) (al : List Addr) (dd : Option Addr) (fs : List (Str × D)) : Prop := (dd = none ∧ fs = []) ∨ ∃ d vs, dd = some d ∧ G d = some (.xd vs) ∧ Rpf K G al vs fs
def XAg (K : PySem.W.Frag) (B : Bs) (PX : PXT) (E : XK) : Prop := ∀ C fs dd μ' G' H' al', B.le G' H' al' → As K G' H' al' μ' → XRep K G' al' dd fs → PX C fs μ' → E (.ref C) dd H'
theorem XAg.nx {K : PySem.W.Frag} {B : Bs} {PX : PXT} {E : XK} {G H : Hp} {al : List Addr} (n : B.le G H al) (h : XAg K B PX E) : XAg K ⟨G, H, al⟩ PX E := fun C fs dd μ' G' H' al' n' A r p => h C fs dd μ' G' H' al' (n.trans n') A r p
theorem XAg.none {K : PySem.W.Frag} {B : Bs} {E : XK} : XAg K B (fun _ _ _ => False) E := fun _ _ _ _ _ _ _ _ _ _ p => p.elim
theorem Rpf.nx {K : PySem.W.Frag} {G H G1 H1 : Hp} {al al1 : List Addr} (n : Nx G H al G1 H1 al1) {v : List (Str × V)} {d : List (Str × D)} (h : Rpf K G al v d) : Rpf K G1 al1 v d := h.mono n.g n.p
/-! ### contracts -/
abbrev CT := List D → Mu → (D → Mu → Prop) → PXT → Prop
def spD (K : PySem.W.Frag) (C : CT) : Sp := fun vs H Q E => ∃ G al ds μ P PX, As K G H al μ ∧ Rps K G al vs ds ∧ C ds μ P PX ∧ KV K G H al P Q ∧ XAg K ⟨G, H, al⟩ PX E
/-- behind a call: the callee's own things are forgotten, but those that are handed on -/
def Ret (n : Nat) (P : D → Mu → Prop) (d : D) (μ' : Mu) : Prop := ∃ μ1 ext, μ' = μ1 ++ ext ∧ n ≤ μ1.length ∧ MuCl μ1 μ1.length ∧ d.cl μ1.length = true ∧ P d μ1
def RetX (n : Nat) (PX : PXT) : PXT := fun C fs μ' => ∃ μ1 ext, μ' = μ1 ++ ext ∧ μ1.length = n ∧ MuCl μ1 n ∧ clF fs n = true ∧ PX C fs μ1
theorem XAg.ret {K : PySem.W.Frag} {G1 H1 G2 H2 : Hp} {al1 al2 : List Addr} {PX : PXT} {E : XK} (h : XAg K ⟨G1, H1, al1⟩ PX E) (n2 : Nx G1 H1 al1 G2 H2 al2) : XAg K ⟨G2, H2, al2⟩ (RetX al1.length PX) E := by
  intro C fs dd μ' G' H' al' n A' xr ⟨μ1, ext, e, hl, hcl, hf, hp⟩
  have n' : Nx G1 H1 al1 G' H' al' := n2.trans n
  obtain ⟨be, rfl⟩ := n'.p
  subst e
  refine h C fs dd μ1 G' H' al1 n'.shrink (A'.shrink hl.symm (by rw [hl]; exact hcl)) ?_ hp
  rcases xr with ⟨h1, h2⟩ | ⟨d, vs, h1, h2, h3⟩
  · exact .inl ⟨h1, h2⟩
  · exact .inr ⟨d, vs, h1, h2, h3.shrink hf⟩
def fnE (n : Nat) (P : D → Mu → Prop) : DEnds := { nx := fun _ μ' => Ret n P .non μ', rt := Ret n P }
theorem ret_same {μ ext : Mu} {n : Nat} {P : D → Mu → Prop} {d : D} (hn : n ≤ μ.length) (hc : MuCl μ μ.length) (hd : d.cl μ.length = true) (h : P d μ) : Ret n P d (μ ++ ext) := ⟨μ, ext, rfl, hn, hc, hd, h⟩
theorem ret_same0 {μ : Mu} {n : Nat} {P : D → Mu → Prop} {d : D} (hn : n ≤ μ.length) (hc : MuCl μ μ.length) (hd : d.cl μ.length = true) (h : P d μ) : Ret n P d μ := ⟨μ, [], by simp, hn, hc, hd, h⟩
theorem retx_same0 {μ : Mu} {PX : PXT} {C : Addr} {fs : List (Str × D)} (hc : MuCl μ μ.length) (hd : clF fs μ.length = true) (h : PX C fs μ) : RetX μ.length PX C fs μ := ⟨μ, [], by simp, rfl, hc, hd, h⟩
theorem MuCl.set {μ : Mu} {n k : Nat} {o : MO} (h : MuCl μ n) (ho : o.cl n = true) : MuCl (μ.set k o) n := fun x hx => by
  rcases List.mem_or_eq_of_mem_set hx with m | e
  · exact h x m
  · subst e; exact ho
theorem MuCl.get {μ : Mu} {n k : Nat} {o : MO} (h : MuCl μ n) (e : μ[k]? = some o) : o.cl n = true := h o (List.mem_of_getElem? e)
def startD (N : List Str) (ds : List D) : En := ds.map some ++ List.replicate (N.length - ds.length) none
theorem start_rp {K : PySem.W.Frag} {G : Hp} {al : List Addr} {N : List Str} {vs : List V} {ds : List D} (h : Rps K G al vs ds) : RpS K G al (L2.start N vs) (startD N ds) := by
  have hl := h.length
  refine ⟨by simp [L2.start, startD, hl], fun i d e => ?_⟩
  unfold startD at e
  unfold L2.start
  by_cases hi : i < ds.length
  · rw [List.getElem?_append_left (by simpa using hi), List.getElem?_map] at e
    cases q : ds[i]? with
    | none => rw [q] at e; cases e
    | some x =>
      rw [q] at e
      have ex : x = d := by simpa using e
      subst ex
      obtain ⟨v, hv, r⟩ := h.get q
      refine ⟨v, ?_, r⟩
      rw [List.getElem?_append_left (by simp [hl, hi]), List.getElem?_map, hv]
      rfl
  · rw [List.getElem?_append_right (by simp; omega), List.getElem?_replicate] at e
    split at e <;> simp at e
section
variable {P : Program} {w : World} {K : PySem.W.Frag} {mg : Str → Option Value} {base : Heap}
theorem sem_of {C : CT} {N : List Str} {t : XK → TS} (hn : ∀ ds μ P PX, C ds μ P PX → ds.length ≤ N.length) (sem : ∀ ds μ P PX, C ds μ P PX → MuCl μ μ.length → clL ds μ.length = true → ∀ B E, XAg K B (RetX μ.length PX) E → DS K B (t E) (startD N ds) μ (fnE μ.length P))
    {vs : List V} {H : Hp} {Q : VK} {E : XK} (h : spD K C vs H Q E) : t E { nx := fun _ H' => Q .non H', rt := Q } (L2.start N vs) H := by
  obtain ⟨G, al, ds, μ, P, PX, A, r, c, hQ, hX⟩ := h
  have hc := A.cl
  have sh : ∀ {v : V} {d : D} {μ' : Mu} {G' H' : Hp} {al' : List Addr}, Nx G H al G' H' al' → As K G' H' al' μ' → Rp K G' al' v d → Ret μ.length P d μ' → Q v H' := by
    intro v d μ' G' H' al' n A' rv ⟨μ1, ext, e, hl, hcl, hd, hp⟩
    subst e
    have hlen : μ1.length ≤ al'.length := by rw [A'.len]; simp
    have e1 : al' = al'.take μ1.length ++ al'.drop μ1.length := (List.take_append_drop _ _).symm
    have l1 : (al'.take μ1.length).length = μ1.length := by rw [List.length_take]; omega
    have pre : Pre al (al'.take μ1.length) := by
      obtain ⟨be, e2⟩ := n.p
      refine ⟨(be.take (μ1.length - al.length)), ?_⟩
      rw [e2, List.take_append]
      rw [List.take_of_length_le (by rw [A.len]; exact hl)]
    have n1 : Nx G H al G' H' (al'.take μ1.length) := ⟨n.g, pre, n.keep, n.out, fun a m => n.new a (List.mem_of_mem_take m)⟩
    rw [e1] at A' rv
    exact hQ v d μ1 G' H' _ n1 (A'.shrink l1 hcl) (rv.shrink (by rw [l1]; exact hd)) hp
  refine sem ds μ P PX c hc (by rw [← A.len]; exact r.cl) ⟨G, H, al⟩ E ?_ _ G H al .refl (start_rp r) A _ ⟨fun σ' ρ' μ' G' H' al' n hσ A' p => sh n A' .non p, fun v d μ' G' H' al' n A' rv p => sh n A' rv p, fun _ _ _ _ _ _ _ _ _ p => p.elim, fun _ _ _ _ _ _ _ _ _ p => p.elim⟩
  rw [← A.len]
  exact hX.ret .refl
end
/-! ### calls -/
section
variable {K : PySem.W.Frag} {B : Bs} {ρ : En} {μ : Mu} {te : TE} {ts : TA} {P : D → Mu → Prop} {PX : PXT} {E : XK} {C : CT} {dvs : List V} {dds : List D}
theorem de_call (hE : XAg K B PX E) (h : DA K B ts ρ μ fun ds μ1 => C ds μ1 P PX) : DE K B (tCall (spD K C) [] E ts) ρ μ P := fun σ G H al hB hσ hA Q hQ =>
  h σ G H al hB hσ hA _ fun vs ds μ1 G1 H1 al1 n1 A1 r1 p1 => by
    rw [List.append_nil]
    exact ⟨G1, al1, ds, μ1, P, PX, A1, r1, p1, hQ.nx n1, hE.nx (hB.trans n1)⟩
theorem de_meth {Cc : Addr} {m : Str} (hE : XAg K B PX E) (h : DE K B te ρ μ fun x μ1 => ∃ gs, (x = .obj Cc gs ∨ ∃ k, x = .own k ∧ μ1[k]? = some (.ins Cc gs)) ∧ gs.lookup m = none ∧ DA K B ts ρ μ1 fun ds μ2 => C (x :: ds) μ2 P PX) : DE K B (tMeth Cc m (spD K C) [] E te ts) ρ μ P := fun σ G H al hB hσ hA Q hQ =>
  h σ G H al hB hσ hA _ fun v x μ1 G1 H1 al1 n1 A1 r1 p1 => by
    obtain ⟨gs, hx, hl, p⟩ := p1
    have key : ∃ a dx fs, v = .ref a ∧ H1 a = some (.ins Cc dx fs) ∧ fs.lookup m = none := by
      rcases hx with rfl | ⟨k, rfl, hk⟩
      · cases r1 with | obj e rf => exact ⟨_, _, _, rfl, A1.sub _ _ e, rf.none hl⟩
      · obtain ⟨a, ha, ga, dx, fs, hv, rf⟩ := A1.get hk
        cases r1 with | own e => rw [ha] at e; cases e; exact ⟨_, _, _, rfl, hv, rf.none hl⟩
    obtain ⟨a, dx, fs, e, hv, hm⟩ := key
    refine ⟨a, dx, fs, e, hv, hm, p σ G1 H1 al1 (hB.trans n1) (hσ.nx n1) A1 _ fun vs ds μ2 G2 H2 al2 n2 A2 r2 p2 => ?_⟩
    rw [List.append_nil]
    exact ⟨G2, al2, x :: ds, μ2, P, PX, A2, .cons (r1.nx n2) r2, p2, hQ.nx (n1.trans n2), hE.nx (hB.trans (n1.trans n2))⟩
/-- C(..): the new instance is frozen behind its __init__ -/
theorem de_make {Cc : Addr} (hE : XAg K B PX E) (hd : ∀ G al, Rps K G al dvs dds) (h : DA K B ts ρ μ fun ds μ1 => C (.own μ1.length :: (ds ++ dds)) (μ1 ++ [.ins Cc []]) (fun d μ2 => d = .non ∧ ∃ gs, μ2 = μ1 ++ [.ins Cc gs] ∧ clF gs μ1.length = true ∧ P (.obj Cc gs) μ1) (RetX μ1.length PX)) : DE K B (tMake Cc (spD K C) dvs E ts) ρ μ P := fun σ G H al hB hσ hA Q hQ =>
  h σ G H al hB hσ hA _ fun vs ds μ1 G1 H1 al1 n1 A1 r1 p1 => by
    intro x dx hx hdx hne
    -- the own dict first
    have nx1 : x ≠ dx := hne.symm
    have A2 : As K G1 (upd H1 dx (.own x)) al1 μ1 ∧ Nx G1 H1 al1 G1 (upd H1 dx (.own x)) al1 := by
      have gd : G1 dx = none := A1.sub.free hdx
      have nal : dx ∉ al1 := fun m => A1.here dx m hdx
      refine ⟨⟨fun b u e => by rw [upd_ne (ne_of_none e gd)]; exact A1.sub _ _ e, A1.nd, A1.len, fun a m => ?_, fun k a o e1 e2 => ?_⟩, ⟨Same.refl _, Pre.refl _, fun a u h _ => by rw [upd_ne (ne_of_none h hdx)]; exact h, fun _ _ _ _ g => g, fun _ m => .inl m⟩⟩
      · have z : a ≠ dx := fun z => nal (z ▸ m)
        rw [upd_ne z]; exact A1.here a m
      · have z : a ≠ dx := fun z => nal (z ▸ List.mem_of_getElem? e1)
        exact OkO.mono (Same.refl _) (Pre.refl _) (fun _ g => g) (by rw [upd_ne z]) (A1.ok k a o e1 e2)
    obtain ⟨A2, n2⟩ := A2
    have hx2 : (upd H1 dx (.own x)) x = none := by rw [upd_ne nx1]; exact hx
    obtain ⟨A3, n3⟩ := A2.own (o := .ins Cc dx []) (m := .ins Cc []) hx2 ⟨A2.sub.free hx2, dx, [], upd_same, .nil⟩
    refine ⟨G1, al1 ++ [x], .own μ1.length :: (ds ++ dds), μ1 ++ [.ins Cc []], _, _, A3, .cons (.own (by rw [← A1.len]; simp)) ((((r1.nx n2).nx n3).append (hd _ _))), p1, ?_, by rw [← A1.len]; exact (hE.nx (hB.trans n1)).ret (n2.trans n3)⟩
    intro v d μ2 G4 H4 al4 n4 A4 r4 p4
    obtain ⟨rfl, gs, rfl, hcl, hp⟩ := p4
    cases r4
    refine ⟨rfl, ?_⟩
    have hal : al4[μ1.length]? = some x := n4.p.get (by rw [← A1.len]; simp)
    obtain ⟨a, ha, ga, dx4, fs4, hv4, rf4⟩ := A4.get (k := μ1.length) (m := .ins Cc gs) (by simp)
    rw [hal] at ha; cases ha
    obtain ⟨A5, n5⟩ := A4.freeze hal hv4 ga
    have nn : Nx G1 H1 al1 (upd G4 x (.ins Cc dx4 fs4)) H4 al4 := ((n2.trans n3).trans n4).trans n5
    obtain ⟨be, rfl⟩ := nn.p
    have e5 : (μ1 ++ [MO.ins Cc gs]).set μ1.length MO.dead = μ1 ++ [.dead] := by simp
    rw [e5] at A5
    refine hQ (.ref x) (.obj Cc gs) μ1 _ H4 al1 (n1.trans nn.shrink) (A5.shrink A1.len A1.cl) ?_ hp
    exact .obj upd_same ((rf4.nx n5).shrink (by rw [A1.len]; exact hcl))
theorem da_nd : ∀ G al, Rps K G al [] [] := fun _ _ => .nil
end
end Dl
set_option Elab.async false
set_option linter.all false
set_option maxRecDepth 100000
namespace L2
open PySem PySem.Spec PyProof.Rows
section
variable {X : Cx} {a b c d : Expr} {ta tb tc td : TE} {pos : Pos}
/-- a op1 b op2 c op3 d -/
def tChain3 (r r' r3 : R2) (ta tb tc td : TE) : TE := fun σ H Q => ta σ H fun x H1 => tb σ H1 fun y H2 => r x y H2 fun z H3 => ∃ k, z = .bl k ∧
  (if k = true then tc σ H3 fun w' H4 => r' y w' H4 fun z2 H5 => ∃ k2, z2 = .bl k2 ∧ (if k2 = true then td σ H5 fun u H6 => r3 w' u H6 Q else Q (.bl false) H5) else Q (.bl false) H3)
end
/-- two readings of one expression -/
theorem PE.or {X : Cx} {e : Expr} {t u : TE} (h : PE X e t) (h' : PE X e u) : PE X e (fun σ H Q => t σ H Q ∨ u σ H Q) := ⟨fun pins s σ H Q I hw => hw.elim (h.run pins s σ H Q I) (h'.run pins s σ H Q I)⟩
/-! ### operators of any kind -/
def rAddS : R2 := fun x y H Q => ∃ i j, x = .str i ∧ y = .str j ∧ i.length + j.length ≤ sizeLine ∧ Q (.str (i ++ j)) H
def rAddA (K : PySem.W.Frag) : R2 := fun x y H Q => rI0 (fun i j => .int (i + j)) x y H Q ∨ rCat x y H Q ∨ rAddS x y H Q ∨ rCatT K x y H Q
def rMulA : R2 := fun x y H Q => rI CMul (fun i j => .int (i * j)) x y H Q ∨ rI CMulW (fun i j => .int (i * j)) x y H Q ∨ rRep x y H Q
section
variable {X : Cx}
theorem op_addA : OpR X (binaryOp .Add) (rAddA X.K) := op_add.or (op_cat.or (op_add_str.or op_catT))
theorem op_mulA : OpR X (binaryOp .Mult) rMulA := op_mul.or (op_mulW.or op_rep)
end
def rFdivA : R2 := fun x y H Q => rI CDivW (fun i j => .int (i / j)) x y H Q ∨ rI CDivN (fun i j => .int (i.fdiv j)) x y H Q
def rModA : R2 := fun x y H Q => rI (fun _ j => 0 < j) (fun i j => .int (i % j)) x y H Q ∨ rI (fun _ j => j ≠ 0) (fun i j => .int (i.fmod j)) x y H Q
def rInSg : R2 := fun x y H Q => ∃ (c : Nat) (z : Str), x = .str ⟨#[c]⟩ ∧ y = .str z ∧ Q (.bl (decide (c ∈ z.cps.toList))) H
def rInSt : R2 := fun x y H Q => ∃ i j, x = .str i ∧ y = .str j ∧ Q (.bl (!(Builtin.Str.occurrences j i 0 j.length 1).isEmpty)) H
def rInA (K : PySem.W.Frag) : R2 := fun x y H Q => rIn K false x y H Q ∨ rInSg x y H Q ∨ rInSt x y H Q
section
variable {X : Cx}
theorem op_fdivA : OpR X (binaryOp .FloorDiv) rFdivA := op_fdivW.or op_fdivN
theorem op_modA : OpR X (binaryOp .Mod) rModA := op_mod.or op_modN
theorem op_inA : OpR X (compareOp .In) (rInA X.K) := op_in_seq.or (op_in_sign.or op_in_str)
end
/-- a list, a tuple, a text walked -/
def iAny (K : PySem.W.Frag) (tl : TE) : TI := fun σ H R => tl σ H fun x H1 => (∃ a, x = .ref a ∧ (∃ xs, SqL K H1 a xs) ∧ R (Itl K a) H1) ∨ (∃ a, x = .ref a ∧ (∃ xs, SqT K H1 a xs) ∧ R (Itt K a) H1) ∨ ∃ s, x = .str s ∧ R (Its s) H1
theorem pi_any {X : Cx} {tg l : Expr} {tl : TE} (hl : PE X l tl) : PI X tg l (iAny X.K tl) := by
  refine ⟨fun pins s σ H R I h => ?_⟩
  refine thn (hl.run pins s σ H _ I h) fun v s1 ⟨x, H1, I1, r1, q1⟩ => ?_
  rcases q1 with ⟨a, e, ⟨xs, hq⟩, q⟩ | ⟨a, e, ⟨xs, hq⟩, q⟩ | ⟨z, e, q⟩
  · subst e
    cases r1
    obtain ⟨its, rv, p, hz⟩ := I1.list hq
    refine wpAny_pyIter_list p.isList ?_
    refine ⟨s1.heap.objs.size, [s1.heap.objs.size], _, _, H1, rfl, I1.kept (t' := s1.toks) fun b o e => Heap.get?_push_of_some _ e, turn_list a _, ⟨_, Heap.get?_push_size _ rfl, rfl, rfl⟩, fun b hb => ?_, q⟩
    have e : b = s1.heap.objs.size := by simpa using hb
    subst e
    exact I1.fpOk (Nat.le_refl _) (I1.hok.fresh (Nat.le_refl _))
  · subst e
    cases r1
    obtain ⟨its, rv, p, hz⟩ := I1.tuple hq
    refine wpAny_pyIter_tuple (show s1.heap.IsTuple a its.toArray from p) ?_
    refine ⟨s1.heap.objs.size, [s1.heap.objs.size], _, _, H1, rfl, I1.kept (t' := s1.toks) fun b o e => Heap.get?_push_of_some _ e, turn_tuple a _, ⟨_, Heap.get?_push_size _ rfl, rfl, rfl⟩, fun b hb => ?_, q⟩
    have e : b = s1.heap.objs.size := by simpa using hb
    subst e
    exact I1.fpOk (Nat.le_refl _) (I1.hok.fresh (Nat.le_refl _))
  · subst e
    obtain ⟨t, rfl⟩ := r1
    cases ha : z.cps.all (· < 128)
    · exact wpAny_pyIter_wide ha (pi_one (tk := s1.toks) I1 _ (turn_str _ z t "str_iterator" (.inr rfl)) ⟨_, Heap.get?_push_size _ rfl, rfl, rfl⟩ q)
    · exact wpAny_pyIter_ascii ha (pi_one (tk := s1.toks) I1 _ (turn_str _ z t "str_ascii_iterator" (.inl rfl)) ⟨_, Heap.get?_push_size _ rfl, rfl, rfl⟩ q)
def rSlA (K : PySem.W.Frag) : V → Option Int → Option Int → Hp → VK → Prop := fun x lo hi H Q => rSlL K x lo hi H Q ∨ (∃ z, x = .str z ∧ z.length ≤ sizeLine ∧ Q (.str (cutS z lo hi)) H) ∨ rSlT K x lo hi H Q
theorem sl_any {X : Cx} : SlR X (rSlA X.K) := sl_list.or (sl_str.or sl_tup)
/-- an own exception without an __init__ of its own -/
structure ExC (K : PySem.W.Frag) (mg : Str → Option Value) (x : Str) : Prop where
  xc : PySem.W.excIn K (He.ga K x) He.veBase "ValueError.__new__" = true
  gc : mg x = some (.ref (He.ga K x))
  kc : PySem.W.keepIn K (.ref (He.ga K x)) = true
  bc : PySem.W.subIn K (.ref (He.ga K x)) (.type "BaseException") = some true
  tc : PySem.W.typeIn K (.ref (He.ga K x)) = some (.type "type")
/-- a value's truth -/
def tTruth (K : PySem.W.Frag) (ta : TE) : TT := fun σ H Q => ta σ H fun x H' => ∃ k, TruV K x H' k ∧ Q k H'
/-- a raise of an own class without fields -/
def tRaise0 (C : Addr) (E : XK) : TS := fun _ σ H => E (.ref C) none H
def _root_.Dl.rLen (K : PySem.W.Frag) : List V → Hp → VK → Prop := fun xs H Q => ∃ x n, xs = [x] ∧ LenV K x H n ∧ Q (.int (n : Nat)) H
def rMax2 : List V → Hp → VK → Prop := fun xs H Q => ∃ i j, xs = [.int i, .int j] ∧ Q (.int (if j > i then j else i)) H
def rMin2 : List V → Hp → VK → Prop := fun xs H Q => ∃ i j, xs = [.int i, .int j] ∧ Q (.int (if j < i then j else i)) H
def rMaxA (K : PySem.W.Frag) : List V → Hp → VK → Prop := fun xs H Q => rMax2 xs H Q ∨ rMax K xs H Q
def rMinA (K : PySem.W.Frag) : List V → Hp → VK → Prop := fun xs H Q => rMin2 xs H Q ∨ rMin K xs H Q
theorem call_maxA {X : Cx} (hc : X.calm = true) : CallR X (.builtin "max") (rMaxA X.K) := (call_max2 hc).or (cr_max hc)
theorem call_minA {X : Cx} (hc : X.calm = true) : CallR X (.builtin "min") (rMinA X.K) := (call_min2 hc).or (cr_min hc)
def rListOf (K : PySem.W.Frag) : List V → Hp → VK → Prop := fun xs H Q => ∃ p ys, xs = [.ref p] ∧ (SqL K H p ys ∨ SqT K H p ys) ∧ ∀ l, H l = none → Q (.ref l) (upd H l (.lst ys))
def rDivmod : List V → Hp → VK → Prop := fun xs H Q => ∃ i j, xs = [.int i, .int j] ∧ CDiv i j ∧ ∀ p, H p = none → Q (.ref p) (upd H p (.tup [.int (i / j), .int (i % j)]))
end L2
namespace Dl
open PySem L2 PyProof.Rows
section
variable {K : PySem.W.Frag} {μ : Mu} {P : D → Mu → Prop} {i j : Int} {x y d : D} {ds es : List D}
theorem ro_addI (h : P (.int (i + j)) μ) : RO K (rAddA K) (.int i) (.int j) μ P := fun G H al v w A r1 r2 Q hQ => .inl (ro_i (f := fun i j => i + j) h G H al v w A r1 r2 Q hQ)
theorem ro_mulI (hc : CMul i j) (h : P (.int (i * j)) μ) : RO K rMulA (.int i) (.int j) μ P := fun G H al v w A r1 r2 Q hQ => .inl (ro_ic (f := fun i j => i * j) hc h G H al v w A r1 r2 Q hQ)
def repD (xs : List D) (k : Int) : List D := (List.replicate k.toNat xs).flatten
theorem rps_rep {G : Hp} {al : List Addr} {vs : List V} (h : Rps K G al vs ds) (n : Nat) : Rps K G al (List.replicate n vs).flatten (List.replicate n ds).flatten := by
  induction n with
  | zero => exact .nil
  | succ n ih => rw [List.replicate_succ, List.replicate_succ, List.flatten_cons, List.flatten_cons]; exact h.append ih
theorem ro_rep (h1 : Lt μ x ds) (hj : -100000 ≤ j ∧ j ≤ 100000) (hs : ds.length * j.toNat ≤ 100000) (h : P (.lst (repD ds j)) μ) : RO K rMulA x (.int j) μ P := fun G H al v w A r1 r2 Q hQ => by
  obtain ⟨a, ws, rfl, s1, rs1⟩ := h1.get A r1
  cases r2
  refine .inr (.inr ⟨a, j, ws, rfl, rfl, s1, by omega, by omega, by rw [rs1.length]; exact Nat.le_trans hs (by decide), fun p hp => ?_⟩)
  obtain ⟨A2, n2⟩ := A.frz (o := .lst (List.replicate j.toNat ws).flatten) hp
  exact hQ _ _ μ _ _ _ n2 A2 (.lst upd_same ((rps_rep rs1 j.toNat).nx n2)) h
theorem rc_max2' (h : P (.int (max i j)) μ) : RC K (rMaxA K) [.int i, .int j] μ P := fun G H al vs A r Q hQ => .inl (rc_max2 h G H al vs A r Q hQ)
theorem rc_min2' (h : P (.int (min i j)) μ) : RC K (rMinA K) [.int i, .int j] μ P := fun G H al vs A r Q hQ => .inl (rc_min2 h G H al vs A r Q hQ)
theorem rc_lenL (hl : Ls μ x ds) (h : P (.int (ds.length : Int)) μ) : RC K (rLen K) [x] μ P := rc_len hl h
theorem rc_lenT' (hl : Ts x ds) (h : P (.int (ds.length : Int)) μ) : RC K (rLen K) [x] μ P := rc_lenT hl h
theorem rc_list (hl : Ls μ x ds) (h : P (.lst ds) μ) : RC K (rListOf K) [x] μ P := fun G H al vs A r Q hQ => by
  obtain ⟨v, rfl, r1⟩ := rps1 r
  obtain ⟨a, ws, rfl, s, rs⟩ := hl.get A r1
  refine ⟨a, ws, rfl, .inl s, fun p hp => ?_⟩
  obtain ⟨A2, n2⟩ := A.frz (o := .lst ws) hp
  exact hQ _ _ μ _ _ _ n2 A2 (.lst upd_same (rs.nx n2)) h
theorem rc_listO (hl : Ls μ x ds) (h : P (.own μ.length) (μ ++ [.lst ds])) : RC K (rListOf K) [x] μ P := fun G H al vs A r Q hQ => by
  obtain ⟨v, rfl, r1⟩ := rps1 r
  obtain ⟨a, ws, rfl, s, rs⟩ := hl.get A r1
  refine ⟨a, ws, rfl, .inl s, fun p hp => ?_⟩
  obtain ⟨A2, n2⟩ := A.own (o := .lst ws) (m := .lst ds) hp ⟨A.sub.free hp, _, upd_same, rs.mono (Same.refl _) ⟨[p], rfl⟩⟩
  exact hQ _ _ _ _ _ _ n2 A2 (.own (by rw [← A.len]; simp)) h
theorem rc_divmod (hc : CDiv i j) (h : P (.tup [.int (i / j), .int (i % j)]) μ) : RC K rDivmod [.int i, .int j] μ P := fun G H al vs A r Q hQ => by
  obtain ⟨v, w, rfl, r1, r2⟩ := rps2 r
  cases r1; cases r2
  refine ⟨i, j, rfl, hc, fun p hp => ?_⟩
  obtain ⟨A2, n2⟩ := A.frz (o := .tup [.int (i / j), .int (i % j)]) hp
  exact hQ _ _ μ _ _ _ n2 A2 (.tup upd_same (.cons (.int _) (.cons (.int _) .nil))) h
end
section
variable {K : PySem.W.Frag} {B : Bs} {ρ : En} {μ : Mu} {P : D → Mu → Prop} {ta tb te tc td : TE} {PT' : Bool → Mu → Prop}
theorem de_chain3 {r r' r3 : R2} (h : DE K B ta ρ μ fun x μ1 => DE K B tb ρ μ1 fun y μ2 => RO K r x y μ2 fun z μ3 => ∃ b, z = .bl b ∧ (b = true → DE K B tc ρ μ3 fun w μ4 => RO K r' y w μ4 fun z2 μ5 => ∃ b2, z2 = .bl b2 ∧
      (b2 = true → DE K B td ρ μ5 fun u μ6 => RO K r3 w u μ6 P) ∧ (b2 = false → P (.bl false) μ5)) ∧ (b = false → P (.bl false) μ3)) :
    DE K B (tChain3 r r' r3 ta tb tc td) ρ μ P := fun σ G H al hB hσ hA Q hQ =>
  h σ G H al hB hσ hA _ fun v d μ1 G1 H1 al1 n1 A1 r1 p1 => p1 σ G1 H1 al1 (hB.trans n1) (hσ.nx n1) A1 _ fun w e μ2 G2 H2 al2 n2 A2 r2 p2 =>
    p2 G2 H2 al2 v w A2 (r1.nx n2) r2 _ fun z dz μ3 G3 H3 al3 n3 A3 r3 p3 => by
      obtain ⟨b, rfl, pt, pf⟩ := p3
      cases r3
      refine ⟨b, rfl, ?_⟩
      have nn3 := (n1.trans n2).trans n3
      cases b with
      | false =>
        rw [if_neg (by simp)]
        exact hQ (.bl false) _ μ3 G3 H3 al3 nn3 A3 (.bl _) (pf rfl)
      | true =>
        rw [if_pos rfl]
        refine pt rfl σ G3 H3 al3 (hB.trans nn3) (hσ.nx nn3) A3 _ fun u du μ4 G4 H4 al4 n4 A4 r4 p4 => p4 G4 H4 al4 w u A4 ((r2.nx n3).nx n4) r4 _ fun z5 dz5 μ5 G5 H5 al5 n5 A5 r5 p5 => ?_
        obtain ⟨b2, rfl, pt2, pf2⟩ := p5
        cases r5
        refine ⟨b2, rfl, ?_⟩
        have nn5 := (nn3.trans n4).trans n5
        cases b2 with
        | false =>
          rw [if_neg (by simp)]
          exact hQ (.bl false) _ μ5 G5 H5 al5 nn5 A5 (.bl _) (pf2 rfl)
        | true =>
          rw [if_pos rfl]
          exact pt2 rfl σ G5 H5 al5 (hB.trans nn5) (hσ.nx nn5) A5 _ fun u6 du6 μ6 G6 H6 al6 n6 A6 r6 p6 => p6 G6 H6 al6 u u6 A6 ((r4.nx n5).nx n6) r6 Q (hQ.nx (nn5.trans n6))
theorem dt_truth (h : DE K B te ρ μ fun x μ1 => ∃ b, x = .bl b ∧ PT' b μ1) : DT K B (tTruth K te) ρ μ PT' := fun σ G H al hB hσ hA Q hQ =>
  h σ G H al hB hσ hA _ fun v d μ1 G1 H1 al1 n1 A1 r1 p1 => by
    obtain ⟨b, rfl, p⟩ := p1
    cases r1
    exact ⟨b, rfl, hQ b μ1 G1 H1 al1 n1 A1 p⟩
theorem ds_raise0 {C : Addr} {E : XK} {PX : PXT} {Pe : DEnds} (hE : XAg K B PX E) (h : PX C [] μ) : DS K B (tRaise0 C E) ρ μ Pe := fun σ G H al hB hσ hA De hD =>
  hE C [] none μ G H al hB hA (.inl ⟨rfl, rfl⟩) h
end
end Dl
set_option Elab.async false
set_option linter.all false
set_option maxRecDepth 100000
namespace Dl
open PySem L2 PyProof.Rows
section
variable {K : PySem.W.Frag} {μ : Mu} {P : D → Mu → Prop} {i j : Int} {x y d : D} {ds es : List D}
theorem ro_fdiv (hc : 0 < j) (hj : j.natAbs.log2 < 9000) (h : P (.int (i / j)) μ) : RO K rFdivA (.int i) (.int j) μ P := fun G H al v w A r1 r2 Q hQ => .inl (ro_ic (f := fun i j => i / j) ⟨hc, hj⟩ h G H al v w A r1 r2 Q hQ)
theorem ro_mod (hc : 0 < j) (h : P (.int (i % j)) μ) : RO K rModA (.int i) (.int j) μ P := fun G H al v w A r1 r2 Q hQ => .inl (ro_ic (f := fun i j => i % j) (C := fun _ j => 0 < j) hc h G H al v w A r1 r2 Q hQ)
theorem ro_pow (hc : CPow i j) (h : P (.int (i ^ j.toNat)) μ) : RO K (rI CPow fun i j => .int (i ^ j.toNat)) (.int i) (.int j) μ P := ro_ic (f := fun i j => i ^ j.toNat) hc h
theorem ro_isB {a b : Bool} (h : P (.bl (decide (a = b))) μ) : RO K rIsB (.bl a) (.bl b) μ P := fun G H al v w A r1 r2 Q hQ => by
  cases r1; cases r2
  exact ⟨a, b, rfl, rfl, hQ.now A (.bl _) h⟩
theorem ro_notB {a b : Bool} (h : P (.bl (!decide (a = b))) μ) : RO K rNotB (.bl a) (.bl b) μ P := fun G H al v w A r1 r2 Q hQ => by
  cases r1; cases r2
  exact ⟨a, b, rfl, rfl, hQ.now A (.bl _) h⟩
end
section
variable {K : PySem.W.Frag} {B : Bs} {ρ : En} {μ : Mu} {te ta : TE} {ts : TA} {PI' : List D → (Mu → Prop) → Mu → Prop} {P : DEnds} {t u v : TS}
/-- what a datum is walked as; S: what must stay of what may change -/
inductive Wk (μ : Mu) : D → List D → (Mu → Prop) → Prop
  | lst (ds : List D) : Wk μ (.lst ds) ds (fun _ => True)
  | rdl (ds : List D) : Wk μ (.rdl ds) ds (fun _ => True)
  | own {k : Nat} {ds : List D} (h : μ[k]? = some (.lst ds)) : Wk μ (.own k) ds (fun μ' => μ'[k]? = some (.lst ds))
  | tup (ds : List D) : Wk μ (.tup ds) ds (fun _ => True)
  | rdt (ds : List D) : Wk μ (.rdt ds) ds (fun _ => True)
  | str (s : Str) : Wk μ (.str s) (signsD s) (fun _ => True)
theorem itt_ok {G H : Hp} {al : List Addr} {a : Addr} {ds : List D} {S : Mu → Prop} (h : ∀ G2 H2 al2 μ2, Nx G H al G2 H2 al2 → As K G2 H2 al2 μ2 → S μ2 → ∃ vs, SqT K H2 a vs ∧ Rps K G2 al2 vs ds) : ItOk K (Itt K a) ds S G H al := fun G2 H2 al2 μ2 n A s => by
  obtain ⟨vs, sq, r⟩ := h G2 H2 al2 μ2 n A s
  refine ⟨fun i hi => ⟨vs, vs[i]'(by rw [r.length]; exact hi), sq, by simp⟩, fun i hi => ⟨vs, sq, by rw [r.length]; exact hi⟩, fun i x H3 y d hd => ?_⟩
  obtain ⟨rfl, y⟩ := y
  obtain ⟨d', hd', r'⟩ := r.getV (y vs sq)
  rw [hd] at hd'; cases hd'
  exact ⟨G2, .refl, A, r'⟩
theorem di_any (h : DE K B te ρ μ fun x μ1 => ∃ ds S, Wk μ1 x ds S ∧ PI' ds S μ1) : DI K B (iAny K te) ρ μ PI' := fun σ G H al hB hσ hA R hR =>
  h σ G H al hB hσ hA _ fun v d μ1 G1 H1 al1 n1 A1 r1 p1 => by
    obtain ⟨ds, S, wk, p⟩ := p1
    cases wk with
    | lst =>
      cases r1 with
      | lst e rs => exact .inl ⟨_, rfl, ⟨_, .inl (.inl (A1.sub _ _ e))⟩, hR _ ds _ μ1 G1 H1 al1 n1 A1 (itl_ok fun G2 H2 al2 μ2 n2 A2 _ => ⟨_, .inl (.inl (A2.sub _ _ (n2.g _ _ e))), rs.nx n2⟩) p⟩
    | rdl =>
      cases r1 with
      | rdl e rs => exact .inl ⟨_, rfl, ⟨_, sql_mono A1.sub e⟩, hR _ ds _ μ1 G1 H1 al1 n1 A1 (itl_ok fun G2 H2 al2 μ2 n2 A2 _ => ⟨_, sql_mono A2.sub (sql_mono n2.g e), rs.nx n2⟩) p⟩
    | own hk =>
      obtain ⟨a, ha, ga, vs, hv, rs⟩ := A1.get hk
      cases r1 with
      | own e =>
        rw [ha] at e; cases e
        refine .inl ⟨_, rfl, ⟨_, .inl (.inl hv)⟩, hR _ ds _ μ1 G1 H1 al1 n1 A1 (itl_ok fun G2 H2 al2 μ2 n2 A2 s => ?_) p⟩
        obtain ⟨a2, ha2, ga2, vs2, hv2, rs2⟩ := A2.get s
        rw [n2.p.get ha] at ha2; cases ha2
        exact ⟨vs2, .inl (.inl hv2), rs2⟩
    | tup =>
      cases r1 with
      | tup e rs => exact .inr (.inl ⟨_, rfl, ⟨_, .inl (.inl (A1.sub _ _ e))⟩, hR _ ds _ μ1 G1 H1 al1 n1 A1 (itt_ok fun G2 H2 al2 μ2 n2 A2 _ => ⟨_, .inl (.inl (A2.sub _ _ (n2.g _ _ e))), rs.nx n2⟩) p⟩)
    | rdt =>
      cases r1 with
      | rdt e rs => exact .inr (.inl ⟨_, rfl, ⟨_, sqt_mono A1.sub e⟩, hR _ ds _ μ1 G1 H1 al1 n1 A1 (itt_ok fun G2 H2 al2 μ2 n2 A2 _ => ⟨_, sqt_mono A2.sub (sqt_mono n2.g e), rs.nx n2⟩) p⟩)
    | str x =>
      cases r1
      refine .inr (.inr ⟨x, rfl, hR _ _ _ μ1 G1 H1 al1 n1 A1 (fun G2 H2 al2 μ2 n2 A2 _ => ?_) p⟩)
      have hl : (signsD x).length = x.cps.size := by simp [signsD]
      rw [hl]
      refine ⟨fun i hi => hi, fun i hi => hi, fun i y H3 hy d hd => ?_⟩
      obtain ⟨rfl, c, hc, rfl⟩ := hy
      have : d = .str ⟨#[c]⟩ := by
        simp only [signsD, List.getElem?_map, Array.getElem?_toList, hc] at hd
        exact (Option.some.inj hd).symm
      subst this
      exact ⟨G2, .refl, A2, .str _⟩
theorem di_enum' (h : DA K B ts ρ μ fun xs μ1 => ∃ x ds S, xs = [x] ∧ Ls μ1 x ds ∧ Wk μ1 x ds S ∧ PI' (enumD ds) S μ1) : DI K B (iEnum K ts) ρ μ PI' := di_enum (fun σ G H al hB hσ hA Q hQ => h σ G H al hB hσ hA Q fun vs ds' μ' G' H' al' n A r p => hQ vs ds' μ' G' H' al' n A r (by
  obtain ⟨x, ds, S, e, ls, wk, p⟩ := p
  refine ⟨x, ds, e, ?_⟩
  cases wk with
  | lst => exact .inl ⟨rfl, p⟩
  | rdl => exact .inr (.inl ⟨rfl, p⟩)
  | own hk => exact .inr (.inr ⟨_, rfl, hk, p⟩)
  | tup => cases ls
  | rdt => cases ls
  | str => cases ls))
/-! ### statements with what follows -/
theorem q_set {i : Nat} (h : DE K B te ρ μ fun d μ1 => DS K B u (ρ.set i (some d)) μ1 P) : DS K B (tSeq (tAsg te (gName i)) u) ρ μ P := ds_seq (ds_set h)
theorem q_asg {g : TG} (h : DE K B te ρ μ fun d μ1 => DG K B g d ρ μ1 fun ρ2 μ2 => DS K B u ρ2 μ2 P) : DS K B (tSeq (tAsg te g) u) ρ μ P := ds_seq (ds_asg h)
theorem q_drop (h : DE K B te ρ μ fun d μ1 => DS K B u ρ μ1 P) : DS K B (tSeq (tDrop te) u) ρ μ P := ds_seq (ds_drop h)
/-- an if without else -/
theorem q_when {c : TT} (h : DT K B c ρ μ fun b μ1 => (b = true → DS K B t ρ μ1 { P with nx := fun ρ1 μ1 => DS K B u ρ1 μ1 P }) ∧ (b = false → DS K B u ρ μ1 P)) : DS K B (tSeq (tIfS c t tNext) u) ρ μ P :=
  ds_seq (ds_if fun σ G H al hB hσ hA Q hQ => h σ G H al hB hσ hA Q fun b μ1 G1 H1 al1 n1 A1 p1 => hQ b μ1 G1 H1 al1 n1 A1 ⟨p1.1, fun e => ds_next (p1.2 e)⟩)
theorem s_when {c : TT} (h : DT K B c ρ μ fun b μ1 => (b = true → DS K B t ρ μ1 P) ∧ (b = false → P.nx ρ μ1)) : DS K B (tIfS c t tNext) ρ μ P :=
  ds_if fun σ G H al hB hσ hA Q hQ => h σ G H al hB hσ hA Q fun b μ1 G1 H1 al1 n1 A1 p1 => hQ b μ1 G1 H1 al1 n1 A1 ⟨p1.1, fun e => ds_next (p1.2 e)⟩
theorem q_if {c : TT} (h : DT K B c ρ μ fun b μ1 => (b = true → DS K B t ρ μ1 { P with nx := fun ρ1 μ1 => DS K B u ρ1 μ1 P }) ∧ (b = false → DS K B v ρ μ1 { P with nx := fun ρ1 μ1 => DS K B u ρ1 μ1 P })) : DS K B (tSeq (tIfS c t v) u) ρ μ P := ds_seq (ds_if h)
theorem q_for {wi : TI} {g : TG} {tb : TS} (h : DI K B wi ρ μ fun ds S μ1 => ∃ Iv : Nat → En → Mu → Prop, Iv 0 ρ μ1 ∧ (∀ i ρ' μ', i ≤ ds.length → Iv i ρ' μ' → S μ') ∧
      (∀ i d ρ' μ', ds[i]? = some d → Iv i ρ' μ' → DG K B g d ρ' μ' fun ρ2 μ2 => DS K B tb ρ2 μ2 { nx := Iv (i + 1), ct := Iv (i + 1), bk := fun ρ1 μ1 => DS K B u ρ1 μ1 P, rt := P.rt }) ∧ (∀ ρ' μ', Iv ds.length ρ' μ' → DS K B u ρ' μ' P)) : DS K B (tSeq (tFor wi g tb) u) ρ μ P := ds_seq (ds_for h)
theorem q_while {c : TT} {tb : TS} (Iv : Nat → En → Mu → Prop) {m0 : Nat} (h0 : Iv m0 ρ μ)
    (hs : ∀ m ρ' μ', Iv m ρ' μ' → DT K B c ρ' μ' fun b μ1 => (b = true → DS K B tb ρ' μ1 { nx := fun ρ2 μ2 => ∃ m', m' < m ∧ Iv m' ρ2 μ2, ct := fun ρ2 μ2 => ∃ m', m' < m ∧ Iv m' ρ2 μ2, bk := fun ρ1 μ1 => DS K B u ρ1 μ1 P, rt := P.rt }) ∧ (b = false → DS K B u ρ' μ1 P)) : DS K B (tSeq (tWhile c tb) u) ρ μ P := ds_seq (ds_while Iv h0 hs)
theorem q_fld {f : Str} {tb : TE} (h : DE K B tb ρ μ fun y μ1 => DE K B ta ρ μ1 fun x μ2 => ∃ k C gs, x = .own k ∧ μ2[k]? = some (.ins C gs) ∧ Cls K C ∧ NoAttr K C f ∧ gs.length < 1000 ∧ DS K B u ρ (μ2.set k (.ins C (putD f y gs))) P) : DS K B (tSeq (sFld K ta tb f) u) ρ μ P := ds_seq (ds_fld h)
theorem q_par {i j : Nat} (h : DA K B ts ρ μ fun ds μ1 => ∃ x y, ds = [x, y] ∧ DS K B u ((ρ.set i (some x)).set j (some y)) μ1 P) : DS K B (tSeq (tPar i j ts) u) ρ μ P := ds_seq (ds_par h)
end
/-- the n-th thing from the end of what may change -/
theorem mu_last {μ : Mu} {o : MO} : (μ ++ [o])[μ.length]? = some o := by simp
theorem mu_old {μ ext : Mu} {k : Nat} {o : MO} (h : μ[k]? = some o) : (μ ++ ext)[k]? = some o := by
  rw [List.getElem?_append_left (List.getElem?_eq_some_iff.mp h).1]
  exact h
theorem set_last {μ : Mu} {o o' : MO} : (μ ++ [o]).set μ.length o' = μ ++ [o'] := by simp
theorem set_old {μ ext : Mu} {k : Nat} {o o' : MO} (h : μ[k]? = some o) : (μ ++ ext).set k o' = μ.set k o' ++ ext := by
  rw [List.set_append_left _ _ (List.getElem?_eq_some_iff.mp h).1]
theorem set_get {μ : Mu} {k : Nat} {o o' : MO} (h : μ[k]? = some o) : (μ.set k o')[k]? = some o' := by
  rw [List.getElem?_set_self (List.getElem?_eq_some_iff.mp h).1]
theorem set_set' {μ : Mu} {k : Nat} {o o' : MO} : (μ.set k o).set k o' = μ.set k o' := by simp
/-- a fresh list handed on: frozen, or to be changed -/
def Fresh (xs : List D) (μ : Mu) (P : D → Mu → Prop) : Prop := P (.lst xs) μ ∨ P (.own μ.length) (μ ++ [.lst xs])
/-! ### defs by their contracts -/
section
variable {P : Program} {w : World} {K : PySem.W.Frag} {mg : Str → Option Value} {base : Heap}
theorem fn_DD {x qual : Str} {st : Stmt} {dvs : List V} {kws : List (Str × V)} {f : Addr} {fd : FuncData} {N ps : List Str} {k : Nat} {C : CT} {t : XK → TS} (F : FunD K x qual (defArgs st) (defBody st) (defScope st) dvs kws f fd) (S : FnScope N ps (defScope st)) (len : ∀ ds μ P PX, C ds μ P PX → ds.length = ps.length) (hN : ps.length ≤ N.length)
    (body : ∀ (cdv : Value) (A : Around) (outer : List Env) (s : Shared) (H : Hp) (E : XK), Room k (A.deeper (envOfC qual (defScope st) s.heap.objs.size f cdv)) → PSs (cxOf (L2.CX P w) P w K mg base N qual (defScope st) f cdv A outer s H E) (defBody st) (t E))
    (sem : ∀ ds μ P PX, C ds μ P PX → MuCl μ μ.length → clL ds μ.length = true → ∀ B E, XAg K B (RetX μ.length PX) E → DS K B (t E) (startD N ds) μ (fnE μ.length P)) : FnOk P w K mg base (L2.CX P w) (k + 1) f fd ps (spD K C) := by
  refine F.ok S (fun vs H Q E h => ?_) (fun cdv A outer s H vs Q E hr h => ⟨t E, body cdv A outer s H E hr, sem_of (fun ds μ P PX c => by rw [len ds μ P PX c]; exact hN) sem h⟩)
  obtain ⟨G, al, ds, μ, P, PX, A, r, c, _⟩ := h
  rw [r.length]
  exact len ds μ P PX c
end
end Dl
set_option Elab.async false
set_option linter.all false
set_option maxRecDepth 100000
namespace Dl
open PySem L2 PyProof.Rows
mutual
theorem D.cl_mono : ∀ (d : D) {n m : Nat}, n ≤ m → d.cl n = true → d.cl m = true
  | .tup xs, n, m, l, h => by unfold D.cl at h ⊢; exact clL_mono xs l h
  | .lst xs, n, m, l, h => by unfold D.cl at h ⊢; exact clL_mono xs l h
  | .rdl xs, n, m, l, h => by unfold D.cl at h ⊢; exact clL_mono xs l h
  | .rdt xs, n, m, l, h => by unfold D.cl at h ⊢; exact clL_mono xs l h
  | .obj _ gs, n, m, l, h => by unfold D.cl at h ⊢; exact clF_mono gs l h
  | .dct gs, n, m, l, h => by unfold D.cl at h ⊢; exact clK_mono gs l h
  | .own k, n, m, l, h => by unfold D.cl at h ⊢; simp at h ⊢; omega
  | .non, n, m, l, h => by simp [D.cl]
  | .bl _, n, m, l, h => by simp [D.cl]
  | .int _, n, m, l, h => by simp [D.cl]
  | .str _, n, m, l, h => by simp [D.cl]
  | .ty _, n, m, l, h => by simp [D.cl]
  | .loc _, n, m, l, h => by simp [D.cl]
  | .exc _ gs, n, m, l, h => by unfold D.cl at h ⊢; exact clF_mono gs l h
theorem clL_mono : ∀ (d : List D) {n m : Nat}, n ≤ m → clL d n = true → clL d m = true
  | [], _, _, _, _ => by simp [clL]
  | x :: xs, n, m, l, h => by
    unfold clL at h ⊢; simp at h ⊢
    exact ⟨D.cl_mono x l h.1, clL_mono xs l h.2⟩
theorem clF_mono : ∀ (d : List (Str × D)) {n m : Nat}, n ≤ m → clF d n = true → clF d m = true
  | [], _, _, _, _ => by simp [clF]
  | (_, x) :: xs, n, m, l, h => by
    unfold clF at h ⊢; simp at h ⊢
    exact ⟨D.cl_mono x l h.1, clF_mono xs l h.2⟩
theorem clK_mono : ∀ (d : List (Key × D)) {n m : Nat}, n ≤ m → clK d n = true → clK d m = true
  | [], _, _, _, _ => by simp [clK]
  | (_, x) :: xs, n, m, l, h => by
    unfold clK at h ⊢; simp at h ⊢
    exact ⟨D.cl_mono x l h.1, clK_mono xs l h.2⟩
end
theorem MO.cl_mono (o : MO) {n m : Nat} (l : n ≤ m) (h : o.cl n = true) : o.cl m = true := by
  cases o with
  | dead => rfl
  | lst xs => exact clL_mono xs l h
  | ins _ gs => exact clF_mono gs l h
  | dK gs => exact clK_mono gs l h
  | dT gs => exact clL_mono _ l h
  | tab _ _ => rfl
theorem MuCl.mono {μ : Mu} {n m : Nat} (h : MuCl μ n) (l : n ≤ m) : MuCl μ m := fun o ho => MO.cl_mono o l (h o ho)
theorem MuCl.app {μ : Mu} {o : MO} (h : MuCl μ μ.length) (ho : o.cl μ.length = true) : MuCl (μ ++ [o]) (μ ++ [o]).length := fun x hx => by
  rw [List.length_append]
  rcases List.mem_append.mp hx with m | m
  · exact MO.cl_mono x (by simp) (h x m)
  · simp at m; subst m; exact MO.cl_mono _ (by simp) ho
theorem br {b : Bool} {A C : Prop} (h1 : b = true → A) (h2 : b = false → C) : (b = true → A) ∧ (b = false → C) := ⟨h1, h2⟩
theorem br' {b : Bool} {A C : Prop} (h1 : b = false → A) (h2 : b = true → C) : (b = false → A) ∧ (b = true → C) := ⟨h1, h2⟩
theorem Wk.now {μ : Mu} {x : D} {ds : List D} {S : Mu → Prop} (h : Wk μ x ds S) : S μ := by
  cases h with
  | own h => exact h
  | _ => trivial
theorem Ls.wk {μ : Mu} {x : D} {ds : List D} (h : Ls μ x ds) : ∃ S, Wk μ x ds S := by
  cases h with
  | lst => exact ⟨_, .lst _⟩
  | rdl => exact ⟨_, .rdl _⟩
  | own h => exact ⟨_, .own h⟩
section
variable {K : PySem.W.Frag} {B : Bs} {ρ : En} {μ : Mu} {te : TE} {tt : TT} {wi : TI} {g : TG} {vs : List Nat} {P : D → Mu → Prop}
/-- [f d for d in ds], nothing changes -/
theorem lc_map (f : D → D) (hg : GW g vs) (h : DI K B wi ρ μ fun ds S μ1 => S μ1 ∧ ds.length ≤ 100000 ∧ (∀ (i : Nat) (d : D), ds[i]? = some d → DG K B g d (wipeD ρ vs) μ1 fun ρ2 μ2 => μ2 = μ1 ∧ DE K B te ρ2 μ1 fun y μ3 => y = f d ∧ μ3 = μ1) ∧ ∀ out, ds.map f = out → P (.lst out) μ1) : DE K B (tLc wi g tYes te vs) ρ μ P := by
  refine de_lc hg fun σ G H al hB hσ hA R hR => h σ G H al hB hσ hA R fun J ds S μ1 G1 H1 al1 n1 A1 ok p => hR J ds S μ1 G1 H1 al1 n1 A1 ok ?_
  obtain ⟨hS, hl, hs, hp⟩ := p
  refine ⟨hl, fun i acc μ' => acc = (ds.take i).map f ∧ μ' = μ1, ⟨by simp, rfl⟩, fun i acc μ' _ h => by rw [h.2]; exact hS, fun i d acc μ' hd h => ?_, fun acc μ' h => ?_⟩
  · obtain ⟨rfl, rfl⟩ := h
    refine fun σ G H al v hB hσ hA rv Q hQ => hs i d hd σ G H al v hB hσ hA rv Q fun σ2 ρ2 μ2 G2 H2 al2 n2 hσ2 A2 p2 => hQ σ2 ρ2 μ2 G2 H2 al2 n2 hσ2 A2 ?_
    obtain ⟨rfl, p2⟩ := p2
    refine dt_yes ⟨fun _ => p2.imp fun y μ3 ⟨e1, e2⟩ => ⟨?_, e2⟩, fun z => by cases z⟩
    rw [e1, List.take_add_one, hd]
    simp
  · obtain ⟨rfl, rfl⟩ := h
    rw [List.take_length]
    exact hp _ rfl
/-- [f d for d in ds if p d] -/
theorem lc_filt (p : D → Bool) (f : D → D) (hg : GW g vs) (h : DI K B wi ρ μ fun ds S μ1 => S μ1 ∧ ds.length ≤ 100000 ∧ (∀ (i : Nat) (d : D), ds[i]? = some d → DG K B g d (wipeD ρ vs) μ1 fun ρ2 μ2 => μ2 = μ1 ∧ DT K B tt ρ2 μ1 fun b μ3 => b = p d ∧ μ3 = μ1 ∧ (b = true → DE K B te ρ2 μ1 fun y μ4 => y = f d ∧ μ4 = μ1)) ∧ ∀ out, (ds.filter p).map f = out → P (.lst out) μ1) : DE K B (tLc wi g tt te vs) ρ μ P := by
  refine de_lc hg fun σ G H al hB hσ hA R hR => h σ G H al hB hσ hA R fun J ds S μ1 G1 H1 al1 n1 A1 ok p' => hR J ds S μ1 G1 H1 al1 n1 A1 ok ?_
  obtain ⟨hS, hl, hs, hp⟩ := p'
  refine ⟨hl, fun i acc μ' => acc = ((ds.take i).filter p).map f ∧ μ' = μ1, ⟨by simp, rfl⟩, fun i acc μ' _ h => by rw [h.2]; exact hS, fun i d acc μ' hd h => ?_, fun acc μ' h => ?_⟩
  · obtain ⟨rfl, rfl⟩ := h
    refine fun σ G H al v hB hσ hA rv Q hQ => hs i d hd σ G H al v hB hσ hA rv Q fun σ2 ρ2 μ2 G2 H2 al2 n2 hσ2 A2 p2 => hQ σ2 ρ2 μ2 G2 H2 al2 n2 hσ2 A2 ?_
    obtain ⟨rfl, p2⟩ := p2
    refine fun σ G H al hB hσ hA Q hQ => p2 σ G H al hB hσ hA Q fun b μ3 G3 H3 al3 n3 A3 p3 => hQ b μ3 G3 H3 al3 n3 A3 ?_
    obtain ⟨hb, rfl, p3⟩ := p3
    have e : (List.take (i + 1) ds) = List.take i ds ++ [d] := by rw [List.take_add_one, hd]; rfl
    refine ⟨fun hbt => (p3 hbt).imp fun y μ4 ⟨e1, e2⟩ => ⟨?_, e2⟩, fun hbf => ⟨?_, rfl⟩⟩
    · rw [e, List.filter_append, List.map_append, e1]
      rw [hb] at hbt
      simp [hbt]
    · rw [e, List.filter_append, List.map_append]
      rw [hb] at hbf
      simp [hbf]
  · obtain ⟨rfl, rfl⟩ := h
    rw [List.take_length]
    exact hp _ rfl
end
end Dl
set_option Elab.async false
set_option linter.all false
set_option maxRecDepth 100000
namespace Dl
open PySem L2 PyProof.Rows
/-- a law's end: the written part, the function object, the contract over every base -/
theorem walk_ofW {l : PySem.W.OpenLaw} {n k : Nat} {q : Program} {loose : List Str} {XP : (Str → Option Value) → Heap → Prop} {YP : World → Heap → Prop} {d : DefRec} {x : Str}
    (hn : l.most = some n) (hn2 : n ≤ sizeLine) (hdf : d.params.defaults = []) (hr : Room k callerA)
    (F : ∀ (w : World) (mg : Str → Option Value) (fa : Addr) (h : Heap), YP w h → h.Ns mainGlobals mg → mg d.name = some (.ref fa) →
      ∃ (K : PySem.W.Frag) (fd : FuncData) (sp : Sp), K.In h ∧ (∀ (s : Shared) (u : Value), BindsTo s fd ⟨[u], []⟩ [(x, u)]) ∧
        (∀ (H : Hp) (a : Addr) (ns : List Int), ns.length ≤ n → Only H → SqL K H a (ns.map V.int) → sp [.ref a] H (fun v _ => v = .bl true) fun _ _ _ => False) ∧
        ∀ base : Heap, K.In base → base.Ns mainGlobals mg → FnOk l.prog w K mg base (L2.CX l.prog w) k fa fd [x] sp) :
    PySem.W.WalkO q loose XP YP l.row.toRowW d [] (fun f vs => PySem.call f vs) := by
  refine Att.attach_call hn hdf fun w s0 s1 mg mb fa o pm cd doc a vs ns G Y ho hd hcd hmg hobj hints hlen hg => ?_
  obtain ⟨K, fd, sp, KX, hb, hsp, hF⟩ := F w mg fa _ Y G.T.g hmg
  refine law_call KX G.T.g G.T.b G.T.builtins G.T.nolimit hg hobj hints (Nat.le_trans hlen hn2) hr hF hb (fun H hO hS => hsp H a ns hlen hO hS) fun H e s' c => ?_
  obtain ⟨_, _, _, _, _, _, _, _, _, _, _, _, z⟩ := c
  exact z
theorem law_sp {K : PySem.W.Frag} {H : Hp} {a : Addr} {ns : List Int} {C : CT} (hS : SqL K H a (ns.map V.int)) (h : C [.rdl (ns.map D.int)] [] (fun d _ => d = .bl true) (fun _ _ _ => False)) : spD K C [.ref a] H (fun v _ => v = .bl true) (fun _ _ _ => False) := by
  refine ⟨H, [], [.rdl (ns.map D.int)], [], _, _, ⟨Same.refl _, by simp, rfl, by simp, fun k a o e _ => by simp at e⟩, .cons (.rdl hS (Rps.of_ints ns)) .nil, h, ?_, ?_⟩
  · intro v d μ' G' H' al' _ _ r p
    subst p
    cases r
    rfl
  · intro C fs dd μ' G' H' al' _ _ _ p
    exact p
end Dl
set_option Elab.async false
set_option linter.all false
set_option maxRecDepth 100000
namespace Dl
open PySem L2 PyProof.Rows
section
variable {K : PySem.W.Frag} {B : Bs} {ρ : En} {μ : Mu} {P : D → Mu → Prop} {te : TE} {x y : D} {ds : List D} {i j : Int}
/-- xs[::-1] -/
theorem de_revL (h : DE K B te ρ μ fun x μ1 => ∃ ds, Ls μ1 x ds ∧ P (.lst ds.reverse) μ1) : DE K B (tRevL K te) ρ μ P := fun σ G H al hB hσ hA Q hQ =>
  h σ G H al hB hσ hA _ fun v d μ1 G1 H1 al1 n1 A1 r1 p1 => by
    obtain ⟨ds, ls, p⟩ := p1
    obtain ⟨a, vs, rfl, sq, rs⟩ := ls.get A1 r1
    refine ⟨a, vs, rfl, sq, fun p' hp => ?_⟩
    obtain ⟨A2, n2⟩ := A1.frz (o := .lst vs.reverse) hp
    exact hQ _ _ μ1 _ _ _ (n1.trans n2) A2 (.lst upd_same (rs.reverse.nx n2)) p
theorem inV_ints (i : Int) (ns : List Int) : inV (.int i) (ns.map V.int) = decide (i ∈ ns) := by
  unfold inV
  induction ns with
  | nil => simp
  | cons n ns ih =>
    rw [List.map_cons, List.any_cons, ih]
    by_cases h : n = i
    · subst h; simp [eqV]
    · have h2 : ¬ i = n := fun e => h e.symm
      simp [eqV, h, h2]
theorem flat_ints (ns : List Int) : (ns.map V.int).all flatV = true := by simp [flatV]
theorem ro_inI {ns : List Int} (hl : Ls μ y (ns.map D.int)) (h : P (.bl (decide (i ∈ ns))) μ) : RO K (rInA K) (.int i) y μ P := fun G H al v w A r1 r2 Q hQ => by
  obtain ⟨a, vs, rfl, sq, rs⟩ := hl.get A r2
  cases r1
  have e := rs.ints; subst e
  refine .inl ⟨a, _, rfl, .inl sq, rfl, flat_ints ns, hQ.now A (.bl _) ?_⟩
  rw [if_neg (by simp), inV_ints]; exact h
theorem eqv_nil (ds : List D) : eqvD (.lst ds) (.lst []) = decide (ds = []) := by
  cases ds with
  | nil => simp [eqvD_lst, eqvL, pyL, PyData.eqvAll]
  | cons d ds => simp [eqvD_lst, eqvL, pyL, PyData.eqvAll]
theorem ro_eqNil {n : Nat} (hx : Fz μ x (.lst ds)) (hs : shpL ds n = true) (h : P (.bl (decide (ds = []))) μ) (hn : n ≤ 63 := by decide) : RO K (rEqD K) x (.lst []) μ P :=
  ro_eqD (n := n + 1) (m := 1) hx (.id _) (by simpa [D.shp] using hs) rfl (by rw [eqv_nil]; exact h) (by omega)
/-- .. of at most a hundred thousand -/
def Sz (n : Nat) : Prop := n ≤ 100000
theorem de_tupZ {ts : TA} (h : DA K B ts ρ μ fun xs μ1 => Sz xs.length ∧ P (.tup xs) μ1) : DE K B (tTup ts) ρ μ P := de_tup h
theorem de_lstZ {ts : TA} (h : DA K B ts ρ μ fun xs μ1 => Sz xs.length ∧ P (.lst xs) μ1) : DE K B (tLst ts) ρ μ P := de_lst h
theorem de_lstOZ {ts : TA} (h : DA K B ts ρ μ fun xs μ1 => Sz xs.length ∧ P (.own μ1.length) (μ1 ++ [.lst xs])) : DE K B (tLst ts) ρ μ P := de_lstO h
/-- two things -/
def Two (ds : List D) (F : D → D → Prop) : Prop := ∃ x y, ds = [x, y] ∧ F x y
theorem two_i {F : D → D → Prop} (h : F x y) : Two [x, y] F := ⟨x, y, rfl, h⟩
theorem ds_parZ {ts : TA} {i j : Nat} {P : DEnds} (h : DA K B ts ρ μ fun ds μ1 => Two ds fun x y => P.nx ((ρ.set i (some x)).set j (some y)) μ1) : DS K B (tPar i j ts) ρ μ P := ds_par h
theorem q_parZ {ts : TA} {i j : Nat} {u : TS} {P : DEnds} (h : DA K B ts ρ μ fun ds μ1 => Two ds fun x y => DS K B u ((ρ.set i (some x)).set j (some y)) μ1 P) : DS K B (tSeq (tPar i j ts) u) ρ μ P := q_par h
theorem rs_anyL {lo hi : Option Int} (hl : Ls μ x ds) (h : P (.lst (cutD ds lo hi)) μ) : RS K (rSlA K) x lo hi μ P := fun G H al v A r Q hQ => .inl (rs_lst hl h G H al v A r Q hQ)
end
theorem cut_nat {xs : List D} {f e : Int} (h0 : 0 ≤ f) (h1 : f ≤ e) (h2 : e ≤ xs.length) : cutD xs (some f) (some e) = (xs.drop f.toNat).take (e - f).toNat := by
  unfold cutD
  have e1 : HT.sIx xs.length 0 (some f) = f.toNat := by
    have := HT.sIx_nat xs.length 0 f.toNat
    rw [show ((f.toNat : Nat) : Int) = f by omega] at this
    rw [this]; omega
  have e2 : HT.sIx xs.length xs.length (some e) = e.toNat := by
    have := HT.sIx_nat xs.length xs.length e.toNat
    rw [show ((e.toNat : Nat) : Int) = e by omega] at this
    rw [this]; omega
  rw [e1, e2]
  congr 1
  omega
end Dl
set_option Elab.async false
set_option linter.all false
set_option maxRecDepth 100000
namespace L2
open PySem PySem.Spec PyProof.Rows
section
variable {X : Cx}
/-- o[i] of a list, by values -/
theorem get_list : PGet X (rIxL X.K) := by
  intro pins s σ H x y v u Q I rx ry h
  obtain ⟨p, xs, i, z, rfl, rfl, hq, he, q⟩ := h
  cases rx
  obtain ⟨t, rfl⟩ := ry
  obtain ⟨its, r, pl, hz⟩ := I.list hq
  obtain ⟨j, h1, h2, h3, h4, h5⟩ := atI_get he
  obtain ⟨w, ew, rw'⟩ := r.get h2
  have hl := r.length
  have hn := line63
  have fin : EP X pins σ Q w s := ⟨z, H, I, rw', q⟩
  by_cases h0 : 0 ≤ i
  · have hj : i.toNat = j := by
      rw [seqIndex_of h0 h5] at h1
      exact Option.some.inj h1
    exact wpAny_getItem_list pl.isList h0 (by omega) (by rw [hj]; simpa using ew) fin
  · have hj : (i + (its.toArray.size : Int)).toNat = j := by
      rw [seqIndex_neg (by omega) h4] at h1
      rw [List.size_toArray, ← hl]
      exact Option.some.inj h1
    exact wpAny_getItem_list_neg pl.isList (by omega) (by rw [List.size_toArray] <;> omega) (by omega) (by rw [hj]; simpa using ew) fin
end
end L2
namespace Dl
open PySem L2 PyProof.Rows
section
variable {K : PySem.W.Frag} {B : Bs} {ρ : En} {μ : Mu} {te to ti : TE} {t u : TS} {x y d : D} {ds : List D} {i j : Int}
theorem ro_ixLL {P : D → Mu → Prop} (hl : Ls μ x ds) (e : atI ds i = some d) (h : P d μ) : RO K (rIxL K) x (.int i) μ P := fun G H al v w A r1 r2 Q hQ => by
  obtain ⟨a, vs, rfl, sq, rs⟩ := hl.get A r1
  cases r2
  obtain ⟨w, hw, rw'⟩ := atI_rps rs e
  exact ⟨a, vs, i, w, rfl, rfl, sq, hw, hQ.now A rw' h⟩
theorem ds_augS {P : DEnds} {tip : TIp} {tset : TSet} {tget : V → V → Hp → VK → Prop} (h : DE K B to ρ μ fun o μ1 => DE K B ti ρ μ1 fun i μ2 => RO K tget o i μ2 fun x μ3 => DE K B te ρ μ3 fun y μ4 => RO K tip x y μ4 fun z μ5 => RSet K tset o i z μ5 fun μ6 => P.nx ρ μ6) : DS K B (tAugS to ti te tget tip tset) ρ μ P := fun σ G H al hB hσ hA De hD =>
  h σ G H al hB hσ hA _ fun vo o μ1 G1 H1 al1 n1 A1 r1 p1 => p1 σ G1 H1 al1 (hB.trans n1) (hσ.nx n1) A1 _ fun vi i μ2 G2 H2 al2 n2 A2 r2 p2 =>
    p2 G2 H2 al2 vo vi A2 (r1.nx n2) r2 _ fun vx x μ3 G3 H3 al3 n3 A3 r3 p3 =>
      p3 σ G3 H3 al3 ((hB.trans n1).trans (n2.trans n3)) (((hσ.nx n1).nx n2).nx n3) A3 _ fun vy y μ4 G4 H4 al4 n4 A4 r4 p4 =>
        p4 G4 H4 al4 vx vy A4 (r3.nx n4) r4 _ fun vz z μ5 G5 H5 al5 n5 A5 r5 p5 =>
          p5 G5 H5 al5 vo vi vz A5 ((((r1.nx n2).nx n3).nx n4).nx n5) (((r2.nx n3).nx n4).nx n5) r5 _ fun μ6 G6 H6 al6 n6 A6 p6 =>
            hD.nx _ _ μ6 G6 H6 al6 (((((n1.trans n2).trans n3).trans n4).trans n5).trans n6) ((((((hσ.nx n1).nx n2).nx n3).nx n4).nx n5).nx n6) A6 p6
theorem q_augS {P : DEnds} {tip : TIp} {tset : TSet} {tget : V → V → Hp → VK → Prop} (h : DE K B to ρ μ fun o μ1 => DE K B ti ρ μ1 fun i μ2 => RO K tget o i μ2 fun x μ3 => DE K B te ρ μ3 fun y μ4 => RO K tip x y μ4 fun z μ5 => RSet K tset o i z μ5 fun μ6 => DS K B u ρ μ6 P) : DS K B (tSeq (tAugS to ti te tget tip tset) u) ρ μ P := ds_seq (ds_augS h)
/-! ### fields, methods -/
/-- a field's data -/
def FldP (K : PySem.W.Frag) (μ : Mu) (x : D) (f : Str) (P : D → Prop) : Prop := ∃ C gs d, (x = .obj C gs ∨ ∃ k, x = .own k ∧ μ[k]? = some (.ins C gs)) ∧ Cls K C ∧ NoAttr K C f ∧ gs.lookup f = some d ∧ P d
theorem de_fldZ {f : Str} {P : D → Mu → Prop} (h : DE K B te ρ μ fun x μ1 => FldP K μ1 x f fun d => P d μ1) : DE K B (tFld K te f) ρ μ P := de_fld h
theorem fp_obj {f : Str} {C : Addr} {gs : List (Str × D)} {P : D → Prop} (c : Cls K C) (n : NoAttr K C f) (l : gs.lookup f = some d) (h : P d) : FldP K μ (.obj C gs) f P := ⟨C, gs, d, .inl rfl, c, n, l, h⟩
theorem fp_own {f : Str} {k : Nat} {C : Addr} {gs : List (Str × D)} {P : D → Prop} (hk : μ[k]? = some (.ins C gs)) (c : Cls K C) (n : NoAttr K C f) (l : gs.lookup f = some d) (h : P d) : FldP K μ (.own k) f P := ⟨C, gs, d, .inr ⟨k, rfl, hk⟩, c, n, l, h⟩
def MethP (μ : Mu) (Cc : Addr) (m : Str) (x : D) (P : Prop) : Prop := ∃ gs, (x = .obj Cc gs ∨ ∃ k, x = .own k ∧ μ[k]? = some (.ins Cc gs)) ∧ gs.lookup m = none ∧ P
theorem de_methZ {Cc : Addr} {m : Str} {C : CT} {E : XK} {PX : PXT} {ts : TA} {P : D → Mu → Prop} (hE : XAg K B PX E) (h : DE K B te ρ μ fun x μ1 => MethP μ1 Cc m x (DA K B ts ρ μ1 fun ds μ2 => C (x :: ds) μ2 P PX)) : DE K B (tMeth Cc m (spD K C) [] E te ts) ρ μ P := de_meth hE h
theorem mp_obj {Cc : Addr} {m : Str} {gs : List (Str × D)} {P : Prop} (l : gs.lookup m = none) (h : P) : MethP μ Cc m (.obj Cc gs) P := ⟨gs, .inl rfl, l, h⟩
theorem mp_own {Cc : Addr} {m : Str} {k : Nat} {gs : List (Str × D)} {P : Prop} (hk : μ[k]? = some (.ins Cc gs)) (l : gs.lookup m = none) (h : P) : MethP μ Cc m (.own k) P := ⟨gs, .inr ⟨k, rfl, hk⟩, l, h⟩
/-- a store into a field -/
def PutP (K : PySem.W.Frag) (μ : Mu) (x y : D) (f : Str) (P : Mu → Prop) : Prop := ∃ k C gs, x = .own k ∧ μ[k]? = some (.ins C gs) ∧ Cls K C ∧ NoAttr K C f ∧ gs.length < 1000 ∧ P (μ.set k (.ins C (putD f y gs)))
theorem ds_fldZ {f : Str} {tb : TE} {P : DEnds} (h : DE K B tb ρ μ fun y μ1 => DE K B te ρ μ1 fun x μ2 => PutP K μ2 x y f fun μ3 => P.nx ρ μ3) : DS K B (sFld K te tb f) ρ μ P := ds_fld h
theorem q_fldZ {f : Str} {tb : TE} {P : DEnds} (h : DE K B tb ρ μ fun y μ1 => DE K B te ρ μ1 fun x μ2 => PutP K μ2 x y f fun μ3 => DS K B u ρ μ3 P) : DS K B (tSeq (sFld K te tb f) u) ρ μ P := q_fld h
theorem pp_own {f : Str} {k : Nat} {C : Addr} {gs : List (Str × D)} {P : Mu → Prop} (hk : μ[k]? = some (.ins C gs)) (c : Cls K C) (n : NoAttr K C f) (l : gs.length < 1000) (h : P (μ.set k (.ins C (putD f y gs)))) : PutP K μ (.own k) y f P := ⟨k, C, gs, rfl, hk, c, n, l, h⟩
/-! ### steps in thought alone: what is known of the store is put otherwise -/
def Gh (K : PySem.W.Frag) (μ μ2 : Mu) : Prop := ∀ G H al, As K G H al μ → ∃ G', As K G' H al μ2 ∧ Nx G H al G' H al
theorem Gh.refl : Gh K μ μ := fun G H al A => ⟨G, A, .refl⟩
theorem Gh.trans {μ1 μ2 : Mu} (h : Gh K μ μ1) (h' : Gh K μ1 μ2) : Gh K μ μ2 := fun G H al A => by
  obtain ⟨G1, A1, n1⟩ := h G H al A
  obtain ⟨G2, A2, n2⟩ := h' G1 H al A1
  exact ⟨G2, A2, n1.trans n2⟩
/-- .. behind a statement -/
theorem ds_ghostN {P : DEnds} (h : DS K B t ρ μ { P with nx := fun ρ1 μ1 => ∃ μ2, Gh K μ1 μ2 ∧ P.nx ρ1 μ2 }) : DS K B t ρ μ P := fun σ G H al hB hσ hA De hD =>
  h σ G H al hB hσ hA De ⟨fun σ' ρ' μ' G' H' al' n' hσ' A' p => by
    obtain ⟨μ2, g, p⟩ := p
    obtain ⟨G1, A1, n1⟩ := g G' H' al' A'
    exact hD.nx σ' ρ' μ2 G1 H' al' (n'.trans n1) (hσ'.nx n1) A1 p, hD.rt, hD.bk, hD.ct⟩
end
theorem rpf_own {K : PySem.W.Frag} {G : Hp} {al : List Addr} {a : Addr} {j : Nat} {d : D} {f : Str} (ha : al[j]? = some a) (r : Rp K G al (.ref a) d) : ∀ {gs : List (Str × D)} {fs : List (Str × V)}, Rpf K G al fs gs → gs.lookup f = some (.own j) → Rpf K G al fs (putD f d gs)
  | [], _, _, e => by simp at e
  | (g, x) :: gs, _, h, e => by
    cases h with
    | @cons _ v vs _ _ r0 t =>
      unfold putD
      rw [List.lookup_cons] at e
      split
      · rename_i hg
        subst hg
        simp at e
        subst e
        cases r0 with
        | own e2 => rw [ha] at e2; cases e2; exact .cons r t
      · rename_i hg
        have hg2 : (f == g) = false := by simp; exact fun e => hg e.symm
        rw [hg2] at e
        exact .cons r0 (rpf_own ha r t e)
/-- a list in a field is frozen -/
theorem gh_fld {K : PySem.W.Frag} {μ : Mu} {k j : Nat} {C : Addr} {gs : List (Str × D)} {f : Str} {ds : List D} (hk : μ[k]? = some (.ins C gs)) (hl : gs.lookup f = some (.own j)) (hj : μ[j]? = some (.lst ds)) : Gh K μ ((μ.set j .dead).set k (.ins C (putD f (.lst ds) gs))) := fun G H al A => by
  obtain ⟨a, ha, ga, vs, hv, rs⟩ := A.get hj
  obtain ⟨A1, n1⟩ := A.freeze ha hv ga
  have hjk : j ≠ k := fun e => by rw [e, hk] at hj; cases hj
  have hk1 : (μ.set j .dead)[k]? = some (.ins C gs) := by rw [List.getElem?_set_ne hjk]; exact hk
  obtain ⟨b, hb, gb, dx, fs, hfs, rf⟩ := A1.get hk1
  have r2 : Rp K (upd G a (.lst vs)) al (.ref a) (.lst ds) := .lst upd_same (rs.nx n1)
  have hup : upd H b (.ins C dx fs) = H := by
    funext z
    by_cases hz : z = b
    · subst hz; rw [upd_same, hfs]
    · rw [upd_ne hz]
  obtain ⟨A2, n2⟩ := A1.put (o := .ins C dx fs) (m' := .ins C (putD f (.lst ds) gs)) hb hk1 (by simp) ⟨gb, dx, fs, upd_same, rpf_own ha r2 rf hl⟩
  rw [hup] at A2 n2
  exact ⟨_, A2, n1.trans n2⟩
theorem atNN {α : Type} {xs : List α} {i : Int} (h0 : 0 ≤ i) (h1 : i < xs.length) : ∃ x, atI xs i = some x ∧ xs[i.toNat]? = some x := by
  have h : i.toNat < xs.length := by omega
  refine ⟨xs[i.toNat], ?_, List.getElem?_eq_getElem h⟩
  have e : ((i.toNat : Nat) : Int) = i := by omega
  have := atI_nat (List.getElem?_eq_getElem h)
  rw [e] at this
  exact this
theorem log2S {m : Int} (h0 : 0 < m) (h : m < 2 ^ 200) : m.natAbs.log2 < 9000 := by
  have h1 : m.natAbs < 2 ^ 200 := by omega
  have : m.natAbs.log2 < 200 := (Nat.log2_lt (by omega)).mpr h1
  omega
end Dl
set_option Elab.async false
set_option linter.all false
set_option maxRecDepth 100000
/-! sets of any number of texts: how many there are -/
namespace L2
open PySem PySem.Spec PyProof.Rows
end L2
set_option Elab.async false
set_option linter.all false
set_option maxRecDepth 100000
namespace L2
open PySem
end L2
namespace Dl
open PySem L2 PyProof.Rows
section
variable {K : PySem.W.Frag} {B : Bs} {ρ : En} {μ : Mu} {P : D → Mu → Prop} {te : TE} {x y : D} {ds : List D} {i j : Int}
/-- is None -/
def IsNP (x : D) (Q : Bool → Prop) : Prop := ∃ b, (b = true ↔ x = .non) ∧ Q b
theorem de_isNZ (h : DE K B te ρ μ fun x μ1 => IsNP x fun b => P (.bl b) μ1) : DE K B (tIsN te) ρ μ P := de_isN h
theorem de_notNZ (h : DE K B te ρ μ fun x μ1 => IsNP x fun b => P (.bl (!b)) μ1) : DE K B (tNotN te) ρ μ P := de_notN h
theorem np_t {Q : Bool → Prop} (h : Q true) : IsNP .non Q := ⟨true, by simp, h⟩
theorem np_f {Q : Bool → Prop} (hx : x ≠ .non) (h : Q false) : IsNP x Q := ⟨false, by simp [hx], h⟩
theorem np_int {Q : Bool → Prop} {i : Int} (h : Q false) : IsNP (.int i) Q := np_f (by simp) h
theorem np_bl {Q : Bool → Prop} {i : Bool} (h : Q false) : IsNP (.bl i) Q := np_f (by simp) h
theorem np_str {Q : Bool → Prop} {i : Str} (h : Q false) : IsNP (.str i) Q := np_f (by simp) h
theorem np_lst {Q : Bool → Prop} {i : List D} (h : Q false) : IsNP (.lst i) Q := np_f (by simp) h
theorem np_tup {Q : Bool → Prop} {i : List D} (h : Q false) : IsNP (.tup i) Q := np_f (by simp) h
theorem np_own {Q : Bool → Prop} {i : Nat} (h : Q false) : IsNP (.own i) Q := np_f (by simp) h
theorem np_obj {Q : Bool → Prop} {C : Addr} {gs : List (Str × D)} (h : Q false) : IsNP (.obj C gs) Q := np_f (by simp) h
end
/-! ### names -/
def letters : List Nat := (List.range 26).map (· + 97)
def nameOk (s : Str) : Prop := 1 ≤ s.length ∧ s.length ≤ 8 ∧ ∀ c ∈ s.cps.toList, c ∈ letters
instance (s : Str) : Decidable (nameOk s) := by unfold nameOk; infer_instance
theorem nameOk.strOk {s : Str} (h : nameOk s) : PyData.strOk s = true := by
  unfold PyData.strOk
  rw [← Array.all_toList, List.all_eq_true]
  intro c hc
  have := h.2.2 c hc
  unfold letters at this
  obtain ⟨i, hi, rfl⟩ := List.mem_map.mp this
  have := List.mem_range.mp hi
  simp; omega
end Dl
set_option Elab.async false
set_option linter.all false
set_option maxRecDepth 100000
/-! range of numbers of any size -/
namespace Dl
open PySem L2 PyProof.Rows
section
variable {X : Cx} {tg : Expr}
def iRng2W (ta : TA) : TI := fun σ H R => ta σ H fun vs H1 => ∃ i j : Int, vs = [.int i, .int j] ∧ R (Itr i (j - i).toNat) H1
end
section
variable {K : PySem.W.Frag} {B : Bs} {ρ : En} {μ : Mu} {ts : TA} {PI' : List D → (Mu → Prop) → Mu → Prop}
theorem di_range2W (h : DA K B ts ρ μ fun xs μ1 => ∃ lo n : Int, xs = [.int lo, .int n] ∧ PI' (rangeD lo (n - lo).toNat) (fun _ => True) μ1) : DI K B (iRng2W ts) ρ μ PI' := fun σ G H al hB hσ hA R hR =>
  h σ G H al hB hσ hA _ fun vs ds μ1 G1 H1 al1 n1 A1 r1 p1 => by
    obtain ⟨lo, n, rfl, p⟩ := p1
    obtain ⟨v, w, rfl, q1, q2⟩ := rps2 r1
    cases q1; cases q2
    exact ⟨lo, n, rfl, hR _ _ _ μ1 G1 H1 al1 n1 A1 itr_ok p⟩
end
end Dl
set_option Elab.async false
set_option linter.all false
set_option maxRecDepth 100000
namespace Dl
open PySem L2 PyProof.Rows
section
variable {K : PySem.W.Frag} {B : Bs} {ρ : En} {μ : Mu} {ts : TA} {u : TS} {x y z : D}
def Three (ds : List D) (F : D → D → D → Prop) : Prop := ∃ x y z, ds = [x, y, z] ∧ F x y z
theorem three_i {F : D → D → D → Prop} (h : F x y z) : Three [x, y, z] F := ⟨x, y, z, rfl, h⟩
theorem ds_par3 {i j l : Nat} {P : DEnds} (h : DA K B ts ρ μ fun ds μ1 => Three ds fun x y z => P.nx (((ρ.set i (some x)).set j (some y)).set l (some z)) μ1) : DS K B (tPar3 i j l ts) ρ μ P := fun σ G H al hB hσ hA De hD =>
  h σ G H al hB hσ hA _ fun vs ds μ1 G1 H1 al1 n1 A1 r1 p1 => by
    obtain ⟨x, y, z, rfl, p⟩ := p1
    obtain ⟨v, ws, rfl, rx, r2⟩ := rps_cons r1
    obtain ⟨w, u, rfl, ry, rz⟩ := rps2 r2
    exact ⟨_, _, _, rfl, hD.nx _ _ μ1 G1 H1 al1 n1 ((((hσ.nx n1).set i rx).set j ry).set l rz) A1 p⟩
theorem q_par3 {i j l : Nat} {P : DEnds} (h : DA K B ts ρ μ fun ds μ1 => Three ds fun x y z => DS K B u (((ρ.set i (some x)).set j (some y)).set l (some z)) μ1 P) : DS K B (tSeq (tPar3 i j l ts) u) ρ μ P := ds_seq (ds_par3 h)
theorem ro_eqNI {i : Int} {P : D → Mu → Prop} (h : P (.bl false) μ) : RO K (rEqD K) .non (.int i) μ P := ro_eqD (n := 0) (m := 0) (.id _) (.id _) rfl rfl (by rw [show eqvD .non (.int i) = false by simp only [eqvD, D.py, PyData.eqv]]; exact h)
end
end Dl
set_option Elab.async false
set_option linter.all false
set_option maxRecDepth 100000
/-! dicts with keys ints and texts -/
namespace Dl
open PySem L2
def keyD : Key → D
  | .inl i => .int i
  | .inr s => .str s
def valD (kvs : List (Key × D)) (k : Key) : Option D := (kvs.find? fun kv => decide (kv.1 = k)).map (·.2)
def putKD (kvs : List (Key × D)) (k : Key) (v : D) : List (Key × D) :=
  if (kvs.any fun kv => decide (kv.1 = k)) = true then kvs.map (fun kv => if kv.1 = k then (kv.1, v) else kv) else kvs ++ [(k, v)]
theorem rp_key {K : PySem.W.Frag} {G : Hp} {al : List Addr} {v : V} {k : Key} (h : Rp K G al v (keyD k)) : v = kV k := by
  cases k with
  | inl i => cases h; rfl
  | inr s => cases h; rfl
section
variable {K : PySem.W.Frag} {G H : Hp} {al : List Addr}
theorem Rpk.val : ∀ {gs : List (Key × D)} {kvs : List (Key × V)}, Rpk K G al kvs gs → ∀ k, (∀ d, valD gs k = some d → ∃ v, valV kvs k = some v ∧ Rp K G al v d) ∧ (valD gs k = none → valV kvs k = none)
  | [], _, h, k => by cases h; exact ⟨fun d e => (by cases e), fun _ => rfl⟩
  | (f, x) :: gs, _, h, k => by
    cases h with
    | @cons f v vs d ds r t =>
      have ih := t.val k
      by_cases e : f = k
      · refine ⟨fun d' e' => ?_, fun e' => ?_⟩
        · simp [valD, List.find?_cons, e] at e'
          subst e'
          exact ⟨v, valV_pos e, r⟩
        · simp [valD, List.find?_cons, e] at e'
      · have e1 : valD ((f, x) :: gs) k = valD gs k := by simp [valD, List.find?_cons, e]
        rw [e1, valV_neg (p := (f, v)) e]
        exact ih
theorem Rpk.any : ∀ {gs : List (Key × D)} {kvs : List (Key × V)}, Rpk K G al kvs gs → ∀ k, (kvs.any fun kv => decide (kv.1 = k)) = (gs.any fun kv => decide (kv.1 = k))
  | [], _, h, k => by cases h; rfl
  | (f, x) :: gs, _, h, k => by
    cases h with
    | cons r t => simp only [List.any_cons, t.any k]
theorem Rpk.append : ∀ {gs fs : List (Key × D)} {kvs ls : List (Key × V)}, Rpk K G al kvs gs → Rpk K G al ls fs → Rpk K G al (kvs ++ ls) (gs ++ fs)
  | [], _, _, _, h, h' => by cases h; exact h'
  | _ :: _, _, _, _, h, h' => by cases h with | cons r t => exact .cons r (t.append h')
theorem Rpk.repl {k : Key} {v : V} {d : D} (r : Rp K G al v d) : ∀ {gs : List (Key × D)} {kvs : List (Key × V)}, Rpk K G al kvs gs → Rpk K G al (kvs.map fun kv => if kv.1 = k then (kv.1, v) else kv) (gs.map fun kv => if kv.1 = k then (kv.1, d) else kv)
  | [], _, h => by cases h; exact .nil
  | (f, x) :: gs, _, h => by
    cases h with
    | cons r' t =>
      simp only [List.map_cons]
      by_cases e : f = k
      · rw [if_pos e, if_pos e]; exact .cons r (t.repl r)
      · rw [if_neg e, if_neg e]; exact .cons r' (t.repl r)
theorem Rpk.put {gs : List (Key × D)} {kvs : List (Key × V)} (h : Rpk K G al kvs gs) (k : Key) {v : V} {d : D} (r : Rp K G al v d) : Rpk K G al (putK kvs k v) (putKD gs k d) := by
  unfold putK putKD
  rw [h.any k]
  split
  · exact h.repl r
  · exact h.append (.cons r .nil)
theorem Rpk.length : ∀ {gs : List (Key × D)} {kvs : List (Key × V)}, Rpk K G al kvs gs → kvs.length = gs.length
  | [], _, h => by cases h; rfl
  | _ :: _, _, h => by cases h with | cons _ t => simp [t.length]
end
/-- a dict as it stands -/
inductive Dt (μ : Mu) : D → List (Key × D) → Prop
  | dct (gs : List (Key × D)) : Dt μ (.dct gs) gs
  | own {k : Nat} {gs : List (Key × D)} (h : μ[k]? = some (.dK gs)) : Dt μ (.own k) gs
theorem Dt.get {K : PySem.W.Frag} {G H : Hp} {al : List Addr} {μ : Mu} {v : V} {d : D} {gs : List (Key × D)} (h : Dt μ d gs) (A : As K G H al μ) (r : Rp K G al v d) : ∃ a kvs, v = .ref a ∧ Rd H a (.dK kvs) ∧ Rpk K G al kvs gs := by
  cases h with
  | dct => cases r with | dct e rs => exact ⟨_, _, rfl, rd_mono A.sub e, rs⟩
  | own hk =>
    obtain ⟨a, ha, ga, vs, hv, rs⟩ := A.get hk
    cases r with
    | own e => rw [ha] at e; cases e; exact ⟨_, vs, rfl, .inl hv, rs⟩
section
variable {K : PySem.W.Frag} {B : Bs} {ρ : En} {μ : Mu} {td ty tv tx : TE} {P : D → Mu → Prop} {u : TS}
def DGetP (μ : Mu) (x y : D) (F : D → Prop) : Prop := ∃ gs k d, Dt μ x gs ∧ y = keyD k ∧ valD gs k = some d ∧ F d
def DInP (μ : Mu) (x y : D) (F : Bool → Prop) : Prop := ∃ gs k, Dt μ x gs ∧ y = keyD k ∧ F (valD gs k).isSome
theorem dgp_s {x d : D} {gs : List (Key × D)} {s : Str} {F : D → Prop} (h : Dt μ x gs) (e : valD gs (.inr s) = some d) (f : F d) : DGetP μ x (.str s) F := ⟨gs, .inr s, d, h, rfl, e, f⟩
theorem dip_i {x : D} {gs : List (Key × D)} {s : Int} {F : Bool → Prop} (h : Dt μ x gs) (f : F (valD gs (.inl s)).isSome) : DInP μ x (.int s) F := ⟨gs, .inl s, h, rfl, f⟩
theorem Rpk.isSome {G : Hp} {al : List Addr} {gs : List (Key × D)} {kvs : List (Key × V)} (h : Rpk K G al kvs gs) (k : Key) : (valV kvs k).isSome = (valD gs k).isSome := by
  cases q : valD gs k with
  | none => rw [(h.val k).2 q]; rfl
  | some d =>
    obtain ⟨v, e, _⟩ := (h.val k).1 d q
    rw [e]; rfl
theorem dget_k {H : Hp} {a : Addr} {kvs : List (Key × V)} {k : Key} (e : Rd H a (.dK kvs)) : DGet H a (kV k) (valV kvs k) := .inl ⟨kvs, k, e, rfl, rfl⟩
theorem de_dget (h : DE K B td ρ μ fun x μ1 => DE K B ty ρ μ1 fun y μ2 => DGetP μ2 x y fun d => P d μ2) : DE K B (tDGet td ty) ρ μ P := fun σ G H al hB hσ hA Q hQ =>
  h σ G H al hB hσ hA _ fun vx x μ1 G1 H1 al1 n1 A1 r1 p1 => p1 σ G1 H1 al1 (hB.trans n1) (hσ.nx n1) A1 _ fun vy y μ2 G2 H2 al2 n2 A2 r2 p2 => by
    obtain ⟨gs, k, d, dt, rfl, e, p⟩ := p2
    obtain ⟨a, kvs, rfl, ha, rk⟩ := dt.get A2 (r1.nx n2)
    obtain rfl := rp_key r2
    obtain ⟨v, ev, rv⟩ := (rk.val k).1 d e
    exact ⟨a, v, rfl, by rw [← ev]; exact dget_k ha, hQ v d μ2 G2 H2 al2 (n1.trans n2) A2 rv p⟩
theorem de_din (h : DE K B ty ρ μ fun y μ1 => DE K B td ρ μ1 fun x μ2 => DInP μ2 x y fun b => P (.bl b) μ2) : DE K B (tDIn ty td) ρ μ P := fun σ G H al hB hσ hA Q hQ =>
  h σ G H al hB hσ hA _ fun vy y μ1 G1 H1 al1 n1 A1 r1 p1 => p1 σ G1 H1 al1 (hB.trans n1) (hσ.nx n1) A1 _ fun vx x μ2 G2 H2 al2 n2 A2 r2 p2 => by
    obtain ⟨gs, k, dt, rfl, p⟩ := p2
    obtain ⟨a, kvs, rfl, ha, rk⟩ := dt.get A2 r2
    obtain rfl := rp_key r1
    refine ⟨a, _, rfl, dget_k ha, ?_⟩
    rw [rk.isSome k]
    exact hQ _ _ μ2 G2 H2 al2 (n1.trans n2) A2 (.bl _) p
theorem de_dnin (h : DE K B ty ρ μ fun y μ1 => DE K B td ρ μ1 fun x μ2 => DInP μ2 x y fun b => P (.bl (!b)) μ2) : DE K B (tDNotIn ty td) ρ μ P := fun σ G H al hB hσ hA Q hQ =>
  h σ G H al hB hσ hA _ fun vy y μ1 G1 H1 al1 n1 A1 r1 p1 => p1 σ G1 H1 al1 (hB.trans n1) (hσ.nx n1) A1 _ fun vx x μ2 G2 H2 al2 n2 A2 r2 p2 => by
    obtain ⟨gs, k, dt, rfl, p⟩ := p2
    obtain ⟨a, kvs, rfl, ha, rk⟩ := dt.get A2 r2
    obtain rfl := rp_key r1
    refine ⟨a, _, rfl, dget_k ha, ?_⟩
    rw [rk.isSome k]
    exact hQ _ _ μ2 G2 H2 al2 (n1.trans n2) A2 (.bl _) p
/-- {}: to be changed; frozen at once -/
theorem de_dnew (h : P (.own μ.length) (μ ++ [.dK []])) : DE K B tDNewK ρ μ P := fun σ G H al hB hσ hA Q hQ p hp => by
  obtain ⟨A2, n2⟩ := hA.own (o := .dK []) (m := .dK []) hp ⟨hA.sub.free hp, [], upd_same, .nil⟩
  exact hQ _ _ _ _ _ _ n2 A2 (.own (by rw [← hA.len]; simp)) h
def DPutP (μ : Mu) (x y z : D) (F : Mu → Prop) : Prop := ∃ j gs k, x = .own j ∧ μ[j]? = some (.dK gs) ∧ y = keyD k ∧ gs.length < 100000 ∧ F (μ.set j (.dK (putKD gs k z)))
theorem dpp_i {j : Nat} {z : D} {gs : List (Key × D)} {s : Int} {F : Mu → Prop} (h : μ[j]? = some (.dK gs)) (hl : gs.length < 100000) (f : F (μ.set j (.dK (putKD gs (.inl s) z)))) : DPutP μ (.own j) (.int s) z F := ⟨j, gs, .inl s, rfl, h, rfl, hl, f⟩
theorem ds_dput {P : DEnds} (h : DE K B tv ρ μ fun z μ1 => DE K B td ρ μ1 fun x μ2 => DE K B ty ρ μ2 fun y μ3 => DPutP μ3 x y z fun μ4 => P.nx ρ μ4) : DS K B (sDPut td ty tv) ρ μ P := fun σ G H al hB hσ hA De hD =>
  h σ G H al hB hσ hA _ fun vz z μ1 G1 H1 al1 n1 A1 r1 p1 => p1 σ G1 H1 al1 (hB.trans n1) (hσ.nx n1) A1 _ fun vx x μ2 G2 H2 al2 n2 A2 r2 p2 =>
    p2 σ G2 H2 al2 ((hB.trans n1).trans n2) ((hσ.nx n1).nx n2) A2 _ fun vy y μ3 G3 H3 al3 n3 A3 r3 p3 => by
    obtain ⟨j, gs, k, rfl, hk, rfl, hl, p⟩ := p3
    obtain ⟨a, ha, ga, kvs, hv, rk⟩ := A3.get hk
    obtain rfl := rp_key r3
    have r2' := r2.nx n3
    cases r2' with
    | own e =>
      rw [ha] at e
      cases e
      obtain ⟨A4, n4⟩ := A3.put (o := .dK (putK kvs k vz)) (m' := .dK (putKD gs k z)) ha hk (by simp) ⟨ga, _, upd_same, rk.put k ((r1.nx n2).nx n3)⟩
      exact ⟨_, _, rfl, DPut.k hv (by rw [rk.length]; exact Nat.lt_of_lt_of_le hl (by decide)), hD.nx _ _ _ _ _ _ (((n1.trans n2).trans n3).trans n4) ((((hσ.nx n1).nx n2).nx n3).nx n4) A4 p⟩
/-! ### displays -/
/-! ### freezing -/
end
end Dl
set_option Elab.async false
set_option linter.all false
set_option maxRecDepth 100000
/-! min(xs, default=d) -/
namespace Dl
open PySem L2 PyProof.Rows
section
variable {prog : Program} {w : World} {A : Around} {E : Value → Shared → Prop} {s : Shared} {l : Addr} {its : List Value} {ns : List Int} {Q : Value → Shared → Prop} {d : Value}
theorem min_dflt (hh : A.handled = none) (hl : s.heap.IsList l its.toArray) (hi : IntsAre its ns)
    (h0 : ns = [] → ∀ h' tk, (∀ b o, s.heap.get? b = some o → h'.get? b = some o) → Q d { s with heap := h', toks := tk })
    (h : ∀ h' tk M t', (∀ b o, s.heap.get? b = some o → h'.get? b = some o) → M ∈ ns → (∀ a, a ∈ ns → M ≤ a) → Q (.int M t') { s with heap := h', toks := tk }) : wpAny (model prog w) A (call (.builtin "min") [.ref l] [(Str.ofString "default", d)]) Q E s := by
  obtain ⟨xs, e⟩ := hi.allInts.items
  have hn : numsOf (intItems xs).toList = ns := by rw [← e]; exact hi.numsOf
  rw [nums_intItems] at hn
  subst hn
  rw [e] at hl
  have hin : (intItems xs).size = xs.size := by simp [intItems]
  refine call_min_walkD (iter_intList hl fun s₂ e st hfp hlI => ?_)
  subst e
  refine ⟨_, _, _, _, _, _, _, s.heap, (fun i j => decide (numAt xs i < numAt xs j)), rfl, (Walks.list (A := A.in1) hh _ l hlI (intItems xs)).toS, st, hfp, fun b o e hm => ?_, fun b o e => Heap.get?_push_of_some _ e, fun hz s' hm => ?_, fun hz => ⟨fun i j vi vj s Q E hk hi hj hQ => CmpOf.ints_lt (numAt xs) (fun _ _ => intItems_at) i j vi vj s Q E hi hj hQ, fun v s' hP hm => ?_⟩⟩
  · have e1 := List.mem_singleton.mp hm
    exact absurd (e1 ▸ Heap.lt_size e) (Nat.lt_irrefl _)
  · obtain ⟨h', g', d', tk', os'⟩ := s'
    have eg : g' = s.gens := hm.gens
    have ed : d' = s.drawn := hm.drawn
    have eo : os' = s.os := hm.os
    subst eg; subst ed; subst eo
    refine h0 ?_ h' tk' (old_kept hm.heap)
    have : xs.size = 0 := by rw [← hin]; exact hz
    have : xs = #[] := Array.eq_empty_of_size_eq_zero this
    subst this
    rfl
  · obtain ⟨h', g', d', tk', os'⟩ := s'
    have eg : g' = s.gens := hm.gens
    have ed : d' = s.drawn := hm.drawn
    have eo : os' = s.os := hm.os
    subst eg; subst ed; subst eo
    have hsz : 0 < xs.size := by rw [← hin]; exact hz
    rw [hin] at hP
    obtain ⟨t, rfl⟩ := intItems_at hP
    obtain ⟨h1, h2⟩ := argBest_lt (numAt xs) (xs.size - 1)
    refine h h' tk' _ t (old_kept hm.heap) ?_ fun a ha => ?_
    · rw [numAt_eq]; exact PySem.getD_mem (by rw [List.length_map, Array.length_toList]; omega)
    · obtain ⟨j, hj, rfl⟩ := mem_getD ha
      rw [List.length_map, Array.length_toList] at hj
      rw [← numAt_eq]; exact h2 j (by omega)
end
section
variable {X : Cx}
def rMinD (K : PySem.W.Frag) : List V → List V → Hp → VK → Prop := fun vs zs H Q => ∃ (a : Addr) (ns : List Int) (z : V), vs = [V.ref a] ∧ zs = [z] ∧ SqL K H a (ns.map V.int) ∧ (ns = [] → Q z H) ∧ ∀ m, m ∈ ns → (∀ y, y ∈ ns → m ≤ y) → Q (.int m) H
theorem cr_minD (hc : X.calm = true) : CallRK X (.builtin "min") [Str.ofString "default"] (rMinD X.K) := by
  intro pins s σ H vs zs us ws Q I r rz h
  obtain ⟨a, ns, z, rfl, rfl, hs, q0, q⟩ := h
  obtain ⟨its, rv, hl, _⟩ := I.list hs
  obtain rfl := Vals.ref1 r
  obtain ⟨w1, rfl, e1⟩ := vals1 rz
  exact min_dflt (I.ok.hd hc) hl.isList rv.ints (fun e h' tk hk => ⟨z, H, I.kept hk, e1, q0 e⟩) fun h' tk m t' hk h1 h2 => ⟨.int _, H, I.kept hk, ⟨_, rfl⟩, q m h1 h2⟩
end
section
variable {K : PySem.W.Frag} {B : Bs} {ρ : En} {μ : Mu} {ts tk : TA} {P : D → Mu → Prop}
/-- min(xs, default=z) -/
theorem de_minD (h : DA K B ts ρ μ fun xs μ1 => DA K B tk ρ μ1 fun zs μ2 => ∃ x z, ∃ ns : List Int, xs = [x] ∧ zs = [z] ∧ Ls μ2 x (ns.map D.int) ∧ (ns = [] → P z μ2) ∧ ∀ m, m ∈ ns → (∀ y, y ∈ ns → m ≤ y) → P (.int m) μ2) : DE K B (tCKw (rMinD K) ts tk) ρ μ P := fun σ G H al hB hσ hA Q hQ =>
  h σ G H al hB hσ hA _ fun vs xs μ1 G1 H1 al1 n1 A1 r1 p1 => p1 σ G1 H1 al1 (hB.trans n1) (hσ.nx n1) A1 _ fun ws zs μ2 G2 H2 al2 n2 A2 r2 p2 => by
    obtain ⟨x, z, ns, rfl, rfl, ls, p0, p⟩ := p2
    obtain ⟨v, rfl, rv⟩ := rps1 r1
    obtain ⟨y, rfl, ry⟩ := rps1 r2
    obtain ⟨a, us, rfl, sq, rs⟩ := ls.get A2 (rv.nx n2)
    have e := rs.ints
    subst e
    exact ⟨a, ns, y, rfl, rfl, sq, fun e => hQ _ _ μ2 G2 H2 al2 (n1.trans n2) A2 ry (p0 e), fun m h1 h2 => hQ _ _ μ2 G2 H2 al2 (n1.trans n2) A2 (.int m) (p m h1 h2)⟩
end
end Dl
set_option Elab.async false
set_option linter.all false
set_option maxRecDepth 100000
namespace Dl
open PySem L2
theorem valD_snoc (k j : Key) (y : D) : ∀ kvs : List (Key × D), valD kvs k = none → valD (kvs ++ [(k, y)]) j = if j = k then some y else valD kvs j
  | [], _ => by
    by_cases e : j = k
    · subst e; simp [valD]
    · simp [valD, e, Ne.symm e]
  | (f, x) :: r, h => by
    by_cases ef : f = k
    · simp [valD, List.find?_cons, ef] at h
    · have h' : valD r k = none := by simpa [valD, List.find?_cons, ef] using h
      have ih := valD_snoc k j y r h'
      by_cases e : f = j
      · subst e
        simp [valD, List.find?_cons, ef]
      · have e1 : valD ((f, x) :: r ++ [(k, y)]) j = valD (r ++ [(k, y)]) j := by simp [valD, List.find?_cons, e]
        have e2 : valD ((f, x) :: r) j = valD r j := by simp [valD, List.find?_cons, e]
        rw [e1, e2, ih]
theorem valD_map (k j : Key) (y : D) : ∀ kvs : List (Key × D), valD (kvs.map fun kv => if kv.1 = k then (kv.1, y) else kv) j = (valD kvs j).map fun x => if j = k then y else x
  | [] => rfl
  | (f, x) :: r => by
    have ih := valD_map k j y r
    simp only [List.map_cons]
    by_cases ef : f = k
    · rw [if_pos ef]
      by_cases e : f = j
      · subst e; simp [valD, List.find?_cons, ef]
      · have e1 : ∀ z (l : List (Key × D)), valD ((f, z) :: l) j = valD l j := fun z l => by simp [valD, List.find?_cons, e]
        rw [e1, e1, ih]
    · rw [if_neg ef]
      by_cases e : f = j
      · subst e; simp [valD, List.find?_cons, ef]
      · have e1 : ∀ z (l : List (Key × D)), valD ((f, z) :: l) j = valD l j := fun z l => by simp [valD, List.find?_cons, e]
        rw [e1, e1, ih]
theorem valD_any (k : Key) : ∀ kvs : List (Key × D), (kvs.any fun kv => decide (kv.1 = k)) = (valD kvs k).isSome
  | [] => rfl
  | (f, x) :: r => by
    by_cases e : f = k
    · simp [valD, List.find?_cons, e]
    · have ih := valD_any k r
      simp only [List.any_cons, ih]
      simp [valD, List.find?_cons, e]
theorem valD_put (kvs : List (Key × D)) (k j : Key) (y : D) : valD (putKD kvs k y) j = if j = k then some y else valD kvs j := by
  unfold putKD
  rw [valD_any]
  cases q : valD kvs k with
  | none => simp only [Option.isSome_none, Bool.false_eq_true, if_false]; exact valD_snoc k j y kvs q
  | some z =>
    simp only [Option.isSome_some, if_true]
    rw [valD_map]
    by_cases e : j = k
    · subst e; rw [q]; simp
    · simp [e]
theorem putKD_len (kvs : List (Key × D)) (k : Key) (y : D) : (putKD kvs k y).length ≤ kvs.length + 1 := by
  unfold putKD
  split <;> simp
end Dl
set_option Elab.async false
set_option linter.all false
set_option maxRecDepth 100000
namespace Dl
open PySem L2
section
variable {K : PySem.W.Frag} {B : Bs} {ρ : En} {μ : Mu} {te : TE} {tt : TT} {wi : TI} {g : TG} {vs : List Nat} {P : D → Mu → Prop}
/-- .. or not frozen: it may still change -/
theorem de_lcF (hg : GW g vs) (h : DI K B wi ρ μ fun ds S μ1 => ds.length ≤ 100000 ∧ ∃ Iv : Nat → List D → Mu → Prop, Iv 0 [] μ1 ∧ (∀ i acc μ', i ≤ ds.length → Iv i acc μ' → S μ') ∧
      (∀ i d acc μ', ds[i]? = some d → Iv i acc μ' → DG K B g d (wipeD ρ vs) μ' fun ρ2 μ2 => DT K B tt ρ2 μ2 fun b μ3 => (b = true → DE K B te ρ2 μ3 fun y μ4 => Iv (i + 1) (acc ++ [y]) μ4) ∧ (b = false → Iv (i + 1) acc μ3)) ∧
      (∀ acc μ', Iv ds.length acc μ' → P (.lst acc) μ' ∨ P (.own μ'.length) (μ' ++ [.lst acc]))) : DE K B (tLc wi g tt te vs) ρ μ P := fun σ G H al hB hσ hA Q hQ =>
  h σ G H al hB hσ hA _ fun J ds S μ1 G1 H1 al1 n1 A1 ok p1 => by
    obtain ⟨hlen, Iv, h0, hS, hs, hd⟩ := p1
    intro Dl hDl
    have nDl : Dl ∉ al1 := fun m => A1.here Dl m hDl
    have gDl : G1 Dl = none := A1.sub.free hDl
    -- a store to the list that is made
    have store : ∀ {G' H' al' μ' ac}, Nx G1 H1 al1 G' H' al' → As K G' H' al' μ' → G' Dl = none → Dl ∉ al' → As K G' (upd H' Dl (.lst ac)) al' μ' ∧ Nx G1 H1 al1 G' (upd H' Dl (.lst ac)) al' := by
      intro G' H' al' μ' ac n A g' nal
      refine ⟨⟨fun b u e => by rw [upd_ne (ne_of_none e g')]; exact A.sub _ _ e, A.nd, A.len, fun a m => ?_, fun k a o e1 e2 => ?_⟩, ⟨n.g, n.p, fun a u h m => ?_, n.out, n.new⟩⟩
      · have z : a ≠ Dl := fun z => nal (z ▸ m)
        rw [upd_ne z]; exact A.here a m
      · have z : a ≠ Dl := fun z => nal (z ▸ List.mem_of_getElem? e1)
        exact OkO.mono (Same.refl _) (Pre.refl _) (fun _ g => g) (by rw [upd_ne z]) (A.ok k a o e1 e2)
      · rw [upd_ne (ne_of_none h hDl)]; exact n.keep a u h m
    -- Dl stays where it is through a step
    have stay : ∀ {G' H' al' G'' H'' al'' u}, Nx G' H' al' G'' H'' al'' → H' Dl = some (.lst u) → G' Dl = none → Dl ∉ al' → H'' Dl = some (.lst u) ∧ G'' Dl = none ∧ Dl ∉ al'' := by
      intro G' H' al' G'' H'' al'' u n h g' nal
      refine ⟨n.keep Dl (.lst u) h nal, n.out Dl (by rw [h]; simp) (fun vs e => by rw [h] at e; cases e) nal g', fun m => ?_⟩
      rcases n.new Dl m with z | z
      · exact nal z
      · rw [h] at z; cases z
    obtain ⟨A0, N0⟩ := store (ac := []) .refl A1 gDl nDl
    refine ⟨fun i m H' => m = ds.length - i ∧ i ≤ ds.length ∧ ∃ G' al' μ' acc vacc, Nx G1 H1 al1 G' H' al' ∧ As K G' H' al' μ' ∧ H' Dl = some (.lst vacc) ∧ Rps K G' al' vacc acc ∧ G' Dl = none ∧ Dl ∉ al' ∧ acc.length ≤ i ∧ Iv i acc μ',
      ⟨ds.length, by simp, Nat.zero_le _, G1, al1, μ1, [], [], N0, A0, upd_same, .nil, gDl, nDl, Nat.le_refl _, h0⟩, ?_⟩
    rintro i m H' ⟨rfl, hi, G', al', μ', acc, vacc, n', A', hv, rv, g', nal, hacc, iv⟩
    obtain ⟨go, stop, yld⟩ := ok G' H' al' μ' n' A' (hS i acc μ' hi iv)
    by_cases hlt : i < ds.length
    · refine .inr ⟨go i hlt, fun H2 => ∃ G2 al2 μ2 acc vacc, Nx G1 H1 al1 G2 H2 al2 ∧ As K G2 H2 al2 μ2 ∧ H2 Dl = some (.lst vacc) ∧ Rps K G2 al2 vacc acc ∧ G2 Dl = none ∧ Dl ∉ al2 ∧ acc.length ≤ i + 1 ∧ Iv (i + 1) acc μ2, fun H2 q => ⟨ds.length - (i + 1), by omega, rfl, hlt, q⟩, fun x H3 y => ?_⟩
      obtain ⟨G3, n3, A3, r3⟩ := yld i x H3 y _ (List.getElem?_eq_getElem hlt)
      obtain ⟨hv3, g3, nal3⟩ := stay n3 hv g' nal
      have nn3 := n'.trans n3
      have hw : RpS K G3 al' (wipe σ vs) (wipeD ρ vs) := wipe_rps ((hσ.nx n1).nx nn3) vs
      have q := hs i _ acc μ' (List.getElem?_eq_getElem hlt) iv (wipe σ vs) G3 H3 al' x (((hB.trans n1).trans n').trans n3) hw A3 r3
      have q2 := hg x (wipe σ vs) H3 _ (q (fun σ2 H2 => tt σ2 H2 fun b H3 => if b = true then te σ2 H3 fun y H4 => ∃ acc, H4 Dl = some (.lst acc) ∧ acc.length < sizeLine ∧ (∃ G2 al2 μ2 acc' vacc, Nx G1 H1 al1 G2 (upd H4 Dl (.lst (acc ++ [y]))) al2 ∧ As K G2 (upd H4 Dl (.lst (acc ++ [y]))) al2 μ2 ∧ (upd H4 Dl (.lst (acc ++ [y]))) Dl = some (.lst vacc) ∧ Rps K G2 al2 vacc acc' ∧ G2 Dl = none ∧ Dl ∉ al2 ∧ acc'.length ≤ i + 1 ∧ Iv (i + 1) acc' μ2)
          else (∃ G2 al2 μ2 acc' vacc, Nx G1 H1 al1 G2 H3 al2 ∧ As K G2 H3 al2 μ2 ∧ H3 Dl = some (.lst vacc) ∧ Rps K G2 al2 vacc acc' ∧ G2 Dl = none ∧ Dl ∉ al2 ∧ acc'.length ≤ i + 1 ∧ Iv (i + 1) acc' μ2)) fun σ4 ρ4 μ4 G4 H4 al4 n4 hσ4 A4 p4 => ?_)
      · rw [wipe_wipe σ vs vs fun _ h => h] at q2
        exact q2
      · obtain ⟨hv4, g4, nal4⟩ := stay n4 hv3 g3 nal3
        have nn4 := nn3.trans n4
        refine p4 σ4 G4 H4 al4 ((hB.trans n1).trans nn4) hσ4 A4 _ fun b μ5 G5 H5 al5 n5 A5 p5 => ?_
        obtain ⟨hv5, g5, nal5⟩ := stay n5 hv4 g4 nal4
        have nn5 := nn4.trans n5
        cases b with
        | false =>
          rw [if_neg (by simp)]
          exact ⟨G5, al5, μ5, acc, vacc, nn5, A5, hv5, (((rv.nx n3).nx n4).nx n5), g5, nal5, Nat.le_succ_of_le hacc, p5.2 rfl⟩
        | true =>
          rw [if_pos rfl]
          refine p5.1 rfl σ4 G5 H5 al5 ((hB.trans n1).trans nn5) (hσ4.nx n5) A5 _ fun yv y μ6 G6 H6 al6 n6 A6 r6 p6 => ?_
          obtain ⟨hv6, g6, nal6⟩ := stay n6 hv5 g5 nal5
          have rv6 := (((rv.nx n3).nx n4).nx n5).nx n6
          obtain ⟨A7, n7⟩ := store (ac := vacc ++ [yv]) (nn5.trans n6) A6 g6 nal6
          refine ⟨vacc, hv6, ?_, G6, al6, μ6, acc ++ [y], vacc ++ [yv], n7, A7, upd_same, rv6.append (.cons r6 .nil), g6, nal6, by simp; omega, p6⟩
          rw [rv6.length]
          exact Nat.lt_of_lt_of_le (Nat.lt_of_le_of_lt hacc (Nat.lt_of_lt_of_le hlt hlen)) (by decide)
    · have e : i = ds.length := by omega
      subst e
      refine .inl ⟨stop _ (Nat.le_refl _), ?_⟩
      rcases hd acc μ' iv with pf | po
      rotate_left
      · have A7 : As K G' H' (al' ++ [Dl]) (μ' ++ [.lst acc]) := by
          refine ⟨A'.sub, ?_, by simp [A'.len], fun a m => ?_, fun k a o e1 e2 => ?_⟩
          · rw [List.nodup_append]
            exact ⟨A'.nd, by simp, fun a ha b hb => by
              obtain rfl := List.mem_singleton.mp hb
              exact fun e => nal (e ▸ ha)⟩
          · rcases List.mem_append.mp m with c | c
            · exact A'.here a c
            · obtain rfl := List.mem_singleton.mp c
              rw [hv]; simp
          · rcases Nat.lt_or_ge k al'.length with c | c
            · rw [List.getElem?_append_left c] at e1
              rw [List.getElem?_append_left (by rw [← A'.len]; exact c)] at e2
              exact OkO.mono (Same.refl _) ⟨[Dl], rfl⟩ (fun _ g => g) rfl (A'.ok k a o e1 e2)
            · rw [List.getElem?_append_right c] at e1
              rw [List.getElem?_append_right (by rw [← A'.len]; exact c)] at e2
              have hk : k - al'.length = 0 := by
                have := (List.getElem?_eq_some_iff.mp e1).1
                simp at this; omega
              rw [hk] at e1
              rw [← A'.len, hk] at e2
              simp at e1 e2
              subst e1; subst e2
              exact ⟨g', vacc, hv, rv.mono (Same.refl _) ⟨[Dl], rfl⟩⟩
        have n7 : Nx G1 H1 al1 G' H' (al' ++ [Dl]) := ⟨n'.g, n'.p.trans ⟨[Dl], rfl⟩, n'.keep, n'.out, fun a m => by
          rcases List.mem_append.mp m with c | c
          · exact n'.new a c
          · obtain rfl := List.mem_singleton.mp c
            exact .inr hDl⟩
        exact hQ _ _ _ _ _ _ (n1.trans n7) A7 (.own (by rw [← A'.len]; simp)) po
      have s1 : Same G' (upd G' Dl (.lst vacc)) := fun b u e => by rw [upd_ne (ne_of_none e g')]; exact e
      have A7 : As K (upd G' Dl (.lst vacc)) H' al' μ' := by
        refine ⟨fun b u e => ?_, A'.nd, A'.len, A'.here, fun k a o e1 e2 => ?_⟩
        · by_cases hb : b = Dl
          · subst hb; rw [upd_same] at e; rw [← e]; exact hv
          · rw [upd_ne hb] at e; exact A'.sub _ _ e
        · have z : a ≠ Dl := fun z => nal (z ▸ List.mem_of_getElem? e1)
          exact OkO.mono s1 (Pre.refl _) (fun _ g => by rw [upd_ne z]; exact g) rfl (A'.ok k a o e1 e2)
      have n7 : Nx G1 H1 al1 (upd G' Dl (.lst vacc)) H' al' := ⟨n'.g.trans s1, n'.p, n'.keep, fun a h t m g => by
        have z : a ≠ Dl := fun z => h (by rw [z]; exact hDl)
        rw [upd_ne z]; exact n'.out a h t m g, n'.new⟩
      exact hQ _ _ _ _ _ _ (n1.trans n7) A7 (.lst upd_same (rv.mono s1 (Pre.refl _))) pf
end
def rAbs : List V → Hp → VK → Prop := fun xs H Q => ∃ i, xs = [.int i] ∧ Q (.int (if i < 0 then -i else i)) H
section
variable {K : PySem.W.Frag} {μ : Mu} {P : D → Mu → Prop} {i : Int} {d : D} {ds : List D}
theorem rc_abs (h : P (.int (i.natAbs : Int)) μ) : RC K rAbs [.int i] μ P := fun G H al vs A r Q hQ => by
  obtain ⟨v, rfl, r1⟩ := rps1 r
  cases r1
  refine ⟨i, rfl, ?_⟩
  rw [show (if i < 0 then -i else i) = (i.natAbs : Int) by split <;> omega]
  exact hQ.now A (.int _) h
end
end Dl
set_option Elab.async false
set_option linter.all false
set_option maxRecDepth 100000
/-! a def called through its class, C.m(..); a head with more facts -/
namespace Dl
open PySem L2 PyProof.Rows
/-! ### the head, with more facts -/
abbrev AlX : Type := He.AlD × Bool
def exAll (ex : List (PySem.W.Frag → Bool)) (K : PySem.W.Frag) : Bool := ex.all fun e => e K
end Dl
set_option Elab.async false
set_option linter.all false
set_option maxRecDepth 100000
/-! list(range(a, b)) of numbers of any size -/
set_option Elab.async false
set_option linter.all false
set_option maxRecDepth 100000
/-! int of a truth value; isinstance of own classes: what of the head it wants -/
set_option Elab.async false
set_option linter.all false
set_option maxRecDepth 100000
/-! sorted(set(xs)) of a list of ints -/
set_option Elab.async false
set_option linter.all false
set_option maxRecDepth 100000
/-! list.count of texts; slices stored; dict(pairs), d.get(k, x) -/
set_option Elab.async false
set_option linter.all false
set_option Elab.async false
set_option linter.all false
set_option maxRecDepth 100000
set_option maxHeartbeats 2000000
/-! exceptions that are caught and kept as values -/
namespace PySem.W
open PySem PySem.Spec PySem.Calls PyProof.Rows
end PySem.W
set_option Elab.async false
set_option linter.all false
set_option maxRecDepth 100000
set_option maxHeartbeats 2000000
/-! exceptions over data: raised with fields, caught, looked at -/
set_option Elab.async false
set_option linter.all false
set_option maxRecDepth 100000
/-! small rules: exceptions and None, == of texts -/
set_option Elab.async false
set_option linter.all false
set_option maxRecDepth 100000
/-! range downwards -/
set_option Elab.async false
set_option linter.all false
set_option maxRecDepth 100000
/-! tuple(x), a number in a tuple, list(dict) -/
set_option Elab.async false
set_option linter.all false
set_option maxRecDepth 100000
set_option maxHeartbeats 2000000
/-! lambdas handed to a def -/
set_option Elab.async false
set_option linter.all false
set_option maxRecDepth 100000
set_option maxHeartbeats 2000000
/-! lambdas over data; the head and the end with tables -/
set_option Elab.async false
set_option linter.all false
set_option maxRecDepth 100000
/-! str(i) -/
set_option Elab.async false
set_option linter.all false
set_option maxRecDepth 100000
/-! x in l, items of any depth -/
set_option Elab.async false
set_option linter.all false
set_option maxRecDepth 100000
/-! the head's facts over a told list of objects -/
namespace Dl
open PySem L2 PyProof.Rows
def obsLG (as : List Addr) (fa : List He.Fa) (fn : List He.DefD) (ex : List (PySem.W.Frag → Bool)) (g : Addr → Option Obj) : AlX := (He.obsD fa fn (He.frG g as), exAll ex (He.frG g as))
def hookL (as : List Addr) (fa : List He.Fa) (fn : List He.DefD) (ex : List (PySem.W.Frag → Bool)) : PySem.W.Hook where
  α := AlX
  obs := fun s => obsLG as fa fn ex s.heap.get?
  val := fun _ => (He.valD fn, true)
  says := fun _ h => ∃ K : PySem.W.Frag, K.In h ∧ He.SaysD fa fn K ∧ exAll ex K = true
  of := fun _ _ e => ⟨_, He.frG_in, congrArg Prod.fst e, congrArg Prod.snd e⟩
  keeps := fun _ _ _ ⟨K, hK, c⟩ k => ⟨K, PySem.W.Frag.In.keeps hK k, c⟩
theorem obsLG_eq {as : List Addr} {fa : List He.Fa} {fn : List He.DefD} {ex : List (PySem.W.Frag → Bool)} {g : Addr → Option Obj} {s : Shared} (h : ∀ a, g a = s.heap.get? a) : obsLG as fa fn ex g = (hookL as fa fn ex).obs s := by
  have e : g = s.heap.get? := funext h
  rw [e] <;> rfl
/-! with tables -/
/-! ### the run, looked at thrice -/
/-! ### a slice as a target; room -/
end Dl
set_option Elab.async false
set_option linter.all false
set_option maxRecDepth 100000
/-! a dict that is walked stands locked for that time -/
namespace Dl
open PySem L2
/-- G2 is G1 but for locks of dicts -/
def Lk (G G' : Hp) : Prop := ∀ b o, G b = some o → G' b = some o ∨ ((∃ kvs, o = .dK kvs ∨ ∃ o', o = .frz o' (.dK kvs)) ∧ ∀ kvs, Rd G b (.dK kvs) → Rd G' b (.dK kvs))
section
variable {K : PySem.W.Frag} {G G' : Hp} {al al' : List Addr}
theorem Lk.plain (s : Lk G G') {b : Addr} {o : HO} (h : G b = some o) (n1 : ∀ kvs, o ≠ .dK kvs) (n2 : ∀ o' kvs, o ≠ .frz o' (.dK kvs)) : G' b = some o := by
  rcases s b o h with z | ⟨⟨kvs, z | ⟨o', z⟩⟩, _⟩
  · exact z
  · exact absurd z (n1 kvs)
  · exact absurd z (n2 o' kvs)
end
end Dl
set_option Elab.async false
set_option linter.all false
set_option maxRecDepth 100000
/-! Dl37: == and != of things of own classes, any answer -/
namespace Dl
open PySem L2 PyProof.Rows
section
variable {K : PySem.W.Frag} {μ : Mu} {P : D → Mu → Prop} {x y : D} {C : Addr} {gs : List (Str × D)} {tb : Value} {Ct : CT} {E : XK}
/-- a thing of the class at C -/
def InO (μ : Mu) (C : Addr) (x : D) : Prop := ∃ gs, x = .obj C gs ∨ ∃ k, x = .own k ∧ μ[k]? = some (.ins C gs)
theorem InO.get {G H : Hp} {al : List Addr} {v : V} (h : InO μ C x) (A : As K G H al μ) (r : Rp K G al v x) : ∃ a dx fs, v = .ref a ∧ H a = some (.ins C dx fs) := by
  obtain ⟨gs, rfl | ⟨k, rfl, hk⟩⟩ := h
  · cases r with
    | obj e rf => exact ⟨_, _, _, rfl, A.sub _ _ e⟩
  · obtain ⟨a, ha, ok⟩ := A.get hk
    cases r with
    | own e =>
      rw [ha] at e
      cases e
      obtain ⟨ga, dx, fs, hv, rf⟩ := ok
      exact ⟨_, _, _, rfl, hv⟩
end
end Dl
set_option Elab.async false
set_option linter.all false
set_option maxRecDepth 100000
/-! the top's run in pieces, the state behind each told -/
namespace Dl
open PySem PySem.W PySem.Calls PyProof.Rows HandSHeadRun
section
variable (st : SharedT → Thread → Option (SharedT × Thread)) (n0 : Nat) (ann : Option Value)
/-- so many steps, none of them the last one -/
def stepsF : Nat → SharedT → Thread → Option (SharedT × Thread)
  | 0, s, t => some (s, t)
  | m + 1, s, t => match through t with
    | true => none
    | false => match stepOk n0 ann t with
      | false => none
      | true => match st s t with
        | none => none
        | some (s2, t2) => frS s2 fun s2 => stepsF m s2 t2
/-- to the end of a piece of the text -/
def pieceF (b : Nat) : Nat → SharedT → Thread → Option (Flow × SharedT × Code × Pos)
  | 0, _, _ => none
  | m + 1, s, t => match endAt b t with
    | some f => some (f, s, t.code, t.pos)
    | none => match stepOk n0 ann t with
      | false => none
      | true => match st s t with
        | none => none
        | some (s2, t2) => frS s2 fun s2 => pieceF b m s2 t2
end
section
variable {tb : String → Option Builtin} {p : Program} {w : World} {n0 : Nat} {ann : Option Value}
theorem stepsF_ok : ∀ {m : Nat} {s s' : SharedT} {t t' : Thread}, stepsF (stepT (denote tb) p w) n0 ann m s t = some (s', t') → topGo tb p w n0 ann m s.abs t = some (s'.abs, t')
  | 0, _, _, _, _, h => by cases h; rfl
  | m + 1, s, s', t, t', h => by
    unfold stepsF at h
    unfold topGo
    cases e1 : through t with
    | true => rw [e1] at h; cases h
    | false =>
      cases e2 : stepOk n0 ann t with
      | false => rw [e1, e2] at h; cases h
      | true =>
        cases e3 : stepT (denote tb) p w s t with
        | none => rw [e1, e2, e3] at h; cases h
        | some r =>
          rw [e1, e2, e3] at h
          have h2 : (frS r.1 fun s2 => stepsF (stepT (denote tb) p w) n0 ann m s2 r.2) = some (s', t') := h
          rw [frS_eq] at h2
          have e4 := stepT_spec (s' := r.1) (t' := r.2) e3
          simp only [e4]
          exact stepsF_ok h2
theorem pieceF_ok {b : Nat} : ∀ {m : Nat} {s s' : SharedT} {t : Thread} {f : Flow} {c : Code} {q : Pos}, pieceF (stepT (denote tb) p w) n0 ann b m s t = some (f, s', c, q) → segRun tb p w n0 ann b m s.abs t = some (f, s'.abs, c, q)
  | 0, _, _, _, _, _, _, h => by cases h
  | m + 1, s, s', t, f, c, q, h => by
    unfold pieceF at h
    unfold segRun
    cases e1 : endAt b t with
    | some g => rw [e1] at h; cases h; rfl
    | none =>
      cases e2 : stepOk n0 ann t with
      | false => rw [e1, e2] at h; cases h
      | true =>
        cases e3 : stepT (denote tb) p w s t with
        | none => rw [e1, e2, e3] at h; cases h
        | some r =>
          rw [e1, e2, e3] at h
          have h2 : (frS r.1 fun s2 => pieceF (stepT (denote tb) p w) n0 ann b m s2 r.2) = some (f, s', c, q) := h
          rw [frS_eq] at h2
          have e4 := stepT_spec (s' := r.1) (t' := r.2) e3
          simp only [e4]
          exact pieceF_ok h2
end
/-- the step, by the library's twins -/
noncomputable abbrev stQ (p : Program) (w : World) : SharedT → Thread → Option (SharedT × Thread) := stepQ (denQ tabQ) p w
theorem stQ_eq (p : Program) (w : World) : stepT (denote treeTable) p w = stQ p w := by
  unfold stQ
  rw [stepQ_eq, denQ_eq, tabQ_eq]
abbrev cdOf (p : Program) (env : Env) : Code := .body (behindTheImports p) env
section
variable {p : Program} {w : World} {n0 : Nat} {ann : Option Value} {env : Env} {qp pos pos' : Pos} {S S' r : SharedT}
theorem cp_piece {a b m N : Nat} (h : pieceF (stQ p w) n0 ann 1 m S (piecesOf (((behindTheImports p).drop a).take b) env (cdOf p env) pos [topFrame qp]) = some (.next, S', cdOf p env, pos'))
    (k : topRun treeTable p w n0 ann N S'.abs (restOf ((behindTheImports p).drop (a + b)) env (cdOf p env) pos' [topFrame qp]) = some r.abs) :
    topRun treeTable p w n0 ann (m + N) S.abs (restOf ((behindTheImports p).drop a) env (cdOf p env) pos [topFrame qp]) = some r.abs := by
  rw [← stQ_eq] at h
  have z := piece_app (pieceF_ok h) (rest := (behindTheImports p).drop (a + b)) k
  rw [← List.drop_drop, List.take_append_drop] at z
  exact z
theorem cp_last {a m : Nat} (e : (behindTheImports p).drop a = []) (h : goF (stQ p w) n0 ann m S ⟨doneF .next, cdOf p env, pos, [topFrame qp]⟩ = some r) :
    topRun treeTable p w n0 ann m S.abs (restOf ((behindTheImports p).drop a) env (cdOf p env) pos [topFrame qp]) = some r.abs := by
  rw [← stQ_eq] at h
  rw [e]
  exact piece_nil (goF_ok h)
theorem cp_block {m N : Nat} (h : pieceF (stQ p w) n0 ann 1 m S (blockOf (behindTheImports p) env (cdOf p env) pos [topFrame qp]) = some (.next, S', cdOf p env, pos'))
    (k : topRun treeTable p w n0 ann N S'.abs (restOf ((behindTheImports p).drop 0) env (cdOf p env) pos' [topFrame qp]) = some r.abs) :
    topRun treeTable p w n0 ann (m + N) S.abs ⟨denote treeTable (cdOf p env), cdOf p env, pos, [topFrame qp]⟩ = some r.abs := by
  rw [← stQ_eq] at h
  exact piece_block (pieceF_ok h) k
theorem cp_pre {m N : Nat} {t : Thread} (h : stepsF (stQ p w) n0 ann m S t = some (S', ⟨denQ tabQ (cdOf p env), cdOf p env, pos, [topFrame qp]⟩))
    (k : topRun treeTable p w n0 ann N S'.abs ⟨denote treeTable (cdOf p env), cdOf p env, pos, [topFrame qp]⟩ = some r.abs) : topRun treeTable p w n0 ann (m + N) S.abs t = some r.abs := by
  rw [← stQ_eq] at h
  have e : denQ tabQ (cdOf p env) = denote treeTable (cdOf p env) := by rw [denQ_eq, tabQ_eq]
  rw [e] at h
  exact go_top (stepsF_ok h) k
end
/-- the top, told by its end -/
structure TopEnd (r : OpenRow) (q : Program) (loose : List PySem.Str) (H : Hook) (ob : SharedT → H.α) (M : Nat) (w : World) (os : OsState) (s : SharedT) : Prop where
  run : topRun treeTable r.prog w (boot_heap w.params).objs.size (bootAnn w) M ⟨boot_heap w.params, #[], boot_drawn, boot_toks, os⟩ (topStub r.prog) = some s.abs
  l1 : looksF r.prog (boot_heap w.params) s.abs = true
  l2 : seenQ q loose (importedModules r.prog.main.body) (fun s => xlAt q [] s && recOk r.toRowW.records s) s.abs = openGood q loose
  l3 : ob s = H.val w
theorem cp_boot {p : Program} {w : World} {os : OsState} {T : BT} {n N : Nat} {r : SharedT} (e : putAll (boot_heap w.params).objs.toList .nil 0 = some (T, n))
    (k : topRun treeTable p w n (bootAnn w) N (bootT w os (T, n)).abs (topStub p) = some r.abs) :
    topRun treeTable p w (boot_heap w.params).objs.size (bootAnn w) N ⟨boot_heap w.params, #[], boot_drawn, boot_toks, os⟩ (topStub p) = some r.abs := by
  have eh := putAll_heap e
  have en : n = (boot_heap w.params).objs.size := by
    rw [← eh]
    exact (absHeap_size T n _).symm
  subst en
  have eb : (bootT w os (T, (boot_heap w.params).objs.size)).abs = ⟨boot_heap w.params, #[], boot_drawn, boot_toks, os⟩ := by
    unfold bootT SharedT.abs
    rw [eh]
  rw [eb] at k
  exact k
theorem cp_mono {p : Program} {w : World} {n0 : Nat} {ann : Option Value} {N M : Nat} {s r : Shared} {t : Thread} (le : Nat.ble N M = true) (k : topRun treeTable p w n0 ann N s t = some r) : topRun treeTable p w n0 ann M s t = some r := by
  have z := topRun_mono (M - N) N s t r k
  have := Nat.le_of_ble_eq_true le
  rw [Nat.add_sub_cancel' this] at z
  exact z
theorem left_cp {p q : Program} {loose : List PySem.Str} {Xt : Shared → Bool} {α : Type} {Yf : Shared → α} {Ya : World → α} {N M : Nat}
    (e : opening p = plainProg p.main.scope.names) (hN : Nat.ble 600 N = true) (f : ∀ s, fenceModules? p s = some s) (le : Nat.ble M N = true)
    (run : ∀ (w : World) (os : OsState), ∃ s : SharedT, topRun treeTable p w (boot_heap w.params).objs.size (bootAnn w) M ⟨boot_heap w.params, #[], boot_drawn, boot_toks, os⟩ (topStub p) = some s.abs ∧ looksF p (boot_heap w.params) s.abs = true ∧ openSeen q loose (importedModules p.main.body) Xt true s.abs = openGood q loose ∧ Yf s.abs = Ya w) : LeftO p q loose Xt Yf Ya N true := by
  intro w
  obtain ⟨⟨h, gs, d, k, os⟩, a, a'⟩ := Option.map_eq_some_iff.mp (boot_open e hN f w)
  have a4 : h = boot_heap w.params ∧ gs = Array.mk [] ∧ d = boot_drawn ∧ k = boot_toks := by simpa using a'
  obtain ⟨rfl, rfl, rfl, rfl⟩ := a4
  obtain ⟨s, r, z1, z2, z3⟩ := run w os
  have r2 := cp_mono le r
  have top : topFrom treeTable p w N ⟨boot_heap w.params, Array.mk [], boot_drawn, boot_toks, os⟩ = some s.abs := by
    unfold topFrom
    dsimp only
    rw [boot_ns]
    have r3 : topRun treeTable p w (boot_heap w.params).objs.size ((boot_heap w.params).nsMap mainGlobals "__annotations__") N ⟨boot_heap w.params, Array.mk [], boot_drawn, boot_toks, os⟩ (topStub p) = some s.abs := r2
    have z4 : (staticsOk (importedModules p.main.body) (boot_heap w.params) s.abs.heap && namesBound p s.abs.heap && gensDone s.abs && laidKept (boot_heap w.params) s.abs.heap) = true := z1
    have r4 : ∀ k : Shared → Option Shared, (topRun treeTable p w (boot_heap w.params).objs.size ((boot_heap w.params).nsMap mainGlobals "__annotations__") N ⟨boot_heap w.params, Array.mk [], boot_drawn, boot_toks, os⟩ (topStub p)).bind k = k s.abs := fun k => by rw [r3]; rfl
    refine (r4 _).trans ?_
    rw [z4]
  unfold openEnds
  rw [a]
  show (topFrom treeTable p w N _).map _ = _
  rw [top]
  exact congrArg some (Prod.ext z2 z3)
theorem head_cp {r : OpenRow} {q : Program} {H : Hook} {ob : SharedT → H.α} {M : Nat} {loose : List PySem.Str} {d : DefRec} {kwd : List (PySem.Str × PySem.Expr)} (ho : ∀ s : SharedT, ob s = H.obs s.abs)
    (e : opening r.prog = plainProg r.prog.main.scope.names) (f : ∀ s, fenceModules? r.prog s = some s) (run : ∀ w os, ∃ s, TopEnd r q loose H ob M w os s)
    (hdef : defOf q r.name = some (d, kwd)) (hp : r.prog.theDef r.name = some (d.params, d.body, d.scope)) (hk : kwWritten? d.params.kwonlyargs d.params.kw_defaults = some kwd)
    (hwr : (!r.writes || r.records.isEmpty) = true) (k1 : r.wellSaid = true) (ok : (chainsOk q && opensWell r.prog && (frees r.toRowW && r.within.isEmpty)) = true) (hb : r.prog.bare) (hw : r.toRowW.promised)
    (call : WalkO q loose (XL q []) H.says r.toRowW d kwd fun f vs => PySem.call f vs) : r.Holds := by
  have left : LeftO r.prog q loose (fun s => xlAt q [] s && recOk r.toRowW.records s) H.obs H.val (M + 600) true := by
    refine left_cp (M := M) e (Nat.ble_eq_true_of_le (by omega)) f (Nat.ble_eq_true_of_le (by omega)) fun w os => ?_
    obtain ⟨s, z⟩ := run w os
    refine ⟨s, z.run, z.l1, ?_, (ho s).symm.trans z.l3⟩
    rw [seenQ_eq]
    exact z.l2
  exact holds_open (r := r) (q := q) (loose := loose) (XP := XL q []) (YP := H.says) (d := d) (kwd := kwd) left H.of H.keeps (fun s z => xl_of s (Bool.and_eq_true_iff.mp z).1) XL.keeps hdef hp hk (fun s z => recFacts_of (Bool.and_eq_true_iff.mp z).2) hwr k1 ok hb hw call
end Dl
namespace Dl
open PySem PySem.W L2
/-! words for the states -/
abbrev vi (i : Int) (t : Nat) : Value := .int i t
abbrev vs (x : String) (t : Nat) : Value := .str (Str.ofString x) t
abbrev vr (a : Nat) : Value := .ref a
abbrev vt (x : String) : Value := .type x
abbrev vb (x : String) : Value := .builtin x
abbrev vn : Value := .none
abbrev ob_tu (l : List Value) : Obj := ⟨.type "tuple", none, .seq l.toArray 0, #[]⟩
abbrev ob_co (l : List Value) : Obj := ⟨.type "code", none, .fields l.toArray, #[]⟩
abbrev ob_fi (c : Value) (l : List Value) : Obj := ⟨c, none, .fields l.toArray, #[]⟩
abbrev en (P : Params) (x : String) (t : Nat) (v : Value) : DictEntry := ⟨PyData.keyHash P (Str.ofString x), .str (Str.ofString x) t, v⟩
abbrev ob_di (l : List DictEntry) (n : Nat) : Obj := ⟨.type "dict", none, .dict l.toArray n, #[]⟩
abbrev ob_fu (c : Value) (s : Stmt) (x q : String) (g : Addr) (df kd dc md : Value) (an : Option Addr) (cd ct : Value) : Obj :=
  ⟨c, none, .func { name := Str.ofString x, qualname := Str.ofString q, params := defArgs s, body := .stmts (defBody s), scope := defScope s, globals := g, closure := [], defaults := df, kwdefaults := kd, doc := dc, pyModule := md, annotations := an, code := cd, closureTuple := ct, builtins := 0 }, #[]⟩
abbrev bn (o : Obj) (l r : BT) : BT := .node o l r
abbrev bz : BT := .nil
noncomputable abbrev stA' (T : Params → BT) (n toks : Nat) (w : World) (os : OsState) : SharedT := ⟨T w.params, n, (boot_heap w.params).life, #[], boot_drawn, toks, os⟩
end Dl
set_option Elab.async false
set_option linter.all false
set_option maxRecDepth 100000
/-! l.count(x), l.index(x) over data -/
namespace L2
open PySem PySem.Spec PyProof.Rows
end L2
set_option Elab.async false
set_option linter.all false
set_option maxRecDepth 100000
namespace Dl
open PySem L2 PyProof.Rows
/-! ### looked at as it is now, however deep -/
inductive Al2 (R : D → D → Prop) : List D → List D → Prop
  | nil : Al2 R [] []
  | cons {x d : D} {xs ds : List D} : R x d → Al2 R xs ds → Al2 R (x :: xs) (d :: ds)
theorem Al2.refl {R : D → D → Prop} (h : ∀ x, R x x) : ∀ xs : List D, Al2 R xs xs
  | [] => .nil
  | x :: xs => .cons (h x) (Al2.refl h xs)
theorem Al2.app {R : D → D → Prop} : ∀ {xs ds ys es : List D}, Al2 R xs ds → Al2 R ys es → Al2 R (xs ++ ys) (ds ++ es)
  | _, _, _, _, .nil, h => h
  | _, _, _, _, .cons a b, h => .cons a (b.app h)
/-- to a depth -/
def FzN (μ : Mu) : Nat → D → D → Prop
  | 0, x, d => x = d
  | n + 1, x, d => x = d ∨ (∃ k xs ds, x = .own k ∧ d = .lst ds ∧ μ[k]? = some (.lst xs) ∧ Al2 (FzN μ n) xs ds) ∨ (∃ xs ds, x = .tup xs ∧ d = .tup ds ∧ Al2 (FzN μ n) xs ds) ∨ (∃ xs ds, x = .lst xs ∧ d = .lst ds ∧ Al2 (FzN μ n) xs ds)
theorem FzN.id {μ : Mu} : ∀ {n : Nat} (d : D), FzN μ n d d
  | 0, _ => rfl
  | _ + 1, _ => .inl rfl
theorem al2_dp {K : PySem.W.Frag} {G H : Hp} {al : List Addr} {R : D → D → Prop} (h : ∀ {v : V} {x d : D} {n : Nat}, R x d → d.shp n = true → Rp K G al v x → Dp K H v d.py) : ∀ {vs : List V} {xs ds : List D} {n : Nat}, Al2 R xs ds → shpL ds n = true → Rps K G al vs xs → DpAll K H vs (pyL ds)
  | _, _, _, _, .nil, _, .nil => by unfold pyL; exact .nil
  | _, _, _, n, .cons a b, hs, .cons r t => by
    unfold pyL; unfold shpL at hs; simp at hs
    exact .cons (h a hs.1 r) (al2_dp h b hs.2 t)
theorem FzN.dp {K : PySem.W.Frag} {G H : Hp} {al : List Addr} {μ : Mu} (A : As K G H al μ) : ∀ {q : Nat} {v : V} {x d : D} {n : Nat}, FzN μ q x d → d.shp n = true → Rp K G al v x → Dp K H v d.py
  | 0, _, _, _, _, h, hs, r => by
    cases h
    exact dp_of A.sub hs r
  | q + 1, v, x, d, n, h, hs, r => by
    rcases h with rfl | ⟨k, xs, ds, rfl, rfl, hk, hl⟩ | ⟨xs, ds, rfl, rfl, hl⟩ | ⟨xs, ds, rfl, rfl, hl⟩
    · exact dp_of A.sub hs r
    · obtain ⟨a, ha, ga, ws, hv, rw'⟩ := A.get hk
      cases r with
      | own e =>
        rw [ha] at e; cases e
        unfold D.py; unfold D.shp at hs; simp at hs
        exact .lst (.inl (.inl hv)) (al2_dp (fun a b c => FzN.dp A a b c) hl hs.2 rw')
    · cases r with
      | tup e r =>
        unfold D.py; unfold D.shp at hs; simp at hs
        exact .tup (.inl (.inl (A.sub _ _ e))) (al2_dp (fun a b c => FzN.dp A a b c) hl hs.2 r)
    · cases r with
      | lst e r =>
        unfold D.py; unfold D.shp at hs; simp at hs
        exact .lst (.inl (.inl (A.sub _ _ e))) (al2_dp (fun a b c => FzN.dp A a b c) hl hs.2 r)
end Dl
set_option Elab.async false
set_option linter.all false
set_option maxRecDepth 100000
namespace L2
open PySem
end L2
set_option Elab.async false
set_option linter.all false
set_option maxRecDepth 100000
/-! dicts with tuple keys -/
namespace Dl
open PySem PySem.Spec PyProof.Rows L2
/-! ### .. over data -/
/-! ### a dict with tuple keys stands locked while it is walked -/
section
variable {K : PySem.W.Frag} {G G' : Hp} {al al' : List Addr} {a : Addr}
def Un (G G' : Hp) (a : Addr) : Prop := (∃ o kvs, G a = some (.frz o (.dT kvs))) ∧ ∀ b, b ≠ a → G' b = G b
theorem Un.plain (s : Un G G' a) {b : Addr} {o : HO} (h : G b = some o) (n : ∀ o' kvs, o ≠ .frz o' (.dT kvs)) : G' b = some o := by
  obtain ⟨⟨o1, kvs, e⟩, u⟩ := s
  rw [u b fun z => by rw [z, e] at h; cases h; exact n _ _ rfl]
  exact h
end
end Dl
/-! d.get(None), d.pop(k), dict(d): dicts with tuple keys -/
/-! dicts with tuple keys, as data -/
namespace Dl
open PySem L2
section
variable {K : PySem.W.Frag} {G H : Hp} {al : List Addr}
theorem Rps.app {us vs : List V} {ds es : List D} (h : Rps K G al us ds) (h' : Rps K G al vs es) : Rps K G al (us ++ vs) (ds ++ es) := by
  induction ds generalizing us with
  | nil => cases h; exact h'
  | cons d ds ih => cases h with | cons r t => exact .cons r (ih t)
end
end Dl
/-! zip of two lists or two tuples; isinstance(x, (list, tuple)) -/
set_option Elab.async false
set_option linter.all false
set_option maxRecDepth 100000
/-! a tuple of texts that stands in a module -/
set_option Elab.async false
set_option linter.all false
set_option maxRecDepth 100000
/-! dicts with tuple keys: their keys walked -/
namespace Dl
open PySem PySem.Spec PyProof.Rows L2
theorem Al2.len {R : D → D → Prop} : ∀ {xs ds : List D}, Al2 R xs ds → xs.length = ds.length
  | _, _, .nil => rfl
  | _, _, .cons _ t => by simp [t.len]
theorem Al2.get {R : D → D → Prop} : ∀ {xs ds : List D}, Al2 R xs ds → ∀ {i : Nat} {x : D}, xs[i]? = some x → ∃ d, ds[i]? = some d ∧ R x d
  | _, _, .cons a t, 0, x, h => by cases h; exact ⟨_, rfl, a⟩
  | _, _, .cons a t, i + 1, x, h => t.get (by simpa using h)
end Dl
set_option Elab.async false
set_option linter.all false
set_option maxRecDepth 100000
/-! sorted(..) of data -/
namespace L2
open PySem PySem.Spec PyProof.Rows PySem.Calls
end L2
set_option Elab.async false
set_option linter.all false
set_option maxRecDepth 100000
/-! a method called with its two arguments by name, the other way about, in a try's body -/
set_option Elab.async false
set_option linter.all false
set_option maxRecDepth 100000
/-! try: .. with except clauses that keep no name -/
namespace L2
open PySem PySem.Spec PyProof.Rows
inductive HdsM (X : Cx) : List ExceptHandler → List (Value × TS) → Prop
  | nil : HdsM X [] []
  | cons {x : Str} {c : Value} {ts : TS} {b₀ : Stmt} {suite : List Stmt} {np pos' : Pos} {hds : List ExceptHandler} {l : List (Value × TS)} (hc : Names X x c)
      (hsu : ∀ (a : Addr) (pn : List (Addr × Obj)), PSs (X.suite a pn) (b₀ :: suite) ts) (r : HdsM X hds l) :
      HdsM X (.ExceptHandler (some (.Name x np)) none (b₀ :: suite) pos' :: hds) ((c, ts) :: l)
def many3 (l : List (Value × TS)) : List (Value × (Addr → Value → Option Addr → TS)) := l.map fun p => (p.1, fun _ _ _ => p.2)
theorem HdsM.ok {X : Cx} : ∀ {hds : List ExceptHandler} {l : List (Value × TS)}, HdsM X hds l → HdsOk X hds (many3 l)
  | _, _, .nil => .nil
  | _, _, .cons hc hsu r => .cons hc (fun a oe cls d pn _ _ => hsu a ((a, oe) :: pn)) r.ok
end L2
set_option Elab.async false
set_option linter.all false
set_option maxRecDepth 100000
/-! xs.insert(i, y) -/
set_option Elab.async false
set_option linter.all false
set_option maxRecDepth 100000
/-! dicts with tuple keys: sorted(d), d.pop(k) -/
namespace L2
open PySem PySem.Spec PyProof.Rows PySem.Calls
end L2
namespace L2.DX
open PySem PySem.Spec PyProof.Rows L2
end L2.DX
set_option Elab.async false
set_option linter.all false
set_option maxRecDepth 100000
/-! for k in reversed(range(n)) -/
set_option Elab.async false
set_option linter.all false
set_option maxRecDepth 100000
/-! texts: split, int(text), str of both, steps of two -/
namespace L2
open PySem
end L2
set_option Elab.async false
set_option linter.all false
set_option maxRecDepth 100000
/-! [G a for a in xs] told by what the data are of -/
set_option Elab.async false
set_option linter.all false
set_option maxRecDepth 100000
/-! len(x) of a thing whose class has its own __len__ -/
namespace L2
open PySem Builtin
end L2
set_option Elab.async false
set_option Elab.async false
set_option linter.all false
set_option maxRecDepth 100000
/-! text * int -/
namespace L2
open PySem PySem.Spec PyProof.Rows
end L2
set_option Elab.async false
set_option linter.all false
set_option maxRecDepth 100000
/-! a dict display that is frozen at once -/
set_option Elab.async false
set_option linter.all false
set_option maxRecDepth 100000
/-! a constructor called with keywords: the arguments in the parameters' order -/
namespace L2
open PySem PySem.Spec PyProof.Rows
end L2
set_option Elab.async false
set_option linter.all false
set_option maxRecDepth 100000
namespace Dl
open PySem L2 PyProof.Rows
def topS (i : Nat) : Stmt := PySem.Challenge.pw_readround_k16_far_meetings.main.body.getD i (.Pass ⟨0, 0, 0, 0⟩)
abbrev R : PySem.W.OpenRow := PySem.W.OpenLaw.row PySem.Challenge.rw_readround_k16_far_meetings
noncomputable section
open PySem.W PySem.Calls HandSHeadRun
noncomputable def env0 : Env := { scope := R.prog.main.scope, locals := mainNs, globals := mainNs, cells := [], code := (vr 13), frame := some 14 }
def o11 : Obj := ob_tu []
def o12 : Obj := ob_fi vn []
def o13 : Obj := ob_co [(vs "<module>" 182), (vs "<module>" 183), (vs "/claim/cut.py" 184), (vi 1 0), (vi 0 0), (vi 0 0), (vi 0 0), (vi 0 0), (vr 11), (.bool false), (vi 181 0), (vr 12), vn, vn, vn, vn, (vi 185 0), (vi 1 0), (vs "/claim/cut.py" 186)]
def o14 : Obj := ⟨(vt "frame"), none, .plain, #[some (vr 13), some (vr 3), some (vr 3), none, some (vs "__main__" 164), none, some (vr 0)]⟩
def o3 (P : Params) : Obj := ob_di [en P "__name__" 165 (vs "law_readround_k16_far_meetings" 374), en P "__doc__" 166 vn, en P "__package__" 167 vn, en P "__loader__" 168 (vb "__main__.__loader__#opaque"), en P "__spec__" 169 vn, en P "__annotations__" 170 (vr 6), en P "__builtins__" 171 (vr 4), en P "__file__" 173 (vs "/claim/cut.py" 172), en P "__cached__" 174 vn, en P "_wall" 193 (vr 21), en P "ReadError" 213 (vr 31), en P "BadCalendar" 229 (vr 44), en P "NoDay" 245 (vr 56), en P "is_number" 256 (vr 65), en P "are_numbers" 262 (vr 70), en P "need_day" 271 (vr 77), en P "Calendar" 352 (vr 136), en P "common_by" 367 (vr 147), en P "meeting" 373 (vr 152), en P "_law_draw" 386 (vr 159), en P "_law_far" 396 (vr 166), en P "_law_lengths" 402 (vr 171), en P "_law_is" 410 (vr 178), en P "_law_begins" 422 (vr 185), en P "_law_first" 432 (vr 192), en P "_law_due" 445 (vr 199), en P "_law_round_right" 463 (vr 206)] 27
def o12_1 : Obj := ob_fi vn [(vi 1 0), (vi 0 0), (vr 20), (vi 5 0), (vi 0 0), (vr 27), (vi 7 0), (vi 0 0), (vr 40), (vi 9 0), (vi 0 0), (vr 52), (vi 12 0), (vi 0 0), (vr 64), (vi 14 0), (vi 0 0), (vr 69), (vi 19 0), (vi 0 0), (vr 76), (vi 22 0), (vi 0 0), (vr 83), (vi 55 0), (vi 0 0), (vr 146), (vi 62 0), (vi 0 0), (vr 151), (vi 77 0), (vi 0 0), (vr 158), (vi 87 0), (vi 0 0), (vr 165), (vi 95 0), (vi 0 0), (vr 170), (vi 101 0), (vi 0 0), (vr 177), (vi 103 0), (vi 0 0), (vr 184), (vi 112 0), (vi 0 0), (vr 191), (vi 115 0), (vi 0 0), (vr 198), (vi 121 0), (vi 0 0), (vr 205)]
def o15 : Obj := ob_tu []
def o16 : Obj := ob_fi vn []
def o17 : Obj := ob_tu [(vs "k" 190)]
def o18 : Obj := ob_tu []
def o19 : Obj := ob_fu vn (topS 0) "_wall" "_wall" 0 vn vn vn vn none vn vn
def o20 : Obj := ob_co [(vs "_wall" 187), (vs "_wall" 188), (vs "/claim/cut.py" 189), (vi 1 0), (vi 1 0), (vi 0 0), (vi 0 0), (vi 3 0), (vr 15), (.bool true), (vi 181 0), (vr 16), vn, (vr 17), (vr 18), (vr 19), (vi 191 0), (vi 1 0), (vs "/claim/cut.py" 192)]
def o21 : Obj := ob_fu (vt "function") (topS 0) "_wall" "_wall" 3 vn vn vn (vs "__main__" 164) none (vr 20) vn
def o22 : Obj := ob_tu [(vt "ValueError")]
def o23 : Obj := ob_fi (vt "builtin_function_or_method") [(vb "type.__prepare__"), (vt "type")]
def o24 (P : Params) : Obj := ob_di [en P "__module__" 203 (vs "readround.errors" 194), en P "__qualname__" 205 (vs "ReadError" 204), en P "__firstlineno__" 207 (vi 5 206), en P "__static_attributes__" 208 (vr 29)] 4
def o25 : Obj := ob_tu []
def o26 : Obj := ob_fi vn []
def o27 : Obj := ob_co [(vs "ReadError" 198), (vs "ReadError" 199), (vs "/claim/cut.py" 200), (vi 5 0), (vi 0 0), (vi 0 0), (vi 0 0), (vi 0 0), (vr 25), (.bool false), (vi 181 0), (vr 26), vn, vn, vn, vn, (vi 201 0), (vi 5 0), (vs "/claim/cut.py" 202)]
def o28 : Obj := ⟨(vt "frame"), none, .plain, #[some (vr 27), some (vr 3), some (vr 24), none, some (vs "readround.errors" 194), none, some (vr 0)]⟩
def o29 : Obj := ob_tu []
def o30 (P : Params) : Obj := ob_di [en P "__module__" 203 (vs "readround.errors" 194), en P "__firstlineno__" 207 (vi 5 206), en P "__static_attributes__" 208 (vr 29), en P "__weakref__" 210 (vr 32), en P "__doc__" 211 vn] 3
def o31 : Obj := ⟨(vt "type"), none, .cls (ClassData.mk (Str.ofString "ReadError") [(vt "ValueError")] [(vr 31), (vt "ValueError"), (vt "Exception"), (vt "BaseException"), (vt "object")] 30 (Str.ofString "ReadError") true [] [(vr 44), (vr 56)] false none false), #[some (vr 22), none, some (vs "ReadError" 196), some (vs "ReadError" 204), some (vb "ValueError.__new__"), some (.bool true)]⟩
def o32 : Obj := ob_fi (vt "getset_descriptor") [(vs "__weakref__" 209), (vr 31), (vb "ExceptionGroup.__weakref__"), vn]
def o33 : Obj := ob_fi (vt "super") [(vr 31), (vr 31), (vr 31)]
def o34 : Obj := ob_fi (vt "builtin_function_or_method") [(vb "object.__init_subclass__"), (vr 31)]
def o35 : Obj := ob_tu [(vr 31)]
def o36 : Obj := ob_fi (vt "builtin_function_or_method") [(vb "type.__prepare__"), (vt "type")]
def o37 (P : Params) : Obj := ob_di [en P "__module__" 221 (vs "readround.errors" 194), en P "__qualname__" 223 (vs "BadCalendar" 222), en P "__firstlineno__" 225 (vi 7 224), en P "__static_attributes__" 226 (vr 42)] 4
def o38 : Obj := ob_tu []
def o39 : Obj := ob_fi vn []
def o40 : Obj := ob_co [(vs "BadCalendar" 216), (vs "BadCalendar" 217), (vs "/claim/cut.py" 218), (vi 7 0), (vi 0 0), (vi 0 0), (vi 0 0), (vi 0 0), (vr 38), (.bool false), (vi 181 0), (vr 39), vn, vn, vn, vn, (vi 219 0), (vi 7 0), (vs "/claim/cut.py" 220)]
def o41 : Obj := ⟨(vt "frame"), none, .plain, #[some (vr 40), some (vr 3), some (vr 37), none, some (vs "readround.errors" 194), none, some (vr 0)]⟩
def o42 : Obj := ob_tu []
def o43 (P : Params) : Obj := ob_di [en P "__module__" 221 (vs "readround.errors" 194), en P "__firstlineno__" 225 (vi 7 224), en P "__static_attributes__" 226 (vr 42), en P "__doc__" 227 vn] 2
def o44 : Obj := ⟨(vt "type"), none, .cls (ClassData.mk (Str.ofString "BadCalendar") [(vr 31)] [(vr 44), (vr 31), (vt "ValueError"), (vt "Exception"), (vt "BaseException"), (vt "object")] 43 (Str.ofString "BadCalendar") true [] [] false none false), #[some (vr 35), none, some (vs "BadCalendar" 214), some (vs "BadCalendar" 222), some (vb "ValueError.__new__"), some (.bool true)]⟩
def o45 : Obj := ob_fi (vt "super") [(vr 44), (vr 44), (vr 44)]
def o46 : Obj := ob_fi (vt "builtin_function_or_method") [(vb "object.__init_subclass__"), (vr 44)]
def o47 : Obj := ob_tu [(vr 31)]
def o48 : Obj := ob_fi (vt "builtin_function_or_method") [(vb "type.__prepare__"), (vt "type")]
def o49 (P : Params) : Obj := ob_di [en P "__module__" 237 (vs "readround.errors" 194), en P "__qualname__" 239 (vs "NoDay" 238), en P "__firstlineno__" 241 (vi 9 240), en P "__static_attributes__" 242 (vr 54)] 4
def o50 : Obj := ob_tu []
def o51 : Obj := ob_fi vn []
def o52 : Obj := ob_co [(vs "NoDay" 232), (vs "NoDay" 233), (vs "/claim/cut.py" 234), (vi 9 0), (vi 0 0), (vi 0 0), (vi 0 0), (vi 0 0), (vr 50), (.bool false), (vi 181 0), (vr 51), vn, vn, vn, vn, (vi 235 0), (vi 9 0), (vs "/claim/cut.py" 236)]
def o53 : Obj := ⟨(vt "frame"), none, .plain, #[some (vr 52), some (vr 3), some (vr 49), none, some (vs "readround.errors" 194), none, some (vr 0)]⟩
def o54 : Obj := ob_tu []
def o55 (P : Params) : Obj := ob_di [en P "__module__" 237 (vs "readround.errors" 194), en P "__firstlineno__" 241 (vi 9 240), en P "__static_attributes__" 242 (vr 54), en P "__doc__" 243 vn] 2
def o56 : Obj := ⟨(vt "type"), none, .cls (ClassData.mk (Str.ofString "NoDay") [(vr 31)] [(vr 56), (vr 31), (vt "ValueError"), (vt "Exception"), (vt "BaseException"), (vt "object")] 55 (Str.ofString "NoDay") true [] [] false none false), #[some (vr 47), none, some (vs "NoDay" 230), some (vs "NoDay" 238), some (vb "ValueError.__new__"), some (.bool true)]⟩
def o57 : Obj := ob_fi (vt "super") [(vr 56), (vr 56), (vr 56)]
def o58 : Obj := ob_fi (vt "builtin_function_or_method") [(vb "object.__init_subclass__"), (vr 56)]
def o59 : Obj := ob_tu []
def o60 : Obj := ob_fi vn []
def o61 : Obj := ob_tu [(vs "thing" 251), (vs "least" 252), (vs "most" 253)]
def o62 : Obj := ob_tu []
def o63 : Obj := ob_fu vn (topS 6) "is_number" "is_number" 0 vn vn vn vn none vn vn
def o64 : Obj := ob_co [(vs "is_number" 248), (vs "is_number" 249), (vs "/claim/cut.py" 250), (vi 12 0), (vi 3 0), (vi 0 0), (vi 0 0), (vi 3 0), (vr 59), (.bool true), (vi 181 0), (vr 60), vn, (vr 61), (vr 62), (vr 63), (vi 254 0), (vi 12 0), (vs "/claim/cut.py" 255)]
def o65 : Obj := ob_fu (vt "function") (topS 6) "is_number" "is_number" 3 vn vn vn (vs "readround.kinds" 246) none (vr 64) vn
def o66 : Obj := ob_tu []
def o67 : Obj := ob_fi vn []
def o68 : Obj := ob_fu vn (topS 7) "are_numbers" "are_numbers" 0 vn vn vn vn none vn vn
def o69 : Obj := ob_co [(vs "are_numbers" 257), (vs "are_numbers" 258), (vs "/claim/cut.py" 259), (vi 14 0), (vi 4 0), (vi 0 0), (vi 0 0), (vi 3 0), (vr 66), (.bool true), (vi 181 0), (vr 67), vn, vn, vn, (vr 68), (vi 260 0), (vi 14 0), (vs "/claim/cut.py" 261)]
def o70 : Obj := ob_fu (vt "function") (topS 7) "are_numbers" "are_numbers" 3 vn vn vn (vs "readround.kinds" 246) none (vr 69) vn
def o71 : Obj := ob_tu []
def o72 : Obj := ob_fi vn []
def o73 : Obj := ob_tu [(vs "number" 268)]
def o74 : Obj := ob_tu []
def o75 : Obj := ob_fu vn (topS 9) "need_day" "need_day" 0 vn vn vn vn none vn vn
def o76 : Obj := ob_co [(vs "need_day" 265), (vs "need_day" 266), (vs "/claim/cut.py" 267), (vi 19 0), (vi 1 0), (vi 0 0), (vi 0 0), (vi 3 0), (vr 71), (.bool true), (vi 181 0), (vr 72), vn, (vr 73), (vr 74), (vr 75), (vi 269 0), (vi 19 0), (vs "/claim/cut.py" 270)]
def o77 : Obj := ob_fu (vt "function") (topS 9) "need_day" "need_day" 3 vn vn vn (vs "readround.calendars" 263) none (vr 76) vn
def o78 : Obj := ob_tu []
def o79 : Obj := ob_fi (vt "builtin_function_or_method") [(vb "type.__prepare__"), (vt "type")]
def o80 (P : Params) : Obj := ob_di [en P "__module__" 279 (vs "readround.calendars" 263), en P "__qualname__" 281 (vs "Calendar" 280), en P "__firstlineno__" 283 (vi 22 282), en P "__init__" 292 (vr 91), en P "__eq__" 300 (vr 98), en P "years" 307 (vr 105), en P "turn" 314 (vr 112), en P "long" 322 (vr 119), en P "first" 332 (vr 126), en P "at" 340 (vr 133), en P "__static_attributes__" 344 (vr 134)] 11
def o81 : Obj := ob_tu []
def o82 : Obj := ob_fi vn [(vi 24 0), (vi 4 0), (vr 90), (vi 34 0), (vi 4 0), (vr 97), (vi 37 0), (vi 4 0), (vr 104), (vi 40 0), (vi 4 0), (vr 111), (vi 43 0), (vi 4 0), (vr 118), (vi 47 0), (vi 4 0), (vr 125), (vi 52 0), (vi 4 0), (vr 132)]
def o83 : Obj := ob_co [(vs "Calendar" 274), (vs "Calendar" 275), (vs "/claim/cut.py" 276), (vi 22 0), (vi 0 0), (vi 0 0), (vi 0 0), (vi 0 0), (vr 81), (.bool false), (vi 181 0), (vr 82), vn, vn, vn, vn, (vi 277 0), (vi 22 0), (vs "/claim/cut.py" 278)]
def o84 : Obj := ⟨(vt "frame"), none, .plain, #[some (vr 83), some (vr 3), some (vr 80), none, some (vs "readround.calendars" 263), none, some (vr 0)]⟩
def o85 : Obj := ob_tu []
def o86 : Obj := ob_fi vn []
def o87 : Obj := ob_tu [(vs "self" 287), (vs "years" 288), (vs "days" 289)]
def o88 : Obj := ob_tu []
def o89 : Obj := ob_fu vn (inClass (topS 10) 0) "__init__" "Calendar.__init__" 0 vn vn vn vn none vn vn
def o90 : Obj := ob_co [(vs "__init__" 284), (vs "Calendar.__init__" 285), (vs "/claim/cut.py" 286), (vi 24 0), (vi 2 0), (vi 0 0), (vi 0 0), (vi 3 0), (vr 85), (.bool true), (vi 181 0), (vr 86), vn, (vr 87), (vr 88), (vr 89), (vi 290 0), (vi 24 0), (vs "/claim/cut.py" 291)]
def o91 : Obj := ob_fu (vt "function") (inClass (topS 10) 0) "__init__" "Calendar.__init__" 3 vn vn vn (vs "readround.calendars" 263) none (vr 90) vn
def o92 : Obj := ob_tu []
def o93 : Obj := ob_fi vn []
def o94 : Obj := ob_tu [(vs "self" 296), (vs "other" 297)]
def o95 : Obj := ob_tu []
def o96 : Obj := ob_fu vn (inClass (topS 10) 1) "__eq__" "Calendar.__eq__" 0 vn vn vn vn none vn vn
def o97 : Obj := ob_co [(vs "__eq__" 293), (vs "Calendar.__eq__" 294), (vs "/claim/cut.py" 295), (vi 34 0), (vi 2 0), (vi 0 0), (vi 0 0), (vi 3 0), (vr 92), (.bool true), (vi 181 0), (vr 93), vn, (vr 94), (vr 95), (vr 96), (vi 298 0), (vi 34 0), (vs "/claim/cut.py" 299)]
def o98 : Obj := ob_fu (vt "function") (inClass (topS 10) 1) "__eq__" "Calendar.__eq__" 3 vn vn vn (vs "readround.calendars" 263) none (vr 97) vn
def o99 : Obj := ob_tu []
def o100 : Obj := ob_fi vn []
def o101 : Obj := ob_tu [(vs "self" 304)]
def o102 : Obj := ob_tu []
def o103 : Obj := ob_fu vn (inClass (topS 10) 2) "years" "Calendar.years" 0 vn vn vn vn none vn vn
def o104 : Obj := ob_co [(vs "years" 301), (vs "Calendar.years" 302), (vs "/claim/cut.py" 303), (vi 37 0), (vi 1 0), (vi 0 0), (vi 0 0), (vi 3 0), (vr 99), (.bool true), (vi 181 0), (vr 100), vn, (vr 101), (vr 102), (vr 103), (vi 305 0), (vi 37 0), (vs "/claim/cut.py" 306)]
def o105 : Obj := ob_fu (vt "function") (inClass (topS 10) 2) "years" "Calendar.years" 3 vn vn vn (vs "readround.calendars" 263) none (vr 104) vn
def o106 : Obj := ob_tu []
def o107 : Obj := ob_fi vn []
def o108 : Obj := ob_tu [(vs "self" 311)]
def o109 : Obj := ob_tu []
def o110 : Obj := ob_fu vn (inClass (topS 10) 3) "turn" "Calendar.turn" 0 vn vn vn vn none vn vn
def o111 : Obj := ob_co [(vs "turn" 308), (vs "Calendar.turn" 309), (vs "/claim/cut.py" 310), (vi 40 0), (vi 1 0), (vi 0 0), (vi 0 0), (vi 3 0), (vr 106), (.bool true), (vi 181 0), (vr 107), vn, (vr 108), (vr 109), (vr 110), (vi 312 0), (vi 40 0), (vs "/claim/cut.py" 313)]
def o112 : Obj := ob_fu (vt "function") (inClass (topS 10) 3) "turn" "Calendar.turn" 3 vn vn vn (vs "readround.calendars" 263) none (vr 111) vn
def o113 : Obj := ob_tu []
def o114 : Obj := ob_fi vn []
def o115 : Obj := ob_tu [(vs "self" 318), (vs "year" 319)]
def o116 : Obj := ob_tu []
def o117 : Obj := ob_fu vn (inClass (topS 10) 4) "long" "Calendar.long" 0 vn vn vn vn none vn vn
def o118 : Obj := ob_co [(vs "long" 315), (vs "Calendar.long" 316), (vs "/claim/cut.py" 317), (vi 43 0), (vi 2 0), (vi 0 0), (vi 0 0), (vi 3 0), (vr 113), (.bool true), (vi 181 0), (vr 114), vn, (vr 115), (vr 116), (vr 117), (vi 320 0), (vi 43 0), (vs "/claim/cut.py" 321)]
def o119 : Obj := ob_fu (vt "function") (inClass (topS 10) 4) "long" "Calendar.long" 3 vn vn vn (vs "readround.calendars" 263) none (vr 118) vn
def o120 : Obj := ob_tu []
def o121 : Obj := ob_fi vn []
def o122 : Obj := ob_tu [(vs "self" 326), (vs "year" 327), (vs "turns" 328), (vs "place" 329)]
def o123 : Obj := ob_tu []
def o124 : Obj := ob_fu vn (inClass (topS 10) 5) "first" "Calendar.first" 0 vn vn vn vn none vn vn
def o125 : Obj := ob_co [(vs "first" 323), (vs "Calendar.first" 324), (vs "/claim/cut.py" 325), (vi 47 0), (vi 2 0), (vi 0 0), (vi 0 0), (vi 3 0), (vr 120), (.bool true), (vi 181 0), (vr 121), vn, (vr 122), (vr 123), (vr 124), (vi 330 0), (vi 47 0), (vs "/claim/cut.py" 331)]
def o126 : Obj := ob_fu (vt "function") (inClass (topS 10) 5) "first" "Calendar.first" 3 vn vn vn (vs "readround.calendars" 263) none (vr 125) vn
def o127 : Obj := ob_tu []
def o128 : Obj := ob_fi vn []
def o129 : Obj := ob_tu [(vs "self" 336), (vs "day" 337)]
def o130 : Obj := ob_tu []
def o131 : Obj := ob_fu vn (inClass (topS 10) 6) "at" "Calendar.at" 0 vn vn vn vn none vn vn
def o132 : Obj := ob_co [(vs "at" 333), (vs "Calendar.at" 334), (vs "/claim/cut.py" 335), (vi 52 0), (vi 2 0), (vi 0 0), (vi 0 0), (vi 3 0), (vr 127), (.bool true), (vi 181 0), (vr 128), vn, (vr 129), (vr 130), (vr 131), (vi 338 0), (vi 52 0), (vs "/claim/cut.py" 339)]
def o133 : Obj := ob_fu (vt "function") (inClass (topS 10) 6) "at" "Calendar.at" 3 vn vn vn (vs "readround.calendars" 263) none (vr 132) vn
def o134 : Obj := ob_tu [(vs "begins" 341), (vs "lengths" 342), (vs "whole" 343)]
def o135 (P : Params) : Obj := ob_di [en P "__module__" 279 (vs "readround.calendars" 263), en P "__firstlineno__" 283 (vi 22 282), en P "__init__" 292 (vr 91), en P "__eq__" 300 (vr 98), en P "years" 307 (vr 105), en P "turn" 314 (vr 112), en P "long" 322 (vr 119), en P "first" 332 (vr 126), en P "at" 340 (vr 133), en P "__static_attributes__" 344 (vr 134), en P "__dict__" 346 (vr 137), en P "__weakref__" 348 (vr 138), en P "__doc__" 349 vn, en P "__hash__" 350 vn] 5
def o136 : Obj := ⟨(vt "type"), none, .cls (ClassData.mk (Str.ofString "Calendar") [(vt "object")] [(vr 136), (vt "object")] 135 (Str.ofString "Calendar") true [] [] false none false), #[none, none, some (vs "Calendar" 272), some (vs "Calendar" 280), some (vb "object.__new__"), some (.bool true)]⟩
def o137 : Obj := ob_fi (vt "getset_descriptor") [(vs "__dict__" 345), (vr 136), (vb "function.__dict__"), (vb "function.__dict__#set")]
def o138 : Obj := ob_fi (vt "getset_descriptor") [(vs "__weakref__" 347), (vr 136), (vb "ExceptionGroup.__weakref__"), vn]
def o139 : Obj := ob_fi (vt "super") [(vr 136), (vr 136), (vr 136)]
def o140 : Obj := ob_fi (vt "builtin_function_or_method") [(vb "object.__init_subclass__"), (vr 136)]
def o141 : Obj := ob_tu []
def o142 : Obj := ob_fi vn []
def o143 : Obj := ob_tu [(vs "one" 358), (vs "other" 359), (vs "left" 360), (vs "by" 361), (vs "behind" 362), (vs "more" 363), (vs "often" 364)]
def o144 : Obj := ob_tu []
def o145 : Obj := ob_fu vn (topS 12) "common_by" "common_by" 0 vn vn vn vn none vn vn
def o146 : Obj := ob_co [(vs "common_by" 355), (vs "common_by" 356), (vs "/claim/cut.py" 357), (vi 55 0), (vi 2 0), (vi 0 0), (vi 0 0), (vi 3 0), (vr 141), (.bool true), (vi 181 0), (vr 142), vn, (vr 143), (vr 144), (vr 145), (vi 365 0), (vi 55 0), (vs "/claim/cut.py" 366)]
def o147 : Obj := ob_fu (vt "function") (topS 12) "common_by" "common_by" 3 vn vn vn (vs "readround.meets" 353) none (vr 146) vn
def o148 : Obj := ob_tu []
def o149 : Obj := ob_fi vn []
def o150 : Obj := ob_fu vn (topS 13) "meeting" "meeting" 0 vn vn vn vn none vn vn
def o151 : Obj := ob_co [(vs "meeting" 368), (vs "meeting" 369), (vs "/claim/cut.py" 370), (vi 62 0), (vi 4 0), (vi 0 0), (vi 0 0), (vi 3 0), (vr 148), (.bool true), (vi 181 0), (vr 149), vn, vn, vn, (vr 150), (vi 371 0), (vi 62 0), (vs "/claim/cut.py" 372)]
def o152 : Obj := ob_fu (vt "function") (topS 13) "meeting" "meeting" 3 vn vn vn (vs "readround.meets" 353) none (vr 151) vn
def o153 : Obj := ob_tu []
def o154 : Obj := ob_fi vn []
def o155 : Obj := ob_tu [(vs "_law_hold" 379), (vs "_law_many" 380), (vs "_law_spot" 381), (vs "_law_cell" 382), (vs "_law_mark" 383)]
def o156 : Obj := ob_tu []
def o157 : Obj := ob_fu vn (topS 15) "_law_draw" "_law_draw" 0 vn vn vn vn none vn vn
def o158 : Obj := ob_co [(vs "_law_draw" 376), (vs "_law_draw" 377), (vs "/claim/cut.py" 378), (vi 77 0), (vi 2 0), (vi 0 0), (vi 0 0), (vi 3 0), (vr 153), (.bool true), (vi 181 0), (vr 154), vn, (vr 155), (vr 156), (vr 157), (vi 384 0), (vi 77 0), (vs "/claim/cut.py" 385)]
def o159 : Obj := ob_fu (vt "function") (topS 15) "_law_draw" "_law_draw" 3 vn vn vn (vs "law_readround_k16_far_meetings" 374) none (vr 158) vn
def o160 : Obj := ob_tu []
def o161 : Obj := ob_fi vn []
def o162 : Obj := ob_tu [(vs "_law_hold" 390), (vs "_law_way" 391), (vs "_law_number" 392), (vs "_law_k" 393)]
def o163 : Obj := ob_tu []
def o164 : Obj := ob_fu vn (topS 16) "_law_far" "_law_far" 0 vn vn vn vn none vn vn
def o165 : Obj := ob_co [(vs "_law_far" 387), (vs "_law_far" 388), (vs "/claim/cut.py" 389), (vi 87 0), (vi 1 0), (vi 0 0), (vi 0 0), (vi 3 0), (vr 160), (.bool true), (vi 181 0), (vr 161), vn, (vr 162), (vr 163), (vr 164), (vi 394 0), (vi 87 0), (vs "/claim/cut.py" 395)]
def o166 : Obj := ob_fu (vt "function") (topS 16) "_law_far" "_law_far" 3 vn vn vn (vs "law_readround_k16_far_meetings" 374) none (vr 165) vn
def o167 : Obj := ob_tu []
def o168 : Obj := ob_fi vn []
def o169 : Obj := ob_fu vn (topS 17) "_law_lengths" "_law_lengths" 0 vn vn vn vn none vn vn
def o170 : Obj := ob_co [(vs "_law_lengths" 397), (vs "_law_lengths" 398), (vs "/claim/cut.py" 399), (vi 95 0), (vi 3 0), (vi 0 0), (vi 0 0), (vi 3 0), (vr 167), (.bool true), (vi 181 0), (vr 168), vn, vn, vn, (vr 169), (vi 400 0), (vi 95 0), (vs "/claim/cut.py" 401)]
def o171 : Obj := ob_fu (vt "function") (topS 17) "_law_lengths" "_law_lengths" 3 vn vn vn (vs "law_readround_k16_far_meetings" 374) none (vr 170) vn
def o172 : Obj := ob_tu []
def o173 : Obj := ob_fi vn []
def o174 : Obj := ob_tu [(vs "_law_found" 406), (vs "_law_due_here" 407)]
def o175 : Obj := ob_tu []
def o176 : Obj := ob_fu vn (topS 18) "_law_is" "_law_is" 0 vn vn vn vn none vn vn
def o177 : Obj := ob_co [(vs "_law_is" 403), (vs "_law_is" 404), (vs "/claim/cut.py" 405), (vi 101 0), (vi 2 0), (vi 0 0), (vi 0 0), (vi 3 0), (vr 172), (.bool true), (vi 181 0), (vr 173), vn, (vr 174), (vr 175), (vr 176), (vi 408 0), (vi 101 0), (vs "/claim/cut.py" 409)]
def o178 : Obj := ob_fu (vt "function") (topS 18) "_law_is" "_law_is" 3 vn vn vn (vs "law_readround_k16_far_meetings" 374) none (vr 177) vn
def o179 : Obj := ob_tu []
def o180 : Obj := ob_fi vn []
def o181 : Obj := ob_tu [(vs "_law_lengths_here" 414), (vs "_law_low" 415), (vs "_law_high" 416), (vs "_law_day" 417), (vs "_law_found" 418), (vs "_law_days" 419)]
def o182 : Obj := ob_tu []
def o183 : Obj := ob_fu vn (topS 19) "_law_begins" "_law_begins" 0 vn vn vn vn none vn vn
def o184 : Obj := ob_co [(vs "_law_begins" 411), (vs "_law_begins" 412), (vs "/claim/cut.py" 413), (vi 103 0), (vi 3 0), (vi 0 0), (vi 0 0), (vi 3 0), (vr 179), (.bool true), (vi 181 0), (vr 180), vn, (vr 181), (vr 182), (vr 183), (vi 420 0), (vi 103 0), (vs "/claim/cut.py" 421)]
def o185 : Obj := ob_fu (vt "function") (topS 19) "_law_begins" "_law_begins" 3 vn vn vn (vs "law_readround_k16_far_meetings" 374) none (vr 184) vn
def o186 : Obj := ob_tu []
def o187 : Obj := ob_fi vn []
def o188 : Obj := ob_tu [(vs "_law_lengths_here" 426), (vs "_law_year" 427), (vs "_law_turns" 428), (vs "_law_spot" 429)]
def o189 : Obj := ob_tu []
def o190 : Obj := ob_fu vn (topS 20) "_law_first" "_law_first" 0 vn vn vn vn none vn vn
def o191 : Obj := ob_co [(vs "_law_first" 423), (vs "_law_first" 424), (vs "/claim/cut.py" 425), (vi 112 0), (vi 2 0), (vi 0 0), (vi 0 0), (vi 3 0), (vr 186), (.bool true), (vi 181 0), (vr 187), vn, (vr 188), (vr 189), (vr 190), (vi 430 0), (vi 112 0), (vs "/claim/cut.py" 431)]
def o192 : Obj := ob_fu (vt "function") (topS 20) "_law_first" "_law_first" 3 vn vn vn (vs "law_readround_k16_far_meetings" 374) none (vr 191) vn
def o193 : Obj := ob_tu []
def o194 : Obj := ob_fi vn []
def o195 : Obj := ob_tu [(vs "_law_one" 436), (vs "_law_other" 437), (vs "_law_later" 438), (vs "_law_low" 439), (vs "_law_high" 440), (vs "_law_begins_here" 441), (vs "_law_day" 442)]
def o196 : Obj := ob_tu []
def o197 : Obj := ob_fu vn (topS 21) "_law_due" "_law_due" 0 vn vn vn vn none vn vn
def o198 : Obj := ob_co [(vs "_law_due" 433), (vs "_law_due" 434), (vs "/claim/cut.py" 435), (vi 115 0), (vi 5 0), (vi 0 0), (vi 0 0), (vi 3 0), (vr 193), (.bool true), (vi 181 0), (vr 194), vn, (vr 195), (vr 196), (vr 197), (vi 443 0), (vi 115 0), (vs "/claim/cut.py" 444)]
def o199 : Obj := ob_fu (vt "function") (topS 21) "_law_due" "_law_due" 3 vn vn vn (vs "law_readround_k16_far_meetings" 374) none (vr 198) vn
def o200 : Obj := ob_tu []
def o201 : Obj := ob_fi vn []
def o202 : Obj := ob_tu [(vs "_law_one" 449), (vs "_law_other" 450), (vs "_law_hold" 451), (vs "_law_year" 452), (vs "_law_high" 453), (vs "_law_number" 454), (vs "_law_later" 455), (vs "_law_low" 456), (vs "_law_first_here" 457), (vs "_law_second" 458), (vs "_law_due_here" 459), (vs "_law_again" 460)]
def o203 : Obj := ob_tu []
def o204 : Obj := ob_fu vn (topS 22) "_law_round_right" "_law_round_right" 0 vn vn vn vn none vn vn
def o205 : Obj := ob_co [(vs "_law_round_right" 446), (vs "_law_round_right" 447), (vs "/claim/cut.py" 448), (vi 121 0), (vi 3 0), (vi 0 0), (vi 0 0), (vi 3 0), (vr 200), (.bool true), (vi 181 0), (vr 201), vn, (vr 202), (vr 203), (vr 204), (vi 461 0), (vi 121 0), (vs "/claim/cut.py" 462)]
def o206 : Obj := ob_fu (vt "function") (topS 22) "_law_round_right" "_law_round_right" 3 vn vn vn (vs "law_readround_k16_far_meetings" 374) none (vr 205) vn
def o3_1 (P : Params) : Obj := ob_di [en P "__name__" 165 (vs "law_readround_k16_far_meetings" 374), en P "__doc__" 166 vn, en P "__package__" 167 vn, en P "__loader__" 168 (vb "__main__.__loader__#opaque"), en P "__spec__" 169 vn, en P "__annotations__" 170 (vr 6), en P "__builtins__" 171 (vr 4), en P "__file__" 173 (vs "/claim/cut.py" 172), en P "__cached__" 174 vn, en P "_wall" 193 (vr 21), en P "ReadError" 213 (vr 31), en P "BadCalendar" 229 (vr 44), en P "NoDay" 245 (vr 56), en P "is_number" 256 (vr 65), en P "are_numbers" 262 (vr 70), en P "need_day" 271 (vr 77), en P "Calendar" 352 (vr 136), en P "common_by" 367 (vr 147), en P "meeting" 373 (vr 152), en P "_law_draw" 386 (vr 159), en P "_law_far" 396 (vr 166), en P "_law_lengths" 402 (vr 171), en P "_law_is" 410 (vr 178), en P "_law_begins" 422 (vr 185), en P "_law_first" 432 (vr 192), en P "_law_due" 445 (vr 199), en P "_law_round_right" 463 (vr 206), en P "_law_wide_right" 469 (vr 211), en P "_law_one_way" 475 (vr 216), en P "_law_lone_right" 481 (vr 221), en P "law" 487 (vr 226)] 31
def o12_2 : Obj := ob_fi vn [(vi 1 0), (vi 0 0), (vr 20), (vi 5 0), (vi 0 0), (vr 27), (vi 7 0), (vi 0 0), (vr 40), (vi 9 0), (vi 0 0), (vr 52), (vi 12 0), (vi 0 0), (vr 64), (vi 14 0), (vi 0 0), (vr 69), (vi 19 0), (vi 0 0), (vr 76), (vi 22 0), (vi 0 0), (vr 83), (vi 55 0), (vi 0 0), (vr 146), (vi 62 0), (vi 0 0), (vr 151), (vi 77 0), (vi 0 0), (vr 158), (vi 87 0), (vi 0 0), (vr 165), (vi 95 0), (vi 0 0), (vr 170), (vi 101 0), (vi 0 0), (vr 177), (vi 103 0), (vi 0 0), (vr 184), (vi 112 0), (vi 0 0), (vr 191), (vi 115 0), (vi 0 0), (vr 198), (vi 121 0), (vi 0 0), (vr 205), (vi 133 0), (vi 0 0), (vr 210), (vi 141 0), (vi 0 0), (vr 215), (vi 151 0), (vi 0 0), (vr 220), (vi 164 0), (vi 0 0), (vr 225)]
def o207 : Obj := ob_tu []
def o208 : Obj := ob_fi vn []
def o209 : Obj := ob_fu vn (topS 23) "_law_wide_right" "_law_wide_right" 0 vn vn vn vn none vn vn
def o210 : Obj := ob_co [(vs "_law_wide_right" 464), (vs "_law_wide_right" 465), (vs "/claim/cut.py" 466), (vi 133 0), (vi 4 0), (vi 0 0), (vi 0 0), (vi 3 0), (vr 207), (.bool true), (vi 181 0), (vr 208), vn, vn, vn, (vr 209), (vi 467 0), (vi 133 0), (vs "/claim/cut.py" 468)]
def o211 : Obj := ob_fu (vt "function") (topS 23) "_law_wide_right" "_law_wide_right" 3 vn vn vn (vs "law_readround_k16_far_meetings" 374) none (vr 210) vn
def o212 : Obj := ob_tu []
def o213 : Obj := ob_fi vn []
def o214 : Obj := ob_fu vn (topS 24) "_law_one_way" "_law_one_way" 0 vn vn vn vn none vn vn
def o215 : Obj := ob_co [(vs "_law_one_way" 470), (vs "_law_one_way" 471), (vs "/claim/cut.py" 472), (vi 141 0), (vi 2 0), (vi 0 0), (vi 0 0), (vi 3 0), (vr 212), (.bool true), (vi 181 0), (vr 213), vn, vn, vn, (vr 214), (vi 473 0), (vi 141 0), (vs "/claim/cut.py" 474)]
def o216 : Obj := ob_fu (vt "function") (topS 24) "_law_one_way" "_law_one_way" 3 vn vn vn (vs "law_readround_k16_far_meetings" 374) none (vr 215) vn
def o217 : Obj := ob_tu []
def o218 : Obj := ob_fi vn []
def o219 : Obj := ob_fu vn (topS 25) "_law_lone_right" "_law_lone_right" 0 vn vn vn vn none vn vn
def o220 : Obj := ob_co [(vs "_law_lone_right" 476), (vs "_law_lone_right" 477), (vs "/claim/cut.py" 478), (vi 151 0), (vi 1 0), (vi 0 0), (vi 0 0), (vi 3 0), (vr 217), (.bool true), (vi 181 0), (vr 218), vn, vn, vn, (vr 219), (vi 479 0), (vi 151 0), (vs "/claim/cut.py" 480)]
def o221 : Obj := ob_fu (vt "function") (topS 25) "_law_lone_right" "_law_lone_right" 3 vn vn vn (vs "law_readround_k16_far_meetings" 374) none (vr 220) vn
def o222 : Obj := ob_tu []
def o223 : Obj := ob_fi vn []
def o224 : Obj := ob_fu vn (topS 26) "law" "law" 0 vn vn vn vn none vn vn
def o225 : Obj := ob_co [(vs "law" 482), (vs "law" 483), (vs "/claim/cut.py" 484), (vi 164 0), (vi 1 0), (vi 0 0), (vi 0 0), (vi 3 0), (vr 222), (.bool true), (vi 181 0), (vr 223), vn, vn, vn, (vr 224), (vi 485 0), (vi 164 0), (vs "/claim/cut.py" 486)]
def o226 : Obj := ob_fu (vt "function") (topS 26) "law" "law" 3 vn vn vn (vs "law_readround_k16_far_meetings" 374) none (vr 225) vn
def TB (P : Params) : BT := (bn (boot_o_0 P) (bn (boot_o_1 P) (bn (boot_o_3 P) (bn (boot_o_7 P) bz bz) bz) (bn (boot_o_5 P) (bn (boot_o_9 P) bz bz) bz)) (bn (boot_o_2 P) (bn (boot_o_4 P) (bn (boot_o_8 P) bz bz) bz) (bn (boot_o_6 P) (bn (boot_o_10 P) bz bz) bz)))
def T0 (P : Params) : BT := (bn (boot_o_0 P) (bn (boot_o_1 P) (bn (boot_o_3 P) (bn (boot_o_7 P) bz bz) (bn o11 bz bz)) (bn (boot_o_5 P) (bn (boot_o_9 P) bz bz) (bn o13 bz bz))) (bn (boot_o_2 P) (bn (boot_o_4 P) (bn (boot_o_8 P) bz bz) (bn o12 bz bz)) (bn (boot_o_6 P) (bn (boot_o_10 P) bz bz) (bn o14 bz bz))))
abbrev T1 : Params → BT := T0
def T2 (P : Params) : BT := (bn (boot_o_0 P) (bn (boot_o_1 P) (bn (o3 P) (bn (boot_o_7 P) (bn o15 (bn o31 (bn o63 (bn o127 bz bz) (bn o191 bz bz)) (bn o95 (bn o159 bz bz) bz)) (bn o47 (bn o79 (bn o143 bz bz) bz) (bn o111 (bn o175 bz bz) bz))) (bn o23 (bn o39 (bn o71 (bn (o135 P) bz bz) (bn o199 bz bz)) (bn o103 (bn o167 bz bz) bz)) (bn (o55 P) (bn o87 (bn o151 bz bz) bz) (bn o119 (bn o183 bz bz) bz)))) (bn o11 (bn o19 (bn o35 (bn o67 (bn o131 bz bz) (bn o195 bz bz)) (bn o99 (bn o163 bz bz) bz)) (bn o51 (bn o83 (bn o147 bz bz) bz) (bn o115 (bn o179 bz bz) bz))) (bn o27 (bn (o43 P) (bn o75 (bn o139 bz bz) (bn o203 bz bz)) (bn o107 (bn o171 bz bz) bz)) (bn o59 (bn o91 (bn o155 bz bz) bz) (bn o123 (bn o187 bz bz) bz))))) (bn (boot_o_5 P) (bn (boot_o_9 P) (bn o17 (bn o33 (bn o65 (bn o129 bz bz) (bn o193 bz bz)) (bn o97 (bn o161 bz bz) bz)) (bn (o49 P) (bn o81 (bn o145 bz bz) bz) (bn o113 (bn o177 bz bz) bz))) (bn o25 (bn o41 (bn o73 (bn o137 bz bz) (bn o201 bz bz)) (bn o105 (bn o169 bz bz) bz)) (bn o57 (bn o89 (bn o153 bz bz) bz) (bn o121 (bn o185 bz bz) bz)))) (bn o13 (bn o21 (bn (o37 P) (bn o69 (bn o133 bz bz) (bn o197 bz bz)) (bn o101 (bn o165 bz bz) bz)) (bn o53 (bn o85 (bn o149 bz bz) bz) (bn o117 (bn o181 bz bz) bz))) (bn o29 (bn o45 (bn o77 (bn o141 bz bz) (bn o205 bz bz)) (bn o109 (bn o173 bz bz) bz)) (bn o61 (bn o93 (bn o157 bz bz) bz) (bn o125 (bn o189 bz bz) bz)))))) (bn (boot_o_2 P) (bn (boot_o_4 P) (bn (boot_o_8 P) (bn o16 (bn o32 (bn o64 (bn o128 bz bz) (bn o192 bz bz)) (bn o96 (bn o160 bz bz) bz)) (bn o48 (bn (o80 P) (bn o144 bz bz) bz) (bn o112 (bn o176 bz bz) bz))) (bn (o24 P) (bn o40 (bn o72 (bn o136 bz bz) (bn o200 bz bz)) (bn o104 (bn o168 bz bz) bz)) (bn o56 (bn o88 (bn o152 bz bz) bz) (bn o120 (bn o184 bz bz) bz)))) (bn o12_1 (bn o20 (bn o36 (bn o68 (bn o132 bz bz) (bn o196 bz bz)) (bn o100 (bn o164 bz bz) bz)) (bn o52 (bn o84 (bn o148 bz bz) bz) (bn o116 (bn o180 bz bz) bz))) (bn o28 (bn o44 (bn o76 (bn o140 bz bz) (bn o204 bz bz)) (bn o108 (bn o172 bz bz) bz)) (bn o60 (bn o92 (bn o156 bz bz) bz) (bn o124 (bn o188 bz bz) bz))))) (bn (boot_o_6 P) (bn (boot_o_10 P) (bn o18 (bn o34 (bn o66 (bn o130 bz bz) (bn o194 bz bz)) (bn o98 (bn o162 bz bz) bz)) (bn o50 (bn o82 (bn o146 bz bz) bz) (bn o114 (bn o178 bz bz) bz))) (bn o26 (bn o42 (bn o74 (bn o138 bz bz) (bn o202 bz bz)) (bn o106 (bn o170 bz bz) bz)) (bn o58 (bn o90 (bn o154 bz bz) bz) (bn o122 (bn o186 bz bz) bz)))) (bn o14 (bn o22 (bn o38 (bn o70 (bn o134 bz bz) (bn o198 bz bz)) (bn o102 (bn o166 bz bz) bz)) (bn o54 (bn o86 (bn o150 bz bz) bz) (bn o118 (bn o182 bz bz) bz))) (bn (o30 P) (bn o46 (bn o78 (bn o142 bz bz) (bn o206 bz bz)) (bn o110 (bn o174 bz bz) bz)) (bn o62 (bn o94 (bn o158 bz bz) bz) (bn o126 (bn o190 bz bz) bz)))))))
def T3 (P : Params) : BT := (bn (boot_o_0 P) (bn (boot_o_1 P) (bn (o3_1 P) (bn (boot_o_7 P) (bn o15 (bn o31 (bn o63 (bn o127 bz bz) (bn o191 bz bz)) (bn o95 (bn o159 bz bz) (bn o223 bz bz))) (bn o47 (bn o79 (bn o143 bz bz) (bn o207 bz bz)) (bn o111 (bn o175 bz bz) bz))) (bn o23 (bn o39 (bn o71 (bn (o135 P) bz bz) (bn o199 bz bz)) (bn o103 (bn o167 bz bz) bz)) (bn (o55 P) (bn o87 (bn o151 bz bz) (bn o215 bz bz)) (bn o119 (bn o183 bz bz) bz)))) (bn o11 (bn o19 (bn o35 (bn o67 (bn o131 bz bz) (bn o195 bz bz)) (bn o99 (bn o163 bz bz) bz)) (bn o51 (bn o83 (bn o147 bz bz) (bn o211 bz bz)) (bn o115 (bn o179 bz bz) bz))) (bn o27 (bn (o43 P) (bn o75 (bn o139 bz bz) (bn o203 bz bz)) (bn o107 (bn o171 bz bz) bz)) (bn o59 (bn o91 (bn o155 bz bz) (bn o219 bz bz)) (bn o123 (bn o187 bz bz) bz))))) (bn (boot_o_5 P) (bn (boot_o_9 P) (bn o17 (bn o33 (bn o65 (bn o129 bz bz) (bn o193 bz bz)) (bn o97 (bn o161 bz bz) (bn o225 bz bz))) (bn (o49 P) (bn o81 (bn o145 bz bz) (bn o209 bz bz)) (bn o113 (bn o177 bz bz) bz))) (bn o25 (bn o41 (bn o73 (bn o137 bz bz) (bn o201 bz bz)) (bn o105 (bn o169 bz bz) bz)) (bn o57 (bn o89 (bn o153 bz bz) (bn o217 bz bz)) (bn o121 (bn o185 bz bz) bz)))) (bn o13 (bn o21 (bn (o37 P) (bn o69 (bn o133 bz bz) (bn o197 bz bz)) (bn o101 (bn o165 bz bz) bz)) (bn o53 (bn o85 (bn o149 bz bz) (bn o213 bz bz)) (bn o117 (bn o181 bz bz) bz))) (bn o29 (bn o45 (bn o77 (bn o141 bz bz) (bn o205 bz bz)) (bn o109 (bn o173 bz bz) bz)) (bn o61 (bn o93 (bn o157 bz bz) (bn o221 bz bz)) (bn o125 (bn o189 bz bz) bz)))))) (bn (boot_o_2 P) (bn (boot_o_4 P) (bn (boot_o_8 P) (bn o16 (bn o32 (bn o64 (bn o128 bz bz) (bn o192 bz bz)) (bn o96 (bn o160 bz bz) (bn o224 bz bz))) (bn o48 (bn (o80 P) (bn o144 bz bz) (bn o208 bz bz)) (bn o112 (bn o176 bz bz) bz))) (bn (o24 P) (bn o40 (bn o72 (bn o136 bz bz) (bn o200 bz bz)) (bn o104 (bn o168 bz bz) bz)) (bn o56 (bn o88 (bn o152 bz bz) (bn o216 bz bz)) (bn o120 (bn o184 bz bz) bz)))) (bn o12_2 (bn o20 (bn o36 (bn o68 (bn o132 bz bz) (bn o196 bz bz)) (bn o100 (bn o164 bz bz) bz)) (bn o52 (bn o84 (bn o148 bz bz) (bn o212 bz bz)) (bn o116 (bn o180 bz bz) bz))) (bn o28 (bn o44 (bn o76 (bn o140 bz bz) (bn o204 bz bz)) (bn o108 (bn o172 bz bz) bz)) (bn o60 (bn o92 (bn o156 bz bz) (bn o220 bz bz)) (bn o124 (bn o188 bz bz) bz))))) (bn (boot_o_6 P) (bn (boot_o_10 P) (bn o18 (bn o34 (bn o66 (bn o130 bz bz) (bn o194 bz bz)) (bn o98 (bn o162 bz bz) (bn o226 bz bz))) (bn o50 (bn o82 (bn o146 bz bz) (bn o210 bz bz)) (bn o114 (bn o178 bz bz) bz))) (bn o26 (bn o42 (bn o74 (bn o138 bz bz) (bn o202 bz bz)) (bn o106 (bn o170 bz bz) bz)) (bn o58 (bn o90 (bn o154 bz bz) (bn o218 bz bz)) (bn o122 (bn o186 bz bz) bz)))) (bn o14 (bn o22 (bn o38 (bn o70 (bn o134 bz bz) (bn o198 bz bz)) (bn o102 (bn o166 bz bz) bz)) (bn o54 (bn o86 (bn o150 bz bz) (bn o214 bz bz)) (bn o118 (bn o182 bz bz) bz))) (bn (o30 P) (bn o46 (bn o78 (bn o142 bz bz) (bn o206 bz bz)) (bn o110 (bn o174 bz bz) bz)) (bn o62 (bn o94 (bn o158 bz bz) (bn o222 bz bz)) (bn o126 (bn o190 bz bz) bz)))))))
noncomputable abbrev S0 (w : World) (os : OsState) : SharedT := stA' T0 15 187 w os
noncomputable abbrev S1 (w : World) (os : OsState) : SharedT := stA' T1 15 187 w os
noncomputable abbrev S2 (w : World) (os : OsState) : SharedT := stA' T2 207 464 w os
noncomputable abbrev S3 (w : World) (os : OsState) : SharedT := stA' T3 227 488 w os
theorem cpB (w : World) : putAll (boot_heap w.params).objs.toList .nil 0 = some (TB w.params, 11) := by kernel_rfl
theorem cpP (w : World) (os : OsState) : stepsF (stQ R.prog w) 11 (bootAnn w) 12 (bootT w os (TB w.params, 11)) (topStub R.prog) = some (S0 w os, ⟨denQ tabQ (cdOf R.prog env0), cdOf R.prog env0, ⟨0, 0, 0, 0⟩, [topFrame ⟨0, 0, 0, 0⟩]⟩) := by kernel_rfl
theorem cpK (w : World) (os : OsState) : pieceF (stQ R.prog w) 11 (bootAnn w) 1 1 (S0 w os) (blockOf (behindTheImports R.prog) env0 (cdOf R.prog env0) ⟨0, 0, 0, 0⟩ [topFrame ⟨0, 0, 0, 0⟩]) = some (.next, S1 w os, cdOf R.prog env0, ⟨0, 0, 0, 0⟩) := by kernel_rfl
set_option maxHeartbeats 0 in
theorem cp1 (w : World) (os : OsState) : pieceF (stQ R.prog w) 11 (bootAnn w) 1 1519 (S1 w os) (piecesOf (((behindTheImports R.prog).drop 0).take 23) env0 (cdOf R.prog env0) ⟨0, 0, 0, 0⟩ [topFrame ⟨0, 0, 0, 0⟩]) = some (.next, S2 w os, cdOf R.prog env0, ⟨121, 0, 132, 93⟩) := by kernel_rfl
set_option maxHeartbeats 0 in
theorem cp2 (w : World) (os : OsState) : pieceF (stQ R.prog w) 11 (bootAnn w) 1 105 (S2 w os) (piecesOf (((behindTheImports R.prog).drop 23).take 4) env0 (cdOf R.prog env0) ⟨121, 0, 132, 93⟩ [topFrame ⟨0, 0, 0, 0⟩]) = some (.next, S3 w os, cdOf R.prog env0, ⟨164, 0, 179, 101⟩) := by kernel_rfl
theorem cpL (w : World) (os : OsState) : goF (stQ R.prog w) 11 (bootAnn w) 5 (S3 w os) ⟨doneF .next, cdOf R.prog env0, ⟨164, 0, 179, 101⟩, [topFrame ⟨0, 0, 0, 0⟩]⟩ = some (S3 w os) := by kernel_rfl
noncomputable abbrev SE (w : World) (os : OsState) : SharedT := S3 w os
set_option maxHeartbeats 0 in
theorem cpTop (w : World) (os : OsState) : topRun treeTable R.prog w (boot_heap w.params).objs.size (bootAnn w) 100000 ⟨boot_heap w.params, #[], boot_drawn, boot_toks, os⟩ (topStub R.prog) = some (SE w os).abs :=
  cp_mono (N := 1642) rfl (cp_boot (cpB w) (cp_pre (cpP w os) (cp_block (cpK w os) (cp_piece (cp1 w os) (cp_piece (cp2 w os) (cp_last (by kernel_rfl) (cpL w os)))))))
end
abbrev s_law_draw : Stmt := topS 15
abbrev s_law_lengths : Stmt := topS 17
abbrev s_law_far : Stmt := topS 16
abbrev s_law_first : Stmt := topS 20
abbrev s_is_number : Stmt := topS 6
abbrev s_are_numbers : Stmt := topS 7
abbrev s_Calendar_init : Stmt := inClass (topS 10) 0
abbrev s_law_begins : Stmt := topS 19
abbrev s_law_due : Stmt := topS 21
abbrev s_law_is : Stmt := topS 18
abbrev s_need_day : Stmt := topS 9
abbrev s_Calendar_turn : Stmt := inClass (topS 10) 3
abbrev s_common_by : Stmt := topS 12
abbrev s_Calendar_years : Stmt := inClass (topS 10) 2
abbrev s_Calendar_first : Stmt := inClass (topS 10) 5
abbrev s_meeting : Stmt := topS 13
abbrev s_law_round_right : Stmt := topS 22
abbrev s_law_wide_right : Stmt := topS 23
abbrev s_law_one_way : Stmt := topS 24
abbrev s_law_lone_right : Stmt := topS 25
abbrev s_law : Stmt := topS 26
def dd_law_draw : He.DefD := ⟨("_law_draw", none), "_law_draw", "_law_draw", defArgs s_law_draw, defBody s_law_draw, defScope s_law_draw, [], []⟩
def dd_law_lengths : He.DefD := ⟨("_law_lengths", none), "_law_lengths", "_law_lengths", defArgs s_law_lengths, defBody s_law_lengths, defScope s_law_lengths, [], []⟩
def dd_law_far : He.DefD := ⟨("_law_far", none), "_law_far", "_law_far", defArgs s_law_far, defBody s_law_far, defScope s_law_far, [], []⟩
def dd_law_first : He.DefD := ⟨("_law_first", none), "_law_first", "_law_first", defArgs s_law_first, defBody s_law_first, defScope s_law_first, [], []⟩
def dd_is_number : He.DefD := ⟨("is_number", none), "is_number", "is_number", defArgs s_is_number, defBody s_is_number, defScope s_is_number, [], []⟩
def dd_are_numbers : He.DefD := ⟨("are_numbers", none), "are_numbers", "are_numbers", defArgs s_are_numbers, defBody s_are_numbers, defScope s_are_numbers, [], []⟩
def dd_Calendar_init : He.DefD := ⟨("Calendar", some "__init__"), "__init__", "Calendar.__init__", defArgs s_Calendar_init, defBody s_Calendar_init, defScope s_Calendar_init, [], []⟩
def dd_law_begins : He.DefD := ⟨("_law_begins", none), "_law_begins", "_law_begins", defArgs s_law_begins, defBody s_law_begins, defScope s_law_begins, [], []⟩
def dd_law_due : He.DefD := ⟨("_law_due", none), "_law_due", "_law_due", defArgs s_law_due, defBody s_law_due, defScope s_law_due, [], []⟩
def dd_law_is : He.DefD := ⟨("_law_is", none), "_law_is", "_law_is", defArgs s_law_is, defBody s_law_is, defScope s_law_is, [], []⟩
def dd_need_day : He.DefD := ⟨("need_day", none), "need_day", "need_day", defArgs s_need_day, defBody s_need_day, defScope s_need_day, [], []⟩
def dd_Calendar_turn : He.DefD := ⟨("Calendar", some "turn"), "turn", "Calendar.turn", defArgs s_Calendar_turn, defBody s_Calendar_turn, defScope s_Calendar_turn, [], []⟩
def dd_common_by : He.DefD := ⟨("common_by", none), "common_by", "common_by", defArgs s_common_by, defBody s_common_by, defScope s_common_by, [], []⟩
def dd_Calendar_years : He.DefD := ⟨("Calendar", some "years"), "years", "Calendar.years", defArgs s_Calendar_years, defBody s_Calendar_years, defScope s_Calendar_years, [], []⟩
def dd_Calendar_first : He.DefD := ⟨("Calendar", some "first"), "first", "Calendar.first", defArgs s_Calendar_first, defBody s_Calendar_first, defScope s_Calendar_first, [], []⟩
def dd_meeting : He.DefD := ⟨("meeting", none), "meeting", "meeting", defArgs s_meeting, defBody s_meeting, defScope s_meeting, [], []⟩
def dd_law_round_right : He.DefD := ⟨("_law_round_right", none), "_law_round_right", "_law_round_right", defArgs s_law_round_right, defBody s_law_round_right, defScope s_law_round_right, [], []⟩
def dd_law_wide_right : He.DefD := ⟨("_law_wide_right", none), "_law_wide_right", "_law_wide_right", defArgs s_law_wide_right, defBody s_law_wide_right, defScope s_law_wide_right, [], []⟩
def dd_law_one_way : He.DefD := ⟨("_law_one_way", none), "_law_one_way", "_law_one_way", defArgs s_law_one_way, defBody s_law_one_way, defScope s_law_one_way, [], []⟩
def dd_law_lone_right : He.DefD := ⟨("_law_lone_right", none), "_law_lone_right", "_law_lone_right", defArgs s_law_lone_right, defBody s_law_lone_right, defScope s_law_lone_right, [], []⟩
def dd_law : He.DefD := ⟨("law", none), "law", "law", defArgs s_law, defBody s_law, defScope s_law, [], []⟩
def fns : List He.DefD := [dd_law_draw, dd_law_lengths, dd_law_far, dd_law_first, dd_is_number, dd_are_numbers, dd_Calendar_init, dd_law_begins, dd_law_due, dd_law_is, dd_need_day, dd_Calendar_turn, dd_common_by, dd_Calendar_years, dd_Calendar_first, dd_meeting, dd_law_round_right, dd_law_wide_right, dd_law_one_way, dd_law_lone_right, dd_law]
def fas : List He.Fa := [.free "len", .glo "_law_draw", .free "range", .free "divmod", .free "sum", .free "int", .free "isinstance", .free "bool", .glo "is_number", .free "list", .free "all", .glo "are_numbers", .exc "BadCalendar", .glo "BadCalendar", .cls "Calendar", .noat "Calendar" "lengths", .noat "Calendar" "begins", .noat "Calendar" "whole", .glo "_law_begins", .free "max", .exc "NoDay", .glo "NoDay", .glo "need_day", .glo "common_by", .meth "Calendar" "turn", .meth "Calendar" "years", .meth "Calendar" "first", .free "min", .glo "_law_far", .glo "_law_first", .mkr "Calendar", .glo "_law_due", .glo "_law_is", .glo "meeting", .glo "Calendar", .glo "_law_one_way", .glo "_law_lengths", .glo "_law_round_right", .glo "_law_wide_right", .glo "_law_lone_right", .glo "law"]
def loose : List PySem.Str := (["_wall", "ReadError", "BadCalendar", "NoDay", "is_number", "are_numbers", "need_day", "Calendar", "common_by", "meeting", "_law_draw", "_law_far", "_law_lengths", "_law_is", "_law_begins", "_law_first", "_law_due", "_law_round_right", "_law_wide_right", "_law_one_way", "_law_lone_right"] : List PySem.Str)
def adrs : List Addr := [3, 6, 4, 21, 31, 44, 56, 65, 70, 77, 136, 147, 152, 159, 166, 171, 178, 185, 192, 199, 206, 211, 216, 221, 226, 0, 20, 30, 43, 55, 64, 69, 76, 135, 146, 151, 158, 165, 170, 177, 184, 191, 198, 205, 210, 215, 220, 225, 15, 16, 17, 18, 19, 29, 32, 42, 54, 59, 60, 61, 62, 63, 66, 67, 68, 71, 72, 73, 74, 75, 91, 98, 105, 112, 119, 126, 133, 134, 137, 138, 141, 142, 143, 144, 145, 148, 149, 150, 153, 154, 155, 156, 157, 160, 161, 162, 163, 164, 167, 168, 169, 172, 173, 174, 175, 176, 179, 180, 181, 182, 183, 186, 187, 188, 189, 190, 193, 194, 195, 196, 197, 200, 201, 202, 203, 204, 207, 208, 209, 212, 213, 214, 217, 218, 219, 222, 223, 224, 90, 97, 104, 111, 118, 125, 132, 85, 86, 87, 88, 89, 92, 93, 94, 95, 96, 99, 100, 101, 102, 103, 106, 107, 108, 109, 110, 113, 114, 115, 116, 117, 120, 121, 122, 123, 124, 127, 128, 129, 130, 131, 2]
def exs : List (PySem.W.Frag → Bool) := []
abbrev hk : PySem.W.Hook := hookL adrs fas fns exs
def ob (s : PySem.W.SharedT) : AlX := obsLG adrs fas fns exs (HandSHeadRun.getT s)
theorem ob_eq (s : PySem.W.SharedT) : ob s = hk.obs s.abs := obsLG_eq (HandSHeadRun.getT_eq s)
set_option maxHeartbeats 0 in
open PySem.W PySem.Calls HandSHeadRun in
theorem look1 (w : World) (os : OsState) : HandSHeadRun.looksF R.prog (PySem.W.boot_heap w.params) (SE w os).abs = true := by kernel_rfl
set_option maxHeartbeats 0 in
open PySem.W PySem.Calls HandSHeadRun in
theorem look2 (w : World) (os : OsState) : HandSHeadRun.seenQ (PySem.W.view R.prog [26]) loose (importedModules R.prog.main.body) (fun s => PySem.W.xlAt (PySem.W.view R.prog [26]) [] s && PySem.W.recOk R.toRowW.records s) (SE w os).abs = PySem.W.openGood (PySem.W.view R.prog [26]) loose := by kernel_rfl
set_option maxHeartbeats 0 in
open PySem.W PySem.Calls HandSHeadRun in
theorem look3 (w : World) (os : OsState) : ob (SE w os) = hk.val w := by kernel_rfl
open PySem.W PySem.Calls HandSHeadRun in
theorem topEnd (w : World) (os : OsState) : ∃ s, TopEnd R (PySem.W.view R.prog [26]) loose hk ob 100000 w os s := ⟨SE w os, cpTop w os, look1 w os, look2 w os, look3 w os⟩
end Dl
section
open PySem PySem.W PySem.Calls PyProof.Rows
set_option maxRecDepth 100000
set_option maxHeartbeats 0
theorem Dl.law_name : (HandSHeadRun.topDef (OpenLaw.row PySem.Challenge.rw_readround_k16_far_meetings).prog 26).name = ("law" : PySem.Str) := by kernel_rfl
theorem Dl.law_dflt : (HandSHeadRun.topDef (OpenLaw.row PySem.Challenge.rw_readround_k16_far_meetings).prog 26).params.defaults = [] := by kernel_rfl
theorem Dl.lawOf (hc : WalkO (view (OpenLaw.row PySem.Challenge.rw_readround_k16_far_meetings).prog [26]) Dl.loose (XL (view (OpenLaw.row PySem.Challenge.rw_readround_k16_far_meetings).prog [26]) []) Dl.hk.says (OpenLaw.row PySem.Challenge.rw_readround_k16_far_meetings).toRowW (HandSHeadRun.topDef (OpenLaw.row PySem.Challenge.rw_readround_k16_far_meetings).prog 26) [] (fun f vs => PySem.call f vs)) : PySem.Challenge.rw_readround_k16_far_meetings.Holds := by
  w_on; o_law
  refine Dl.head_cp (r := OpenLaw.row PySem.Challenge.rw_readround_k16_far_meetings) (q := view (OpenLaw.row PySem.Challenge.rw_readround_k16_far_meetings).prog [26]) (H := Dl.hk) (ob := Dl.ob) (M := 100000) (loose := Dl.loose) (d := HandSHeadRun.topDef (OpenLaw.row PySem.Challenge.rw_readround_k16_far_meetings).prog 26) (kwd := []) Dl.ob_eq
    (by kernel_rfl) (fun s => by kernel_rfl) Dl.topEnd (by kernel_rfl) (by kernel_rfl) (by kernel_rfl) (by rfl) (by first | assumption | decide +kernel) (by decide +kernel) ⟨rfl, rfl, rfl, rfl, rfl, by decide +kernel⟩ ?hw ?hc
  case hw => w_witness2
  case hc => exact hc
end
namespace Dl
open PySem L2 PyProof.Rows
set_option Elab.async false
set_option linter.all false
set_option maxRecDepth 100000
open PySem L2 PyProof.Rows
/-! ### kinds, books: contracts -/
mutual
/-- data through and through -/
def D.dat : D → Bool
  | .non => true
  | .bl _ => true
  | .int _ => true
  | .str _ => true
  | .tup xs => datL xs
  | .lst xs => datL xs
  | .dct _ => true
  | _ => false
def datL : List D → Bool
  | [] => true
  | x :: xs => D.dat x && datL xs
end
theorem datL_iff {xs : List D} : datL xs = true ↔ ∀ x ∈ xs, x.dat = true := by
  induction xs with
  | nil => simp [datL]
  | cons x xs ih => simp [datL, ih]
/-- isinstance of data and a built-in type -/
def isTy : D → String → Bool
  | .bl _, n => n == "bool" || n == "int"
  | .int _, n => n == "int"
  | .str _, n => n == "str"
  | .tup _, n => n == "tuple"
  | .lst _, n => n == "list"
  | .dct _, n => n == "dict"
  | _, _ => false
theorem rc_isiD {K : PySem.W.Frag} {μ : Mu} {P : D → Mu → Prop} {x : D} {n : String} (hd : x.dat = true) (hn : n = "int" ∨ n = "bool" ∨ n = "str" ∨ n = "list" ∨ n = "tuple") (h : P (.bl (isTy x n)) μ) : RC K (rIsi K) [x, .ty n] μ P := by
  cases x <;> (try (simp [D.dat] at hd; done)) <;> rcases hn with rfl | rfl | rfl | rfl | rfl <;> exact rc_isiB rfl (by rfl) h
theorem isTy_int {x : D} (h : isTy x "int" = true) (h2 : isTy x "bool" = false) : ∃ i, x = .int i := by
  cases x <;> simp_all [isTy]
theorem isTy_list {x : D} (h : isTy x "list" = true) : ∃ i, x = .lst i := by
  cases x <;> simp_all [isTy]
def isNum : D → Int → Int → Bool
  | .int i, lo, hi => decide (lo ≤ i) && decide (i ≤ hi)
  | _, _, _ => false
def c_is_number (K : PySem.W.Frag) : CT := fun ds μ P PX => ∃ x lo hi, ds = [x, .int lo, .int hi] ∧ x.dat = true ∧ P (.bl (isNum x lo hi)) μ
def t_is_number (K : PySem.W.Frag) (E : XK) : TS :=
    (tRet (tAndV (tCB (rIsi K) (tCons (tVar 0) (tCons (tC (.ty "int")) tNil))) (tAndV (tNotV (tCB (rIsi K) (tCons (tVar 0) (tCons (tC (.ty "bool")) tNil)))) (tChain (rI0 fun i j => .bl (decide (i ≤ j))) (rI0 fun i j => .bl (decide (i ≤ j))) (tVar 1) (tVar 0) (tVar 2)))))
local macro_rules | `(tactic| wtm_at "dS") => `(tactic| with_reducible (show DS _ _ _ _ _ _; first
  | refine q_set ?_
  | refine q_when ?_
  | refine ds_ret ?_
  | refine ds_set ?_
  | refine q_drop ?_
  | refine q_if ?_
  | refine q_asg ?_
  | refine q_par ?_
  | refine q_fld ?_
  | refine ds_drop ?_
  | refine s_when ?_
  | refine ds_if ?_
  | refine ds_asg ?_
  | refine ds_next ?_
  | refine ds_par ?_
  | refine ds_fld ?_
  | refine ds_retN ?_))
local macro_rules | `(tactic| wtm_at "dE") => `(tactic| with_reducible (show DE _ _ _ _ _ _; first
  | refine de_op ?_
  | refine de_int ?_
  | refine de_cb ?_
  | refine de_bl ?_
  | refine de_non ?_
  | refine de_str ?_
  | refine de_ty ?_
  | refine de_loc ?_
  | refine de_un ?_
  | refine de_andV ?_
  | refine de_orV ?_
  | refine de_notV ?_
  | refine de_if ?_
  | refine de_chain ?_
  | refine de_chain3 ?_
  | refine de_isN ?_
  | refine de_notN ?_
  | refine de_sl ?_
  | refine de_bm ?_
  | refine de_bm0 ?_))
local macro_rules | `(tactic| wtm_at "dT") => `(tactic| with_reducible (show DT _ _ _ _ _ _; first
  | refine dt_test ?_
  | refine dt_truth ?_
  | refine dt_and ?_
  | refine dt_or ?_
  | refine dt_not ?_
  | refine dt_B ?_
  | refine dt_yes ?_))
local macro_rules | `(tactic| wtm_at "dO") => `(tactic| with_reducible (first
  | refine da_cons ?_
  | refine da_nil ?_
  | refine ro_i ?_
  | refine ro_b ?_
  | refine ro_addI ?_
  | refine ro_eqI ?_
  | refine ro_neI ?_
  | refine ru_i ?_
  | refine ro_ip ?_
  | refine rc_max2' ?_
  | refine rc_min2' ?_
  | refine ro_eqB ?_
  | refine ro_neB ?_
  | refine ro_isB ?_
  | refine ro_notB ?_
  | refine do_no ?_
  | refine do_part ?_
  | refine dg_name ?_
  | refine dgs_cons ?_
  | refine dgs_nil ?_
  | refine dg_sub ?_
  | refine di_range1 ?_
  | refine di_range2 ?_
  | refine di_any ?_
  | refine di_enum' ?_))
local macro_rules | `(tactic| wtm_at "v") => `(tactic| ((with_reducible show DE _ _ (tVar _) _ _ _); refine de_var (by first | rfl | assumption) ?_))
local macro_rules | `(tactic| wtm_at "h") => `(tactic| with_reducible refine ⟨_, rfl, ?_⟩)
local macro_rules | `(tactic| wtm_at "b") => `(tactic| ((first | refine ⟨_, rfl, br ?_ ?_⟩ | refine ⟨_, rfl, br' ?_ ?_⟩ | refine br ?_ ?_ | refine br' ?_ ?_ | fail) <;> intro hb <;> (try contradiction) <;> (try (simp only [decide_eq_true_eq, decide_eq_false_iff_not, Bool.not_eq_true', Bool.not_eq_false', Bool.not_true, Bool.not_false, Bool.not_eq_eq_eq_not, reduceCtorEq, List.length_map] at hb)) <;> (try (exfalso; omega; done))))
local macro_rules | `(tactic| wtm_at "i") => `(tactic| first | refine rc_isiD (by assumption) (by decide) ?_ | refine rc_isiB rfl (by first | rfl | decide +kernel) ?_)
local macro_rules | `(tactic| wtm_at "r") => `(tactic| refine ret_same0 (Nat.le_refl _) (by assumption) (by first | rfl | simp [D.cl, clL]) ?_)
local macro_rules | `(tactic| wtm_at "g") => `(tactic| repeat' first | wtm_at "v" | wtm_at "dE" | wtm_at "dO" | wtm_at "dT" | wtm_at "dS" | fail)
local macro_rules | `(tactic| wtm_at "a") => `(tactic| repeat' first | wtm_at "v" | wtm_at "dE" | wtm_at "dO" | wtm_at "dT" | wtm_at "dS" | wtm_at "i" | wtm_at "l" | wtm_at "x" | wtm_at "h" | wtm_at "b" | fail)
local macro_rules | `(tactic| wtm_at "l") => `(tactic| ((with_reducible show RC _ (rLen _) _ _ _); first | refine rc_lenL (.lst _) ?_ | refine rc_lenT' (.tup _) ?_ | refine rc_lenL (.rdl _) ?_ | refine rc_lenL (.own (by first | assumption | with_reducible exact mu_last)) ?_))
local macro_rules | `(tactic| wtm_at "x") => `(tactic| refine ro_ixT (.tup _) rfl ?_)
local macro_rules | `(tactic| wtm_at "ow") => `(tactic| first | assumption | with_reducible exact mu_last | exact mu_old (by assumption) | (simp; done) | fail)
local macro_rules | `(tactic| wtm_at "m") => `(tactic| refine ⟨ty_list (.own (by wtm_at "ow")), ?_⟩)
local macro_rules | `(tactic| wtm_at "e") => `(tactic| repeat' first | wtm_at "v" | wtm_at "dE" | wtm_at "dO" | wtm_at "dT" | wtm_at "i" | wtm_at "l" | wtm_at "x" | wtm_at "h" | wtm_at "b" | fail)
local macro_rules | `(tactic| wtm_at "sz") => `(tactic| ((with_reducible show Sz _ ∧ _); refine And.intro (by unfold Sz; first | decide | (simp; done) | (simp; omega) | omega) ?_))
local macro_rules | `(tactic| wtm_at "d2") => `(tactic| with_reducible (first
  | refine de_tupZ ?_
  | refine de_revL ?_
  | refine de_call (by assumption) ?_))
local macro_rules | `(tactic| wtm_at "o2") => `(tactic| first
  | refine ro_mod (by first | decide | omega) ?_
  | refine ro_pow ⟨by decide, by decide, by decide⟩ ?_
  | refine rs_anyL (.lst _) ?_
  | refine ro_mulI (by first | exact .inl ⟨by omega, by omega⟩ | exact .inr ⟨by omega, by omega⟩) ?_
  | refine rc_list (.lst _) ?_
  | refine dg_tup rfl ?_
  | fail)
local macro_rules | `(tactic| wtm_at "h2") => `(tactic| with_reducible (first | refine two_i ?_ | refine ⟨_, Ls.lst _, ?_⟩))
local macro_rules | `(tactic| wtm_at "sP") => `(tactic| with_reducible (first | refine q_parZ ?_ | refine ds_parZ ?_))
local macro_rules | `(tactic| wtm_at "f3") => `(tactic| with_reducible (first
  | refine de_fldZ ?_
  | refine de_methZ (by assumption) ?_))
local macro_rules | `(tactic| wtm_at "p3") => `(tactic| first
  | refine fp_obj (by assumption) (by assumption) (by rfl) ?_
  | refine fp_own (by assumption) (by assumption) (by assumption) (by rfl) ?_
  | refine mp_obj (by rfl) ?_
  | refine mp_own (by assumption) (by rfl) ?_)
local macro_rules | `(tactic| wtm_at "s3") => `(tactic| with_reducible (first | refine q_fldZ ?_ | refine ds_fldZ ?_))
local macro_rules | `(tactic| wtm_at "f4") => `(tactic| with_reducible (first | refine de_isNZ ?_ | refine de_notNZ ?_ | refine np_t ?_))
local macro_rules | `(tactic| wtm_at "g4") => `(tactic| first | refine np_int ?_ | refine np_lst ?_ | refine np_tup ?_ | refine np_obj ?_ | refine np_own ?_ | refine np_str ?_ | refine np_bl ?_)
local macro_rules | `(tactic| wtm_at "s5") => `(tactic| with_reducible (first | refine q_par3 ?_ | refine ds_par3 ?_ | refine three_i ?_ | refine di_range2W ?_))
local macro_rules | `(tactic| wtm_at "o5") => `(tactic| first | refine ro_eqNI ?_ | fail)
local macro_rules | `(tactic| wtm_at "d6") => `(tactic| with_reducible (first | refine de_dget ?_ | refine de_din ?_ | refine de_dnin ?_ | refine rc_abs ?_))
local macro_rules | `(tactic| wtm_at "g6") => `(tactic| first | refine dgp_s (.own (by assumption)) (by rfl) ?_ | refine dgp_s (.dct _) (by rfl) ?_)
local macro_rules | `(tactic| wtm_at "Q") => `(tactic| wtm_at "b")
local macro_rules | `(tactic| wtm_at "Q") => `(tactic| wtm_at "g4")
local macro_rules | `(tactic| wtm_at "Q") => `(tactic| wtm_at "p3")
local macro_rules | `(tactic| wtm_at "Q") => `(tactic| wtm_at "g6")
local macro_rules | `(tactic| wtm_at "Q") => `(tactic| wtm_at "sz")
local macro_rules | `(tactic| wtm_at "Q") => `(tactic| wtm_at "h2")
local macro_rules | `(tactic| wtm_at "Q") => `(tactic| wtm_at "h")
local macro_rules | `(tactic| wtm_at "Q") => `(tactic| wtm_at "o5")
local macro_rules | `(tactic| wtm_at "Q") => `(tactic| wtm_at "o2")
local macro_rules | `(tactic| wtm_at "Q") => `(tactic| wtm_at "x")
local macro_rules | `(tactic| wtm_at "Q") => `(tactic| wtm_at "l")
local macro_rules | `(tactic| wtm_at "Q") => `(tactic| wtm_at "i")
local macro_rules | `(tactic| wtm_at "Q") => `(tactic| wtm_at "f3")
local macro_rules | `(tactic| wtm_at "Q") => `(tactic| wtm_at "d2")
local macro_rules | `(tactic| wtm_at "Q") => `(tactic| wtm_at "dT")
local macro_rules | `(tactic| wtm_at "Q") => `(tactic| wtm_at "dO")
local macro_rules | `(tactic| wtm_at "Q") => `(tactic| wtm_at "d6")
local macro_rules | `(tactic| wtm_at "Q") => `(tactic| wtm_at "dE")
local macro_rules | `(tactic| wtm_at "Q") => `(tactic| wtm_at "f4")
local macro_rules | `(tactic| wtm_at "Q") => `(tactic| wtm_at "v")
local macro_rules | `(tactic| wtm_at "E") => `(tactic| repeat' first | wtm_at "Q" | fail)
local macro_rules | `(tactic| wtm_at "Qs") => `(tactic| wtm_at "dS")
local macro_rules | `(tactic| wtm_at "Qs") => `(tactic| wtm_at "s3")
local macro_rules | `(tactic| wtm_at "Qs") => `(tactic| wtm_at "sP")
local macro_rules | `(tactic| wtm_at "Qs") => `(tactic| wtm_at "s5")
local macro_rules | `(tactic| wtm_at "QA") => `(tactic| wtm_at "Q")
local macro_rules | `(tactic| wtm_at "QA") => `(tactic| wtm_at "Qs")
local macro_rules | `(tactic| wtm_at "A") => `(tactic| repeat' first | wtm_at "QA" | fail)
section
variable {K : PySem.W.Frag}
theorem d_is_number : ∀ ds μ P PX, c_is_number K ds μ P PX → MuCl μ μ.length → clL ds μ.length = true → ∀ B E, XAg K B (RetX μ.length PX) E → DS K B (t_is_number K E) (startD ["thing", "least", "most"] ds) μ (fnE μ.length P) := by
  intro ds μ P PX h hm hc B E hE
  obtain ⟨x, lo, hi, rfl, hd, h⟩ := h
  show DS K B _ [some x, some (.int lo), some (.int hi)] μ _
  unfold t_is_number
  wtm_at "a"
  · obtain ⟨i, rfl⟩ := isTy_int ‹_› ‹_›
    wtm_at "a" <;> wtm_at "r" <;> simp_all [isNum]
  · wtm_at "r"
    cases x <;> simp_all [isNum, isTy]
  · wtm_at "r"
    cases x <;> simp_all [isNum, isTy]
end
/-! ### calendars: contracts -/
def areNums : D → Int → Int → Int → Bool
  | .lst xs, long, lo, hi => decide (1 ≤ xs.length) && decide ((xs.length : Int) ≤ long) && xs.all (fun x => isNum x lo hi)
  | _, _, _, _ => false
/-- plain data, or a dict -/
def datA (d : D) : Prop := d.dat = true ∨ ∃ gs, d = .dct gs
def c_are_numbers (K : PySem.W.Frag) : CT := fun ds μ P PX => ∃ (x d : D) (long lo hi : Int), ds = [x, .int long, .int lo, .int hi] ∧ Fz μ x d ∧ datA d ∧ long ≤ 100000 ∧ P (.bl (areNums d long lo hi)) μ
def c_need_day (K : PySem.W.Frag) : CT := fun ds μ P PX => ∃ n : Int, ds = [.int n] ∧ (0 ≤ n → P .non μ) ∧ (n < 0 → PX (He.ga K "NoDay") [] μ)
abbrev cCal (K : PySem.W.Frag) : Addr := He.ga K "Calendar"
/-- days ahead of the i-th year -/
def preY (ls : List Int) (i : Nat) : Int := (ls.take i).sum
def begins (ls : List Int) : List Int := (List.range ls.length).map (preY ls)
def intsD (ls : List Int) : D := .lst (ls.map D.int)
def calF (ls : List Int) : List (Str × D) := [("lengths", intsD ls), ("begins", intsD (begins ls)), ("whole", .int ls.sum)]
def calD (K : PySem.W.Frag) (ls : List Int) : D := .obj (cCal K) (calF ls)
/-- the days of the years of a calendar -/
structure GCal (ls : List Int) : Prop where
  pos : 0 < ls.length
  most : ls.length ≤ 20
  each : ∀ x ∈ ls, 1 ≤ x ∧ x ≤ 400
structure KCal (K : PySem.W.Frag) : Prop where
  cl : Cls K (cCal K)
  lengths : NoAttr K (cCal K) "lengths"
  begins : NoAttr K (cCal K) "begins"
  whole : NoAttr K (cCal K) "whole"
def c_Calendar_init (K : PySem.W.Frag) : CT := fun ds μ P PX => ∃ k x d, ds = [.own k, x] ∧ μ[k]? = some (.ins (cCal K) []) ∧ Fz μ x d ∧ d.dat = true ∧
  (∀ ls, d = intsD ls → GCal ls → P .non (μ.set k (.ins (cCal K) (calF ls)))) ∧ (areNums d 20 1 400 = false → PX (He.ga K "BadCalendar") [] μ)
def c_Calendar_years (K : PySem.W.Frag) : CT := fun ds μ P PX => ∃ ls, ds = [calD K ls] ∧ Fresh (ls.map D.int) μ P
def c_Calendar_turn (K : PySem.W.Frag) : CT := fun ds μ P PX => ∃ ls, ds = [calD K ls] ∧ P (.int ls.sum) μ
/-- how long the year is -/
def longY (ls : List Int) (y : Int) : Int := ls.getD (y % ls.length).toNat 0
def firstY (ls : List Int) (y : Int) : Int := y / ls.length * ls.sum + preY ls (y % ls.length).toNat
def c_Calendar_first (K : PySem.W.Frag) : CT := fun ds μ P PX => ∃ (ls : List Int) (y : Int), ds = [calD K ls, .int y] ∧ GCal ls ∧ (0 ≤ y → P (.int (firstY ls y)) μ) ∧ (y < 0 → PX (He.ga K "NoDay") [] μ)
/-! ### .. in plain numbers -/
theorem sum_pos' : ∀ {ls : List Int}, (∀ x ∈ ls, 1 ≤ x) → (ls.length : Int) ≤ ls.sum
  | [], _ => by simp
  | x :: r, h => by
    have := sum_pos' (ls := r) fun y hy => h y (List.mem_cons_of_mem _ hy)
    have := h x (by simp)
    simp; omega
theorem sum_le' : ∀ {ls : List Int}, (∀ x ∈ ls, x ≤ 400) → ls.sum ≤ 400 * (ls.length : Int)
  | [], _ => by simp
  | x :: r, h => by
    have := sum_le' (ls := r) fun y hy => h y (List.mem_cons_of_mem _ hy)
    have := h x (by simp)
    simp; omega
theorem GCal.sum_pos {ls : List Int} (h : GCal ls) : 0 < ls.sum := by
  have := sum_pos' fun x hx => (h.each x hx).1
  have := h.pos
  omega
theorem GCal.sum_le {ls : List Int} (h : GCal ls) : ls.sum ≤ 8000 := by
  have := sum_le' fun x hx => (h.each x hx).2
  have := h.most
  omega
theorem preY_zero (ls : List Int) : preY ls 0 = 0 := by simp [preY]
theorem preY_succ {ls : List Int} {i : Nat} {x : Int} (h : ls[i]? = some x) : preY ls (i + 1) = preY ls i + x := by
  unfold preY
  rw [List.take_add_one, h]
  simp
theorem preY_all (ls : List Int) : preY ls ls.length = ls.sum := by simp [preY]
theorem preY_mono {ls : List Int} (h : ∀ x ∈ ls, 1 ≤ x) {i j : Nat} (hij : i ≤ j) (hj : j ≤ ls.length) : preY ls i + (j - i : Nat) ≤ preY ls j := by
  induction j with
  | zero => have : i = 0 := by omega
            subst this; simp
  | succ j ih =>
    by_cases e : i = j + 1
    · subst e; simp
    · have h1 := ih (by omega) (by omega)
      have hx : ls[j]? = some ls[j] := List.getElem?_eq_getElem (by omega)
      have := h ls[j] (List.getElem_mem _)
      rw [preY_succ hx]
      omega
theorem begins_get {ls : List Int} {i : Nat} (h : i < ls.length) : (begins ls)[i]? = some (preY ls i) := by simp [begins, h]
/-- day d is the s-th one of the year y -/
structure PosY (ls : List Int) (y s d : Int) : Prop where
  y0 : 0 ≤ y
  s0 : 0 ≤ s
  s1 : s < longY ls y
  d : d = firstY ls y + s
theorem longY_get {ls : List Int} (h : GCal ls) {y : Int} (hy : 0 ≤ y) : ls[(y % ls.length).toNat]? = some (longY ls y) := by
  have hp := h.pos
  have h1 := Int.emod_nonneg y (b := (ls.length : Int)) (by omega)
  have h2 := Int.emod_lt_of_pos y (b := (ls.length : Int)) (by omega)
  unfold longY
  rw [List.getD_eq_getElem?_getD, List.getElem?_eq_getElem (by omega)]
  rfl
theorem longY_bd {ls : List Int} (h : GCal ls) {y : Int} (hy : 0 ≤ y) : 1 ≤ longY ls y ∧ longY ls y ≤ 400 := h.each _ (List.mem_of_getElem? (longY_get h hy))
theorem pre_lt {ls : List Int} (h : GCal ls) {y : Int} (hy : 0 ≤ y) : 0 ≤ preY ls (y % ls.length).toNat ∧ preY ls (y % ls.length).toNat + longY ls y ≤ ls.sum := by
  have hp := h.pos
  have h1 := Int.emod_nonneg y (b := (ls.length : Int)) (by omega)
  have h2 := Int.emod_lt_of_pos y (b := (ls.length : Int)) (by omega)
  have e1 : ∀ x ∈ ls, 1 ≤ x := fun x hx => (h.each x hx).1
  have h3 := preY_mono e1 (i := 0) (j := (y % ls.length).toNat) (by omega) (by omega)
  have h4 := preY_mono e1 (i := (y % ls.length).toNat + 1) (j := ls.length) (by omega) (by omega)
  rw [preY_zero] at h3
  rw [preY_succ (longY_get h hy), preY_all] at h4
  omega
theorem firstY_nn {ls : List Int} (h : GCal ls) {y : Int} (hy : 0 ≤ y) : 0 ≤ firstY ls y := by
  have := (pre_lt h hy).1
  have h1 : 0 ≤ y / ls.length := Int.ediv_nonneg hy (by omega)
  have := Int.mul_nonneg h1 (Int.le_of_lt h.sum_pos)
  unfold firstY
  omega
theorem firstY_succ {ls : List Int} (h : GCal ls) {y : Int} (hy : 0 ≤ y) : firstY ls (y + 1) = firstY ls y + longY ls y := by
  have hp := h.pos
  have h1 := Int.emod_nonneg y (b := (ls.length : Int)) (by omega)
  have h2 := Int.emod_lt_of_pos y (b := (ls.length : Int)) (by omega)
  have hy' := Int.ediv_mul_add_emod y ls.length
  have hs := preY_succ (longY_get h hy)
  by_cases hc : y % ls.length + 1 < ls.length
  · have e : y + 1 = ls.length * (y / ls.length) + (y % ls.length + 1) := by rw [Int.mul_comm]; omega
    have e1 : (y + 1) / ls.length = y / ls.length := by
      have z : (y % ls.length + 1) / ls.length = 0 := Int.ediv_eq_zero_of_lt (by omega) (by omega)
      rw [e, Int.mul_add_ediv_left _ _ (by omega), z]; simp
    have e2 : (y + 1) % ls.length = y % ls.length + 1 := by
      have z : (y % ls.length + 1) % ls.length = y % ls.length + 1 := Int.emod_eq_of_lt (by omega) (by omega)
      rw [e, Int.mul_add_emod_self_left, z]
    unfold firstY
    rw [e1, e2]
    have e3 : (y % ls.length + 1).toNat = (y % ls.length).toNat + 1 := by omega
    rw [e3, hs]
    omega
  · have hl : y % ls.length + 1 = ls.length := by omega
    have e : y + 1 = ls.length * (y / ls.length + 1) := by rw [Int.mul_add, Int.mul_one, Int.mul_comm]; omega
    have e1 : (y + 1) / ls.length = y / ls.length + 1 := by
      rw [e, Int.mul_ediv_cancel_left _ (by omega)]
    have e2 : (y + 1) % ls.length = 0 := by rw [e]; simp
    unfold firstY
    rw [e1, e2]
    have e3 : (y % ls.length).toNat + 1 = ls.length := by omega
    rw [e3, preY_all] at hs
    show (y / ls.length + 1) * ls.sum + preY ls 0 = _
    rw [preY_zero, Int.add_mul, Int.one_mul]
    omega
theorem PosY.next {ls : List Int} (h : GCal ls) {y s d : Int} (p : PosY ls y s d) : if s + 1 = longY ls y then PosY ls (y + 1) 0 (d + 1) else PosY ls y (s + 1) (d + 1) := by
  have := p.y0; have := p.s0; have := p.s1; have := p.d
  split
  · refine ⟨by omega, by omega, ?_, ?_⟩
    · have := longY_bd h (y := y + 1) (by omega); omega
    · rw [firstY_succ h p.y0]; omega
  · exact ⟨by omega, by omega, by omega, by omega⟩
def t_are_numbers (K : PySem.W.Frag) (E : XK) : TS :=
    (tSeq (tIfS (tOr (tNot (tTruth K (tCB (rIsi K) (tCons (tVar 0) (tCons (tC (.ty "list")) tNil))))) (tNot (tTest (tChain (rI0 fun i j => .bl (decide (i ≤ j))) (rI0 fun i j => .bl (decide (i ≤ j))) (tC (.int 1)) (tCB (rLen K) (tCons (tVar 0) tNil)) (tVar 1))))) (tRet (tC (.bl false))) tNext)
      (tRet (tCB (rAll K) (tCons (tLc (iAny K (tVar 0)) (gName 4) tYes (tCall (spD K (c_is_number K)) [] E0 (tCons (tVar 4) (tCons (tVar 2) (tCons (tVar 3) tNil)))) [4]) tNil))))
def t_need_day (K : PySem.W.Frag) (E : XK) : TS :=
    (tIfS (tTest (tOp (rI0 fun i j => .bl (decide (i < j))) (tVar 0) (tC (.int 0)))) (tRaise0 (He.ga K "NoDay") E) tNext)
def t_Calendar_init (K : PySem.W.Frag) (E : XK) : TS :=
    (tSeq (tIfS (tNot (tTruth K (tCall (spD K (c_are_numbers K)) [] E (tCons (tVar 1) (tCons (tC (.int 20)) (tCons (tC (.int 1)) (tCons (tC (.int 400)) tNil))))))) (tRaise0 (He.ga K "BadCalendar") E) tNext)
      (tSeq (sFld K (tVar 0) (tCB (rListOf K) (tCons (tVar 1) tNil)) "lengths")
      (tSeq (sFld K (tVar 0) (tLst tNil) "begins")
      (tSeq (sFld K (tVar 0) (tC (.int 0)) "whole")
      (tFor (iAny K (tFld K (tVar 0) "lengths")) (gName 2) (tSeq (tDrop (tBM K "list" rAppend (tFld K (tVar 0) "begins") (tCons (tFld K (tVar 0) "whole") tNil)))
      (sFldAug K (tVar 0) (tVar 2) rAdd "whole")))))))
def t_Calendar_years (K : PySem.W.Frag) (E : XK) : TS :=
    (tRet (tCB (rListOf K) (tCons (tFld K (tVar 0) "lengths") tNil)))
def t_Calendar_turn (K : PySem.W.Frag) (E : XK) : TS :=
    (tRet (tFld K (tVar 0) "whole"))
def t_Calendar_first (K : PySem.W.Frag) (E : XK) : TS :=
    (tSeq (tDrop (tCall (spD K (c_need_day K)) [] E (tCons (tVar 1) tNil)))
      (tSeq (tAsg (tCB rDivmod (tCons (tVar 1) (tCons (tCB (rLen K) (tCons (tFld K (tVar 0) "lengths") tNil)) tNil))) (gTup K 2 (gCons (gName 2) (gCons (gName 3) gNil))))
      (tRet (tOp (rAddA K) (tOp rMulA (tVar 2) (tFld K (tVar 0) "whole")) (tOp (rIx K) (tFld K (tVar 0) "begins") (tVar 3))))))
section
variable {K : PySem.W.Frag}
theorem d_are_numbers : ∀ ds μ P PX, c_are_numbers K ds μ P PX → MuCl μ μ.length → clL ds μ.length = true → ∀ B E, XAg K B (RetX μ.length PX) E → DS K B (t_are_numbers K E) (startD ["thing", "long", "least", "most", "one"] ds) μ (fnE μ.length P) := by
  intro ds μ P PX h hm hc B E hE
  obtain ⟨x, d, long, lo, hi, rfl, fz, hd, hlong, h⟩ := h
  show DS K B _ [some x, some (.int long), some (.int lo), some (.int hi), none] μ _
  rcases hd with hd | ⟨gs, rfl⟩
  rotate_left
  · obtain rfl : x = .dct gs := by cases fz; rfl
    unfold t_are_numbers
    wtm_at "g"
    refine rc_isiB (n := "dict") rfl (by rfl) ?_
    wtm_at "A"
    exact ret_same0 (Nat.le_refl _) hm rfl h
  have key : ∀ xs, d = .lst xs → tyD μ x = some "list" → Ls μ x xs → DS K B (t_are_numbers K E) [some x, some (.int long), some (.int lo), some (.int hi), none] μ (fnE μ.length P) := by
    rintro xs rfl ht hl
    have hdx : ∀ y ∈ xs, y.dat = true := by
      unfold D.dat at hd
      exact datL_iff.mp hd
    obtain ⟨S, wk⟩ := hl.wk
    unfold t_are_numbers
    wtm_at "g"
    refine rc_isiB ht (by rfl) ?_
    wtm_at "A"
    refine rc_lenL hl ?_
    have hf : ¬ (1 ≤ xs.length ∧ (xs.length : Int) ≤ long) → Ret μ.length P (.bl false) μ := fun hn => by
      wtm_at "r"
      have : areNums (.lst xs) long lo hi = false := by
        simp [areNums]
        omega
      rw [this] at h
      exact h
    wtm_at "A"
    · exact hf (by omega)
    · refine lc_map (fun d => .bl (isNum d lo hi)) (gw_name (by simp)) ?_
      wtm_at "A"
      refine ⟨xs, S, wk, wk.now, by omega, fun i d hd' => ?_, fun out ho => ?_⟩
      · wtm_at "A"
        refine ⟨rfl, de_call XAg.none ?_⟩
        wtm_at "A"
        exact ⟨d, lo, hi, rfl, hdx d (List.mem_of_getElem? hd'), rfl, rfl⟩
      · wtm_at "A"
        refine rc_all (bs := xs.map (isNum · lo hi)) (by rw [← ho, List.map_map]; exact .lst _) ?_
        wtm_at "r"
        have : areNums (.lst xs) long lo hi = (xs.map (isNum · lo hi)).all id := by
          simp only [areNums, List.all_map]
          rename_i hb
          simp [show 1 ≤ xs.length by omega, show (xs.length : Int) ≤ long by omega]
        rw [this] at h
        exact h
    · exact hf (by omega)
  cases fz with
  | id =>
    by_cases hl : isTy x "list" = true
    · obtain ⟨xs, rfl⟩ := isTy_list hl
      exact key xs rfl rfl (.lst xs)
    · unfold t_are_numbers
      wtm_at "A"
      · exact absurd ‹_› hl
      · wtm_at "r"
        have : areNums x long lo hi = false := by cases x <;> simp_all [areNums, isTy]
        rw [this] at h
        exact h
  | own hk => exact key _ rfl (by simp [tyD, hk]) (.own hk)
theorem d_need_day : ∀ ds μ P PX, c_need_day K ds μ P PX → MuCl μ μ.length → clL ds μ.length = true → ∀ B E, XAg K B (RetX μ.length PX) E → DS K B (t_need_day K E) (startD ["number"] ds) μ (fnE μ.length P) := by
  intro ds μ P PX h hm hc B E hE
  obtain ⟨n, rfl, h1, h2⟩ := h
  show DS K B _ [some (.int n)] μ _
  unfold t_need_day
  wtm_at "A"
  · exact ds_raise0 hE (retx_same0 hm rfl (h2 (by omega)))
  · exact ret_same0 (Nat.le_refl _) hm rfl (h1 (by omega))
theorem nums_ints : ∀ {xs : List D} {lo hi : Int}, xs.all (fun x => isNum x lo hi) = true → ∃ ls : List Int, xs = ls.map D.int ∧ ∀ x ∈ ls, lo ≤ x ∧ x ≤ hi
  | [], _, _, _ => ⟨[], rfl, by simp⟩
  | x :: xs, lo, hi, h => by
    rw [List.all_cons, Bool.and_eq_true] at h
    obtain ⟨ls, rfl, hl⟩ := nums_ints h.2
    cases x <;> simp [isNum] at h
    rename_i n
    exact ⟨n :: ls, rfl, fun y hy => by
      rcases List.mem_cons.mp hy with m | m
      · subst m; exact h.1
      · exact hl y m⟩
theorem areNums_cal {d : D} (h : areNums d 20 1 400 = true) : ∃ ls, d = intsD ls ∧ GCal ls := by
  cases d <;> simp [areNums] at h
  rename_i xs
  obtain ⟨ls, rfl, hl⟩ := nums_ints (lo := 1) (hi := 400) (xs := xs) (by rw [List.all_eq_true]; exact h.2)
  simp at h
  exact ⟨ls, rfl, by omega, by omega, hl⟩
theorem areNums_of {ls : List Int} (h : GCal ls) : areNums (intsD ls) 20 1 400 = true := by
  have := h.pos; have := h.most
  simp [areNums, intsD]
  refine ⟨by omega, fun x hx => ?_⟩
  have := h.each x hx
  simp [isNum]; omega
theorem cl_ints (ls : List Int) (n : Nat) : clL (ls.map D.int) n = true := clL_map fun x _ => by simp [D.cl]
theorem d_Calendar_init (kc : KCal K) : ∀ ds μ P PX, c_Calendar_init K ds μ P PX → MuCl μ μ.length → clL ds μ.length = true → ∀ B E, XAg K B (RetX μ.length PX) E → DS K B (t_Calendar_init K E) (startD ["self", "years", "days"] ds) μ (fnE μ.length P) := by
  intro ds μ P PX h hm hc B E hE
  obtain ⟨k, x, d, rfl, hk, fz, hd, h1, h2⟩ := h
  show DS K B _ [some (.own k), some x, none] μ _
  have c1 := kc.cl; have c2 := kc.lengths; have c3 := kc.begins; have c4 := kc.whole
  unfold t_Calendar_init
  wtm_at "A"
  refine ⟨x, d, 20, 1, 400, rfl, fz, .inl hd, by decide, ?_⟩
  wtm_at "A"
  · exact ds_raise0 hE (retx_same0 hm rfl (h2 ‹_›))
  · rename_i hs
    obtain ⟨ls, rfl, hg⟩ := areNums_cal hs
    have hl : Ls μ x (ls.map D.int) := by
      cases fz with
      | id => exact .lst _
      | own h => exact .own h
    have kl := (List.getElem?_eq_some_iff.mp hk).1
    have hset : ∀ z, (μ.set k z)[k]? = some z := fun z => set_get hk
    have hlen : ∀ z : MO, (List.set μ k z).length = μ.length := fun z => by simp
    refine rc_list hl ?_
    wtm_at "A"
    refine pp_own hk c1 c2 (of_decide_eq_true (by rfl)) ?_
    wtm_at "A"
    refine de_lstOZ ?_
    wtm_at "A"
    rw [hlen]
    refine pp_own (mu_old (hset _)) c1 c3 (of_decide_eq_true (by rfl)) ?_
    rw [set_old (hset _), set_set']
    wtm_at "A"
    refine pp_own (mu_old (hset _)) c1 c4 (of_decide_eq_true (by rfl)) ?_
    rw [set_old (hset _), set_set']
    refine ds_ghostN ?_
    refine ds_for ?_
    wtm_at "A"
    refine fp_own (mu_old (hset _)) c1 c2 rfl ?_
    refine ⟨_, _, .lst _, fun i ρ μ' => ∃ y2, ρ = [some (.own k), some x, y2] ∧ μ' = μ.set k (.ins (cCal K) [("lengths", intsD ls), ("begins", .own μ.length), ("whole", .int (preY ls i))]) ++ [.lst (((List.range i).map (preY ls)).map D.int)],
      ⟨none, rfl, rfl⟩, fun _ _ _ _ _ => trivial, ?_, ?_⟩
    · rintro i d ρ μ' hd' ⟨y2, rfl, rfl⟩
      rw [List.getElem?_map] at hd'
      cases q : ls[i]? with
      | none => rw [q] at hd'; cases hd'
      | some n =>
        rw [q] at hd'
        obtain rfl : D.int n = d := Option.some.inj hd'
        have hi := (List.getElem?_eq_some_iff.mp q).1
        have hmost := hg.most
        have hlast : ∀ z : MO, ∀ o : MO, (μ.set k z ++ [o])[μ.length]? = some o := fun z o => by rw [← hlen z]; exact mu_last
        have hsetl : ∀ z : MO, ∀ o o' : MO, (μ.set k z ++ [o]).set μ.length o' = μ.set k z ++ [o'] := fun z o o' => by rw [← hlen z]; exact set_last
        wtm_at "A"
        refine fp_own (mu_old (hset _)) c1 c3 rfl ?_
        refine ⟨ty_list (.own (hlast _ _)), ?_⟩
        wtm_at "A"
        refine fp_own (mu_old (hset _)) c1 c4 rfl ?_
        wtm_at "A"
        refine rm_app (hlast _ _) (by simp; omega) ?_
        rw [hsetl]
        refine ds_fldAug ?_
        wtm_at "A"
        refine ⟨k, _, _, _, rfl, mu_old (hset _), c1, c4, rfl, ?_⟩
        wtm_at "A"
        refine ro_add ?_
        refine ⟨_, mu_old (hset _), by simp, ?_⟩
        rw [set_old (hset _), set_set']
        refine ⟨_, rfl, ?_⟩
        rw [← preY_succ q, List.range_succ, List.map_append, List.map_append]
        rfl
    · rintro ρ μ' ⟨y2, rfl, rfl⟩
      rw [List.length_map]
      have hlast : ∀ z : MO, ∀ o : MO, (μ.set k z ++ [o])[μ.length]? = some o := fun z o => by rw [← hlen z]; exact mu_last
      have hsetl : ∀ z : MO, ∀ o o' : MO, (μ.set k z ++ [o]).set μ.length o' = μ.set k z ++ [o'] := fun z o o' => by rw [← hlen z]; exact set_last
      refine ⟨_, gh_fld (f := "begins") (mu_old (hset _)) rfl (hlast _ _), ?_⟩
      rw [hsetl, set_old (hset _), set_set', preY_all]
      refine ret_same (by simp) ?_ rfl (h1 ls rfl hg)
      rw [hlen]
      refine hm.set ?_
      show clF (calF ls) _ = true
      simp only [clF, calF, D.cl, intsD, cl_ints, Bool.and_self]
theorem d_Calendar_years (kc : KCal K) : ∀ ds μ P PX, c_Calendar_years K ds μ P PX → MuCl μ μ.length → clL ds μ.length = true → ∀ B E, XAg K B (RetX μ.length PX) E → DS K B (t_Calendar_years K E) (startD ["self"] ds) μ (fnE μ.length P) := by
  intro ds μ P PX h hm hc B E hE
  obtain ⟨ls, rfl, h⟩ := h
  show DS K B _ [some (calD K ls)] μ _
  have c1 := kc.cl; have c2 := kc.lengths; have c3 := kc.begins; have c4 := kc.whole
  unfold t_Calendar_years
  rcases h with h | h
  · wtm_at "A"
    exact ret_same0 (Nat.le_refl _) hm (by simp [D.cl, cl_ints]) h
  · refine ds_ret (de_cb ?_)
    refine da_cons ?_
    wtm_at "f3"
    wtm_at "v"
    wtm_at "p3"
    wtm_at "dO"
    refine rc_listO (.lst _) ?_
    exact ret_same0 (by simp) (hm.app (by simp [MO.cl, cl_ints])) (by simp [D.cl]) h
theorem d_Calendar_turn (kc : KCal K) : ∀ ds μ P PX, c_Calendar_turn K ds μ P PX → MuCl μ μ.length → clL ds μ.length = true → ∀ B E, XAg K B (RetX μ.length PX) E → DS K B (t_Calendar_turn K E) (startD ["self"] ds) μ (fnE μ.length P) := by
  intro ds μ P PX h hm hc B E hE
  obtain ⟨ls, rfl, h⟩ := h
  show DS K B _ [some (calD K ls)] μ _
  have c1 := kc.cl; have c2 := kc.lengths; have c3 := kc.begins; have c4 := kc.whole
  unfold t_Calendar_turn
  wtm_at "A"
  wtm_at "r"
  exact h
theorem at_map {α : Type} {f : α → D} {xs : List α} {i : Int} {j : Nat} {x : α} (e : i = (j : Int)) (h : xs[j]? = some x) : atI (xs.map f) i = some (f x) := by
  rw [e]
  exact atI_nat (by rw [List.getElem?_map, h]; rfl)
theorem d_Calendar_first (kc : KCal K) : ∀ ds μ P PX, c_Calendar_first K ds μ P PX → MuCl μ μ.length → clL ds μ.length = true → ∀ B E, XAg K B (RetX μ.length PX) E → DS K B (t_Calendar_first K E) (startD ["self", "year", "turns", "place"] ds) μ (fnE μ.length P) := by
  intro ds μ P PX h hm hc B E hE
  obtain ⟨ls, y, rfl, hg, h, hx⟩ := h
  show DS K B _ [some (calD K ls), some (.int y), none, none] μ _
  have c1 := kc.cl; have c2 := kc.lengths; have c3 := kc.begins; have c4 := kc.whole
  have hp := hg.pos; have hm20 := hg.most
  have hs := hg.sum_pos; have hs2 := hg.sum_le
  unfold t_Calendar_first
  wtm_at "A"
  refine ⟨y, rfl, fun hy => ?_, fun hy => retx_same0 hm rfl (hx hy)⟩
  wtm_at "A"
  rw [List.length_map]
  refine rc_divmod ⟨by omega, by omega⟩ ?_
  have h1 := Int.emod_nonneg y (b := (ls.length : Int)) (by omega)
  have h2 := Int.emod_lt_of_pos y (b := (ls.length : Int)) (by omega)
  wtm_at "A"
  refine ro_ixL (.lst _) (at_map (j := (y % ls.length).toNat) (by omega) (begins_get (by omega))) ?_
  wtm_at "A"
  wtm_at "r"
  exact h hy
end
/-! ### the year of a day -/
theorem div_mod_of {n q p : Int} (h0 : 0 ≤ p) (h1 : p < n) : (q * n + p) / n = q ∧ (q * n + p) % n = p := by
  have z1 : p / n = 0 := Int.ediv_eq_zero_of_lt h0 h1
  have z2 : p % n = p := Int.emod_eq_of_lt h0 h1
  refine ⟨?_, ?_⟩
  · rw [Int.mul_comm, Int.mul_add_ediv_left _ _ (by omega), z1]; simp
  · rw [Int.mul_comm, Int.mul_add_emod_self_left, z2]
def optD : Option Int → D
  | none => .non
  | some i => .int i
theorem year_at {ls : List Int} {t : Int} {j : Nat} (hj : j < ls.length) : (t * ls.length + j) / ls.length = t ∧ (t * ls.length + j) % ls.length = j := div_mod_of (by omega) (by omega)
theorem firstY_at {ls : List Int} {t : Int} {j : Nat} (hj : j < ls.length) : firstY ls (t * ls.length + j) = t * ls.sum + preY ls j := by
  unfold firstY
  rw [(year_at hj).1, (year_at hj).2]
  simp
theorem firstY_in {ls : List Int} {j : Nat} (hj : j < ls.length) : firstY ls j = preY ls j := by
  have := firstY_at (ls := ls) (t := 0) hj
  simpa using this
/-! ### draws of the calendar laws: contracts -/
/-- what is held: how many draws so far, the cells -/
structure Hd (k k2 : Nat) (c : Int) (ns : List Int) (μ : Mu) : Prop where
  a : μ[k]? = some (.lst [.int c, .own k2])
  b : μ[k2]? = some (.lst (ns.map D.int))
  ne : k ≠ k2
  c0 : 0 ≤ c
  n0 : 0 < ns.length
  n1 : ns.length ≤ 1000
def hold (μ : Mu) (k k2 : Nat) (c : Int) (ns : List Int) : Mu := (μ.set k (.lst [.int c, .own k2])).set k2 (.lst (ns.map D.int))
theorem hold_len {μ : Mu} {k k2 : Nat} {c : Int} {ns : List Int} : (hold μ k k2 c ns).length = μ.length := by simp [hold]
theorem hold_hold {μ : Mu} {k k2 : Nat} {c c' : Int} {ns ns' : List Int} (ne : k ≠ k2) : hold (hold μ k k2 c ns) k k2 c' ns' = hold μ k k2 c' ns' := by
  unfold hold
  rw [List.set_comm _ _ (Ne.symm ne), List.set_set, List.set_set]
theorem Hd.hold {μ : Mu} {k k2 : Nat} {c c' : Int} {ns ns' : List Int} (h : Hd k k2 c ns μ) (hc : 0 ≤ c') (hn : ns'.length = ns.length) : Hd k k2 c' ns' (Dl.hold μ k k2 c' ns') := by
  have h1 := (List.getElem?_eq_some_iff.mp h.a).1
  have h2 := (List.getElem?_eq_some_iff.mp h.b).1
  refine ⟨?_, ?_, h.ne, hc, by have := h.n0; omega, by have := h.n1; omega⟩
  · unfold Dl.hold
    rw [List.getElem?_set_ne (Ne.symm h.ne), List.getElem?_set_self h1]
  · unfold Dl.hold
    rw [List.getElem?_set_self (by simpa using h2)]
theorem Hd.app {μ : Mu} {k k2 : Nat} {c : Int} {ns : List Int} (h : Hd k k2 c ns μ) (ext : Mu) : Hd k k2 c ns (μ ++ ext) := ⟨mu_old h.a, mu_old h.b, h.ne, h.c0, h.n0, h.n1⟩
theorem hold_app {μ ext : Mu} {k k2 : Nat} {c c' : Int} {ns ns' : List Int} (h : Hd k k2 c ns μ) : hold (μ ++ ext) k k2 c' ns' = hold μ k k2 c' ns' ++ ext := by
  have h1 := (List.getElem?_eq_some_iff.mp h.a).1
  have h2 := (List.getElem?_eq_some_iff.mp h.b).1
  unfold hold
  rw [List.set_append_left _ _ h1, List.set_append_left _ _ (by simpa using h2)]
theorem hold_same {μ : Mu} {k k2 : Nat} {c : Int} {ns : List Int} (h : Hd k k2 c ns μ) : hold μ k k2 c ns = μ := by
  unfold hold
  have h1 : (μ.set k (.lst [.int c, .own k2])) = μ := by
    apply List.ext_getElem?
    intro i
    by_cases e : k = i
    · subst e; rw [List.getElem?_set_self (List.getElem?_eq_some_iff.mp h.a).1, h.a]
    · rw [List.getElem?_set_ne e]
  rw [h1]
  apply List.ext_getElem?
  intro i
  by_cases e : k2 = i
  · subst e; rw [List.getElem?_set_self (List.getElem?_eq_some_iff.mp h.b).1, h.b]
  · rw [List.getElem?_set_ne e]
theorem Hd.cl {μ : Mu} {k k2 : Nat} {c c' : Int} {ns ns' : List Int} (h : Hd k k2 c ns μ) (hm : MuCl μ μ.length) : MuCl (Dl.hold μ k k2 c' ns') (Dl.hold μ k k2 c' ns').length := by
  have h2 := (List.getElem?_eq_some_iff.mp h.b).1
  rw [hold_len]
  unfold Dl.hold
  refine (hm.set ?_).set ?_
  · simp [MO.cl, clL, D.cl, h2]
  · simp only [MO.cl]
    exact clL_map fun x _ => by simp [D.cl]
def c_law_draw (K : PySem.W.Frag) : CT := fun ds μ P PX => ∃ (k k2 : Nat) (c : Int) (ns : List Int) (m : Int), ds = [.own k, .int m] ∧ Hd k k2 c ns μ ∧ c < 2 ^ 40 ∧ 0 < m ∧ m < 2 ^ 200 ∧ ∀ (r : Int) (ns' : List Int), 0 ≤ r → r < m → ns'.length = ns.length → P (.int r) (hold μ k k2 (c + 1) ns')
def c_law_far (K : PySem.W.Frag) : CT := fun ds μ P PX => ∃ (k k2 : Nat) (c : Int) (ns : List Int), ds = [.own k] ∧ Hd k k2 c ns μ ∧ c < 2 ^ 39 ∧ ∀ (r c' : Int) (ns' : List Int), 0 ≤ r → r < 10 ^ 56 → c ≤ c' → c' ≤ c + 8 → ns'.length = ns.length → P (.int r) (hold μ k k2 c' ns')
def c_law_lengths (K : PySem.W.Frag) : CT := fun ds μ P PX => ∃ (k k2 : Nat) (c : Int) (ns : List Int) (most many : Int), ds = [.own k, .int most, .int many] ∧ Hd k k2 c ns μ ∧ c < 2 ^ 39 ∧ 1 ≤ most ∧ most ≤ 1000 ∧ 1 ≤ many ∧ many ≤ 100 ∧
  ∀ (ls : List Int) (c' : Int) (ns' : List Int), 0 < ls.length → (ls.length : Int) ≤ many → (∀ x ∈ ls, 1 ≤ x ∧ x ≤ max 5 most) → c ≤ c' → c' ≤ c + 2 + many → ns'.length = ns.length → P (intsD ls) (hold μ k k2 c' ns')
def c_law_is (K : PySem.W.Frag) : CT := fun ds μ P PX => ∃ a : Int, ds = [.int a, .int a] ∧ P (.bl true) μ
/-- a list, a tuple of whole numbers -/
inductive SeqI (μ : Mu) : Bool → D → List Int → Prop
  | lst (xs : List Int) : SeqI μ true (.lst (xs.map D.int)) xs
  | own {k : Nat} {xs : List Int} (h : μ[k]? = some (.lst (xs.map D.int))) : SeqI μ true (.own k) xs
  | tup (xs : List Int) : SeqI μ false (.tup (xs.map D.int)) xs
def t_law_draw (K : PySem.W.Frag) (E : XK) : TS :=
    (tSeq (tAsg (tOp rModA (tOp (rIx K) (tVar 0) (tC (.int 0))) (tCB (rLen K) (tCons (tOp (rIx K) (tVar 0) (tC (.int 1))) tNil))) (gName 2))
      (tSeq (tAsg (tOp (rIx K) (tOp (rIx K) (tVar 0) (tC (.int 1))) (tVar 2)) (gName 3))
      (tSeq (tAugS (tVar 0) (tC (.int 0)) (tC (.int 1)) (rIxL K) (ipI fun i j => i + j) rSetL)
      (tSeq (tIfS (tTest (tOp (rI0 fun i j => .bl (decide (j ≤ i))) (tVar 3) (tC (.int 1000000000000000000)))) (tSeq (tAsg (tOp rFdivA (tVar 3) (tVar 1)) (gSub (tOp (rIx K) (tVar 0) (tC (.int 1))) (tVar 2) rSetL))
      (tRet (tOp rModA (tVar 3) (tVar 1)))) tNext)
      (tSeq (tAsg (tOp rModA (tOp (rAddA K) (tOp rModA (tVar 3) (tC (.int 2147483629))) (tOp rMulA (tC (.int 104729)) (tOp (rIx K) (tVar 0) (tC (.int 0))))) (tC (.int 2147483647))) (gName 4))
      (tSeq (tAsg (tOp rModA (tOp rMulA (tOp rModA (tOp (rI CPow fun i j => .int (i ^ j.toNat)) (tVar 4) (tC (.int 5))) (tC (.int 2147483647))) (tC (.int 48271))) (tC (.int 2147483629))) (gName 4))
      (tRet (tOp rModA (tOp rFdivA (tOp rModA (tOp (rI CPow fun i j => .int (i ^ j.toNat)) (tOp (rAddA K) (tVar 4) (tOp rMulA (tOp rModA (tVar 3) (tC (.int 1000003))) (tOp (rIx K) (tVar 0) (tC (.int 0))))) (tC (.int 3))) (tC (.int 2147483587))) (tC (.int 11))) (tVar 1)))))))))
def t_law_far (K : PySem.W.Frag) (E : XK) : TS :=
    (tSeq (tAsg (tCall (spD K (c_law_draw K)) [] E (tCons (tVar 0) (tCons (tC (.int 4)) tNil))) (gName 1))
      (tSeq (tIfS (tTest (tOp (rI0 fun i j => .bl (decide (i < j))) (tVar 1) (tC (.int 2)))) (tRet (tCall (spD K (c_law_draw K)) [] E (tCons (tVar 0) (tCons (tOp (rIx K) (tLst (tCons (tC (.int 1000)) (tCons (tC (.int 10000000)) tNil))) (tVar 1)) tNil)))) tNext)
      (tSeq (tAsg (tC (.int 0)) (gName 2))
      (tSeq (tFor (iRng1 (tCons (tC (.int 7)) tNil)) (gName 3) (tAsg (tOp (rAddA K) (tOp rMulA (tVar 2) (tC (.int 100000000))) (tCall (spD K (c_law_draw K)) [] E (tCons (tVar 0) (tCons (tC (.int 100000000)) tNil)))) (gName 2)))
      (tRet (tVar 2))))))
def t_law_lengths (K : PySem.W.Frag) (E : XK) : TS :=
    (tSeq (tAsg (tCall (spD K (c_law_draw K)) [] E (tCons (tVar 0) (tCons (tC (.int 8)) tNil))) (gName 3))
      (tSeq (tIfS (tTest (tOp (rEqD K) (tVar 3) (tC (.int 0)))) (tRet (tOp rMulA (tLst (tCons (tVar 1) tNil)) (tVar 2))) tNext)
      (tSeq (tAsg (tOp (rIx K) (tLst (tCons (tC (.int 1)) (tCons (tC (.int 2)) (tCons (tC (.int 5)) (tCons (tVar 1) (tCons (tVar 1) (tCons (tVar 1) (tCons (tVar 1) tNil)))))))) (tOp (rI0 fun i j => .int (i - j)) (tVar 3) (tC (.int 1)))) (gName 4))
      (tRet (tLc (iRng1 (tCons (tOp (rAddA K) (tC (.int 1)) (tCall (spD K (c_law_draw K)) [] E (tCons (tVar 0) (tCons (tVar 2) tNil)))) tNil)) (gName 5) tYes (tOp (rAddA K) (tC (.int 1)) (tCall (spD K (c_law_draw K)) [] E0 (tCons (tVar 0) (tCons (tVar 4) tNil)))) [5])))))
def t_law_is (K : PySem.W.Frag) (E : XK) : TS :=
    (tRet (tAndV (tCB (rIsi K) (tCons (tVar 0) (tCons (tC (.ty "int")) tNil))) (tAndV (tNotV (tCB (rIsi K) (tCons (tVar 0) (tCons (tC (.ty "bool")) tNil)))) (tOp (rEqD K) (tVar 0) (tVar 1)))))
section
variable {K : PySem.W.Frag}
theorem d_law_draw : ∀ ds μ P PX, c_law_draw K ds μ P PX → MuCl μ μ.length → clL ds μ.length = true → ∀ B E, XAg K B (RetX μ.length PX) E → DS K B (t_law_draw K E) (startD ["_law_hold", "_law_many", "_law_spot", "_law_cell", "_law_mark"] ds) μ (fnE μ.length P) := by
  intro ds μ P PX h hm hc B E hE
  obtain ⟨k, k2, c, ns, m, rfl, hd, hc40, hm0, hm1, h⟩ := h
  show DS K B _ [some (.own k), some (.int m), none, none, none] μ _
  have hn0 := hd.n0; have hc0 := hd.c0
  unfold t_law_draw
  wtm_at "A"
  refine ro_ixL (.own hd.a) (d := .int c) rfl ?_
  wtm_at "A"
  refine ro_ixL (.own hd.a) (d := .own k2) rfl ?_
  wtm_at "A"
  refine rc_lenL (.own hd.b) ?_
  rw [List.length_map]
  wtm_at "A"
  refine ro_ixL (.own hd.a) (d := .own k2) rfl ?_
  have hs0 := Int.emod_nonneg c (b := (ns.length : Int)) (by omega)
  have hs1 := Int.emod_lt_of_pos c (b := (ns.length : Int)) (by omega)
  obtain ⟨cell, hcell, hcell'⟩ := atNN (xs := ns) hs0 hs1
  wtm_at "A"
  refine ro_ixL (.own hd.b) (d := .int cell) (at_map (j := (c % ns.length).toNat) (by omega) hcell') ?_
  wtm_at "A"
  refine q_augS ?_
  wtm_at "A"
  refine ro_ixLL (.own hd.a) (d := .int c) rfl ?_
  wtm_at "A"
  refine rset_lst hd.a (j := 0) rfl ?_
  have e1 : (μ.set k (.lst ([D.int c, .own k2].set 0 (.int (c + 1))))) = hold μ k k2 (c + 1) ns := by
    unfold hold
    show μ.set k (.lst [.int (c + 1), .own k2]) = _
    apply List.ext_getElem?
    intro i
    by_cases e : k2 = i
    · subst e
      rw [List.getElem?_set_self (by simpa using (List.getElem?_eq_some_iff.mp hd.b).1), List.getElem?_set_ne hd.ne, hd.b]
    · rw [List.getElem?_set_ne e]
  rw [e1]
  have hd1 : Hd k k2 (c + 1) ns (hold μ k k2 (c + 1) ns) := hd.hold (by omega) rfl
  have ret : ∀ (r : Int) (ns' : List Int), 0 ≤ r → r < m → ns'.length = ns.length → Ret μ.length P (.int r) (hold μ k k2 (c + 1) ns') := fun r ns' h0 h1 hn => ret_same0 (by rw [hold_len]; exact Nat.le_refl _) (hd.cl hm) rfl (h r ns' h0 h1 hn)
  have hr : ∀ z : Int, 0 ≤ z % m ∧ z % m < m := fun z => ⟨Int.emod_nonneg z (by omega), Int.emod_lt_of_pos z hm0⟩
  wtm_at "A"
  · refine ro_fdiv hm0 (log2S hm0 hm1) ?_
    wtm_at "A"
    refine ro_ixL (.own hd1.a) (d := .own k2) rfl ?_
    wtm_at "A"
    refine rset_lst hd1.b (j := (c % ns.length).toNat) (by unfold ixN; rw [if_pos hs0, if_pos (by rw [List.length_map]; omega)]) ?_
    rw [show (hold μ k k2 (c + 1) ns).set k2 (.lst ((ns.map D.int).set (c % ns.length).toNat (.int (cell / m)))) = hold μ k k2 (c + 1) (ns.set (c % ns.length).toNat (cell / m)) by
      unfold hold
      rw [List.set_set, List.map_set]]
    wtm_at "A"
    exact ret _ _ (hr _).1 (hr _).2 (by simp)
  · have q1 := Int.emod_nonneg cell (b := 2147483629) (by decide)
    have q2 := Int.emod_lt_of_pos cell (b := 2147483629) (by decide)
    have q3 := Int.emod_nonneg cell (b := 1000003) (by decide)
    have q4 := Int.emod_lt_of_pos cell (b := 1000003) (by decide)
    refine ro_ixL (.own hd1.a) (d := .int (c + 1)) rfl ?_
    wtm_at "A"
    have q5 := Int.emod_nonneg (cell % 2147483629 + 104729 * (c + 1)) (b := 2147483647) (by decide)
    have q6 := Int.emod_lt_of_pos (cell % 2147483629 + 104729 * (c + 1)) (b := 2147483647) (by decide)
    refine ro_pow ⟨by decide, by decide, by omega⟩ ?_
    generalize hz : (cell % 2147483629 + 104729 * (c + 1)) % 2147483647 = z at *
    wtm_at "A"
    refine ro_ixL (.own hd1.a) (d := .int (c + 1)) rfl ?_
    wtm_at "A"
    generalize hy : z ^ (5 : Int).toNat % 2147483647 * 48271 % 2147483629 = y at *
    have q7 : 0 ≤ y ∧ y < 2147483629 := by
      rw [← hy]
      exact ⟨Int.emod_nonneg _ (by decide), Int.emod_lt_of_pos _ (by decide)⟩
    have q8 : 0 ≤ cell % 1000003 * (c + 1) ∧ cell % 1000003 * (c + 1) ≤ 1000003 * (2 ^ 40 + 1) := by
      refine ⟨Int.mul_nonneg q3 (by omega), ?_⟩
      exact Int.mul_le_mul (by omega) (by omega) (by omega) (by decide)
    refine ro_pow ⟨by decide, by decide, by omega⟩ ?_
    wtm_at "A"
    refine ro_fdiv (by decide) (by decide) ?_
    wtm_at "A"
    exact ret _ _ (hr _).1 (hr _).2 rfl
theorem d_law_far : ∀ ds μ P PX, c_law_far K ds μ P PX → MuCl μ μ.length → clL ds μ.length = true → ∀ B E, XAg K B (RetX μ.length PX) E → DS K B (t_law_far K E) (startD ["_law_hold", "_law_way", "_law_number", "_law_k"] ds) μ (fnE μ.length P) := by
  intro ds μ P PX h hm hc B E hE
  obtain ⟨k, k2, c, ns, rfl, hd, hc39, h⟩ := h
  show DS K B _ [some (.own k), none, none, none] μ _
  have hn0 := hd.n0; have hc0 := hd.c0
  have ret : ∀ (r c' : Int) (ns' : List Int), 0 ≤ r → r < 10 ^ 56 → c ≤ c' → c' ≤ c + 8 → ns'.length = ns.length → Ret μ.length P (.int r) (hold μ k k2 c' ns') := fun r c' ns' h0 h1 h2 h3 hn => ret_same0 (by rw [hold_len]; exact Nat.le_refl _) (hd.cl hm) rfl (h r c' ns' h0 h1 h2 h3 hn)
  unfold t_law_far
  wtm_at "A"
  refine ⟨k, k2, c, ns, 4, rfl, hd, by omega, by decide, by decide, fun w ns1 hw0 hw1 hn1 => ?_⟩
  have hd1 := hd.hold (c' := c + 1) (ns' := ns1) (by omega) hn1
  wtm_at "A"
  · refine de_lstZ ?_
    wtm_at "A"
    have hw : w = 0 ∨ w = 1 := by omega
    obtain ⟨top, htop, ht0, ht1⟩ : ∃ top, atI [D.int 1000, .int 10000000] w = some (.int top) ∧ 0 < top ∧ top ≤ 10000000 := by
      rcases hw with rfl | rfl
      · exact ⟨1000, rfl, by decide, by decide⟩
      · exact ⟨10000000, rfl, by decide, by decide⟩
    refine ro_ixL (.lst _) htop ?_
    wtm_at "A"
    refine ⟨k, k2, _, ns1, top, rfl, hd1, by omega, ht0, by omega, fun r ns2 hr0 hr1 hn2 => ?_⟩
    rw [hold_hold hd.ne]
    exact ret r _ ns2 hr0 (by omega) (by omega) (by omega) (by omega)
  · refine q_for ?_
    wtm_at "E"
    refine ⟨by decide, by decide, fun i ρ μ' => ∃ (num : Int) (y3 : Option D) (ns2 : List Int), ρ = [some (.own k), some (.int w), some (.int num), y3] ∧ hold μ k k2 (c + 1 + i) ns2 = μ' ∧ ns2.length = ns.length ∧ 0 ≤ num ∧ num < 100000000 ^ i ∧ i ≤ 7,
      ⟨0, none, ns1, rfl, by simp, hn1, by omega, by decide, by omega⟩, fun _ _ _ _ _ => trivial, ?_, ?_⟩
    · rintro i d ρ μ' hd' ⟨num, y3, ns2, rfl, rfl, hn2, h0, h1, hi7⟩
      obtain ⟨hi, rfl⟩ := rangeD_some hd'
      have hd2 := hd.hold (c' := c + 1 + i) (ns' := ns2) (by omega) hn2
      wtm_at "A"
      refine ⟨k, k2, _, ns2, 100000000, rfl, hd2, by omega, by decide, by decide, fun r ns3 hr0 hr1 hn3 => ?_⟩
      rw [hold_hold hd.ne]
      wtm_at "A"
      refine ⟨_, _, ns3, rfl, by rw [show c + 1 + (i : Int) + 1 = c + 1 + ((i + 1 : Nat) : Int) by omega], by omega, by omega, ?_, by omega⟩
      rw [Int.pow_succ]
      omega
    · rintro ρ μ' ⟨num, y3, ns2, rfl, rfl, hn2, h0, h1, hi7⟩
      wtm_at "A"
      refine ret num _ ns2 h0 ?_ (by omega) ?_ hn2
      · have : (100000000 : Int) ^ (rangeD 0 (Int.toNat 7)).length = 10 ^ 56 := by
          rw [rangeD_length]; decide
        omega
      · have : (rangeD 0 (Int.toNat 7)).length = 7 := by rw [rangeD_length]; rfl
        omega
theorem d_law_lengths : ∀ ds μ P PX, c_law_lengths K ds μ P PX → MuCl μ μ.length → clL ds μ.length = true → ∀ B E, XAg K B (RetX μ.length PX) E → DS K B (t_law_lengths K E) (startD ["_law_hold", "_law_most", "_law_many", "_law_way", "_law_some", "_law_k"] ds) μ (fnE μ.length P) := by
  intro ds μ P PX h hm hc B E hE
  obtain ⟨k, k2, c, ns, most, many, rfl, hd, hc39, hm0, hm1, hy0, hy1, h⟩ := h
  show DS K B _ [some (.own k), some (.int most), some (.int many), none, none, none] μ _
  have hn0 := hd.n0; have hc0 := hd.c0
  have ret : ∀ (ls : List Int) (c' : Int) (ns' : List Int), 0 < ls.length → (ls.length : Int) ≤ many → (∀ x ∈ ls, 1 ≤ x ∧ x ≤ max 5 most) → c ≤ c' → c' ≤ c + 2 + many → ns'.length = ns.length → Ret μ.length P (.lst (ls.map D.int)) (hold μ k k2 c' ns') := fun ls c' ns' h0 h1 h2 h3 h4 hn => ret_same0 (by rw [hold_len]; exact Nat.le_refl _) (hd.cl hm) (by simp [D.cl, cl_ints]) (h ls c' ns' h0 h1 h2 h3 h4 hn)
  unfold t_law_lengths
  wtm_at "A"
  refine ⟨k, k2, c, ns, 8, rfl, hd, by omega, by decide, by decide, fun w ns1 hw0 hw1 hn1 => ?_⟩
  have hd1 := hd.hold (c' := c + 1) (ns' := ns1) (by omega) hn1
  wtm_at "A"
  · refine de_lstZ ?_
    wtm_at "A"
    refine ro_rep (.lst _) (by omega) (by simp; omega) ?_
    have e : repD [D.int most] many = (List.replicate many.toNat most).map D.int := by
      simp [repD]
    rw [e]
    exact ret _ _ ns1 (by simp; omega) (by simp; omega) (fun x hx => by rw [List.mem_replicate] at hx; omega) (by omega) (by omega) hn1
  · refine de_lstZ ?_
    wtm_at "A"
    obtain ⟨top, htop, ht0, ht1⟩ : ∃ top, atI [D.int 1, .int 2, .int 5, .int most, .int most, .int most, .int most] (w - 1) = some (.int top) ∧ 0 < top ∧ top ≤ max 5 most := by
      have hw : w - 1 = 0 ∨ w - 1 = 1 ∨ w - 1 = 2 ∨ w - 1 = 3 ∨ w - 1 = 4 ∨ w - 1 = 5 ∨ w - 1 = 6 := by omega
      rcases hw with e | e | e | e | e | e | e <;> rw [e]
      · exact ⟨1, rfl, by omega, by omega⟩
      · exact ⟨2, rfl, by omega, by omega⟩
      · exact ⟨5, rfl, by omega, by omega⟩
      all_goals exact ⟨most, rfl, by omega, by omega⟩
    refine ro_ixL (.lst _) htop ?_
    wtm_at "A"
    refine de_lc (gw_name (by simp)) ?_
    wtm_at "A"
    refine ⟨k, k2, _, ns1, many, rfl, hd1, by omega, by omega, by omega, fun n ns2 hn0' hn1' hn2 => ?_⟩
    rw [hold_hold hd.ne]
    wtm_at "A"
    refine ⟨by omega, by omega, by rw [rangeD_length]; omega, fun i acc μ' => ∃ (ls ns3 : List Int), acc = ls.map D.int ∧ μ' = hold μ k k2 (c + 2 + i) ns3 ∧ ns3.length = ns.length ∧ ls.length = i ∧ ∀ x ∈ ls, 1 ≤ x ∧ x ≤ max 5 most,
      ⟨[], ns2, rfl, by rw [show c + 1 + 1 = c + 2 + ((0 : Nat) : Int) by omega], by omega, rfl, by simp⟩, fun _ _ _ _ _ => trivial, ?_, ?_⟩
    · rintro i d acc μ' hd' ⟨ls, ns3, rfl, rfl, hn3, hli, hls⟩
      obtain ⟨hi, rfl⟩ := rangeD_some hd'
      have hd3 := hd.hold (c' := c + 2 + i) (ns' := ns3) (by omega) hn3
      wtm_at "E"
      refine de_call XAg.none ?_
      wtm_at "E"
      refine ⟨k, k2, _, ns3, top, rfl, hd3, by omega, ht0, by omega, fun r ns4 hr0 hr1 hn4 => ?_⟩
      rw [hold_hold hd.ne]
      wtm_at "E"
      refine ⟨ls ++ [1 + r], ns4, by simp, by rw [show c + 2 + (i : Int) + 1 = c + 2 + ((i + 1 : Nat) : Int) by omega], by omega, by simp [hli], fun x hx => ?_⟩
      rcases List.mem_append.mp hx with m | m
      · exact hls x m
      · simp at m; subst m; omega
    · rintro acc μ' ⟨ls, ns3, rfl, rfl, hn3, hli, hls⟩
      rw [rangeD_length] at hli ⊢
      exact ret ls _ ns3 (by omega) (by omega) hls (by omega) (by omega) hn3
theorem d_law_is : ∀ ds μ P PX, c_law_is K ds μ P PX → MuCl μ μ.length → clL ds μ.length = true → ∀ B E, XAg K B (RetX μ.length PX) E → DS K B (t_law_is K E) (startD ["_law_found", "_law_due"] ds) μ (fnE μ.length P) := by
  intro ds μ P PX h hm hc B E hE
  obtain ⟨a, rfl, h⟩ := h
  show DS K B _ [some (.int a), some (.int a)] μ _
  unfold t_law_is
  wtm_at "A"
  wtm_at "r"
  simpa using h
theorem SeqI.len {μ : Mu} {b : Bool} {x : D} {xs : List Int} {P : D → Mu → Prop} (h : SeqI μ b x xs) (p : P (.int (xs.length : Int)) μ) : RC K (rLen K) [x] μ P := by
  have e : ((xs.map D.int).length : Int) = (xs.length : Int) := by rw [List.length_map]
  cases h with
  | lst => exact rc_lenL (.lst _) (by rw [e]; exact p)
  | own h => exact rc_lenL (.own h) (by rw [e]; exact p)
  | tup => exact rc_lenT' (.tup _) (by rw [e]; exact p)
end
section
variable {K : PySem.W.Frag}
/-- hold = [0, list(script) if script != [] else [0]] -/
theorem de_hold0 {B : Bs} {ρ : En} {μ : Mu} {ns : List Int} {P : D → Mu → Prop} (e : ρ[0]? = some (some (.rdl (ns.map D.int)))) (hl : ns.length ≤ 63) (h : ∀ cs : List Int, Hd (μ.length + 1) μ.length 0 cs (μ ++ [.lst (cs.map D.int), .lst [.int 0, .own μ.length]]) → P (.own (μ.length + 1)) (μ ++ [.lst (cs.map D.int), .lst [.int 0, .own μ.length]])) :
    DE K B (tLst (tCons (tC (.int 0)) (tCons (tIf (tTest (tOp (rNeD K) (tVar 0) (tLst tNil))) (tCB (rListOf K) (tCons (tVar 0) tNil)) (tLst (tCons (tC (.int 0)) tNil))) tNil))) ρ μ P := by
  have fin : ∀ cs : List Int, 0 < cs.length → cs.length ≤ 63 → P (.own (μ ++ [MO.lst (cs.map D.int)]).length) (μ ++ [MO.lst (cs.map D.int)] ++ [MO.lst [.int 0, .own μ.length]]) := fun cs h0 h1 => by
    have := h cs ⟨by rw [List.getElem?_append_right (by omega)]; simp, by rw [List.getElem?_append_right (by omega)]; simp, by omega, by omega, h0, by omega⟩
    rw [List.append_assoc, List.length_append]
    exact this
  refine de_lstOZ ?_
  wtm_at "E"
  refine de_lstZ ?_
  wtm_at "E"
  refine ro_neD (n := 1) (m := 1) (.id _) (.id _) (by simpa [D.shp] using shpL_map (f := D.int) (n := 0) fun x _ => rfl) rfl ?_
  rw [show eqvD (.rdl (ns.map D.int)) (.lst []) = decide (ns = []) by
    have := eqv_nil (ns.map D.int)
    simp only [List.map_eq_nil_iff] at this
    rw [← this]
    simp only [eqvD, D.py]]
  wtm_at "E"
  · rename_i hb
    refine rc_listO (.rdl _) ?_
    wtm_at "E"
    exact fin ns (by cases ns with
      | nil => simp at hb
      | cons _ _ => simp) hl
  · refine de_lstOZ ?_
    wtm_at "E"
    exact fin [0] (by decide) (by decide)
theorem cal_dat (ls : List Int) : (intsD ls).dat = true := by
  unfold intsD D.dat
  rw [datL_iff]
  intro x hx
  obtain ⟨s, _, rfl⟩ := List.mem_map.mp hx
  rfl
theorem clF_cal (ls : List Int) (n : Nat) : clF (calF ls) n = true := by simp only [clF, calF, D.cl, intsD, cl_ints, Bool.and_self]
theorem Fz.app {μ : Mu} {x d : D} (h : Fz μ x d) (ext : Mu) : Fz (μ ++ ext) x d := by
  cases h with
  | id => exact .id _
  | own h => exact .own (mu_old h)
/-- Calendar(..) -/
theorem de_cal {B : Bs} {E : XK} {PX : PXT} {ts : TA} {ρ : En} {μ : Mu} {P : D → Mu → Prop} (hE : XAg K B PX E) (h : DA K B ts ρ μ fun ds μ1 => ∃ x ls, ds = [x] ∧ Fz μ1 x (intsD ls) ∧ GCal ls ∧ P (calD K ls) μ1) : DE K B (tMake (He.ga K "Calendar") (spD K (c_Calendar_init K)) [] E ts) ρ μ P := by
  refine de_make hE da_nd ?_
  refine fun σ G H al hB hσ hA Q hQ => h σ G H al hB hσ hA Q fun vs ds μ1 G1 H1 al1 n1 A1 r1 p1 => hQ vs ds μ1 G1 H1 al1 n1 A1 r1 ?_
  obtain ⟨x, ls, rfl, fz, hg, p⟩ := p1
  have fz' := fz.app [MO.ins (He.ga K "Calendar") []]
  refine ⟨_, x, intsD ls, rfl, mu_last, fz', cal_dat ls, fun ls' e hg' => ⟨rfl, calF ls, ?_, clF_cal ls _, p⟩, fun e => ?_⟩
  · have : ls' = ls := by
      unfold intsD at e
      injection e with e
      exact (List.map_inj_right (fun a b h => by injection h)).mp e.symm
    subst this
    exact set_last
  · exact absurd (areNums_of hg) (by rw [e]; simp)
theorem ints_get {ls : List Int} {i : Nat} {d : D} (h : (ls.map D.int)[i]? = some d) : ∃ n, ls[i]? = some n ∧ d = .int n := by
  rw [List.getElem?_map] at h
  cases q : ls[i]? with
  | none => rw [q] at h; cases h
  | some s => rw [q] at h; exact ⟨s, rfl, (Option.some.inj h).symm⟩
/-- sum(ls[:place]) -/
theorem cut_pre {ls : List Int} {p : Int} (h0 : 0 ≤ p) (h1 : p ≤ ls.length) : cutD (ls.map D.int) none (some p) = (ls.take p.toNat).map D.int := by
  have e : cutD (ls.map D.int) none (some p) = cutD (ls.map D.int) (some 0) (some p) := by
    unfold cutD
    congr 2 <;> simp [HT.sIx]
  rw [e, cut_nat (by omega) h0 (by rw [List.length_map]; exact h1)]
  simp
end
/-! ### meetings: in plain numbers -/
def bgn (ls : List Int) (x : Int) : Prop := ∃ i, i < ls.length ∧ x % ls.sum = preY ls i
def MtP (ls ms : List Int) (later x : Int) : Prop := bgn ls x ∧ bgn ms (x - later)
def MeetS (ls ms : List Int) (later low : Int) : Option Int → Prop
  | none => ∀ x, low ≤ x → ¬ MtP ls ms later x
  | some m => low ≤ m ∧ MtP ls ms later m ∧ ∀ x, low ≤ x → x < m → ¬ MtP ls ms later x
theorem MeetS.uniq {ls ms : List Int} {later low : Int} {a b : Option Int} (h : MeetS ls ms later low a) (h' : MeetS ls ms later low b) : a = b := by
  cases a with
  | none => cases b with
    | none => rfl
    | some m => exact absurd h'.2.1 (h m h'.1)
  | some n => cases b with
    | none => exact absurd h.2.1 (h' n h.1)
    | some m =>
      congr 1
      rcases Int.lt_trichotomy n m with c | c | c
      · exact absurd h.2.1 (h'.2.2 n h.1 c)
      · exact c
      · exact absurd h'.2.1 (h.2.2 m h'.1 c)
theorem preY_bd {ls : List Int} (h : GCal ls) {i : Nat} (hi : i < ls.length) : 0 ≤ preY ls i ∧ preY ls i < ls.sum := by
  have e1 : ∀ x ∈ ls, 1 ≤ x := fun x hx => (h.each x hx).1
  have h3 := preY_mono e1 (i := 0) (j := i) (by omega) (by omega)
  have h4 := preY_mono e1 (i := i) (j := ls.length) (by omega) (by omega)
  rw [preY_zero] at h3
  rw [preY_all] at h4
  omega
/-- two congruences together -/
structure Bez (S T g u : Int) : Prop where
  pos : 0 < g
  ex : ∃ s t v, S = g * s ∧ T = g * t ∧ 1 = s * u + t * v ∧ 0 < s ∧ 0 < t
theorem Bez.lcm {S T g u z : Int} (h : Bez S T g u) (h1 : S ∣ z) (h2 : T ∣ z) : S / g * T ∣ z := by
  obtain ⟨s, t, v, rfl, rfl, hb, _, _⟩ := h.ex
  have hg := h.pos
  rw [Int.mul_ediv_cancel_left _ (by omega)]
  obtain ⟨p, hp⟩ := h1
  obtain ⟨q, hq⟩ := h2
  refine ⟨q * u + p * v, ?_⟩
  have : z = z * (s * u + t * v) := by rw [← hb]; simp
  grind
theorem Bez.lcm_pos {S T g u : Int} (h : Bez S T g u) (hT : 0 < T) : 0 < S / g ∧ 0 < S / g * T ∧ 0 < T / g ∧ S ∣ S / g * T ∧ T ∣ S / g * T := by
  obtain ⟨s, t, v, rfl, rfl, hb, hs, ht⟩ := h.ex
  have hg := h.pos
  rw [Int.mul_ediv_cancel_left _ (by omega), Int.mul_ediv_cancel_left _ (by omega)]
  exact ⟨hs, Int.mul_pos hs hT, ht, ⟨t, by grind⟩, ⟨s, by grind⟩⟩
/-- the day of both, told by the program -/
theorem Bez.meet {S T g u later pi pj : Int} (h : Bez S T g u) (hi : 0 ≤ pi ∧ pi < S) (hj : 0 ≤ pj ∧ pj < T) (hd : (later + pj - pi) % g = 0) :
    (pi + S * ((later + pj - pi) / g * u % (T / g))) % S = pi ∧ (pi + S * ((later + pj - pi) / g * u % (T / g)) - later) % T = pj := by
  obtain ⟨s, t, v, rfl, rfl, hb, hs, ht⟩ := h.ex
  have hg := h.pos
  rw [Int.mul_ediv_cancel_left _ (by omega)]
  have hgap := Int.mul_ediv_add_emod (later + pj - pi) g
  rw [hd, Int.add_zero] at hgap
  generalize (later + pj - pi) / g = gp at hgap
  have hk := Int.mul_ediv_add_emod (gp * u) t
  generalize gp * u / t = q at hk
  generalize gp * u % t = k at hk
  refine ⟨?_, ?_⟩
  · rw [Int.add_mul_emod_self_left, Int.emod_eq_of_lt hi.1 hi.2]
  · have e : pi + g * s * k - later = pj + g * t * (- gp * v - s * q) := by grind
    rw [e, Int.add_mul_emod_self_left, Int.emod_eq_of_lt hj.1 hj.2]
theorem dvd_of_mod {a b n : Int} (h : a % n = b % n) : n ∣ a - b := Int.dvd_of_emod_eq_zero (Int.emod_eq_emod_iff_emod_sub_eq_zero.mp h)
theorem mod_of_dvd {a b n : Int} (h : n ∣ a - b) : a % n = b % n := Int.emod_eq_emod_iff_emod_sub_eq_zero.mpr (Int.emod_eq_zero_of_dvd h)
theorem Bez.none {S T g u later pi pj x : Int} (h : Bez S T g u) (hx : x % S = pi) (hy : (x - later) % T = pj) : (later + pj - pi) % g = 0 := by
  obtain ⟨s, t, v, rfl, rfl, hb, hs, ht⟩ := h.ex
  have e1 := Int.mul_ediv_add_emod x (g * s)
  have e2 := Int.mul_ediv_add_emod (x - later) (g * t)
  rw [hx] at e1
  rw [hy] at e2
  generalize x / (g * s) = p at e1
  generalize (x - later) / (g * t) = q at e2
  have : later + pj - pi = g * (s * p - t * q) := by grind
  rw [this]
  exact Int.mul_emod_right _ _
/-- .. and every other one lies whole turns away -/
theorem Bez.all {S T g u later pi pj x : Int} (h : Bez S T g u) (hi : 0 ≤ pi ∧ pi < S) (hj : 0 ≤ pj ∧ pj < T) (hx : x % S = pi) (hy : (x - later) % T = pj) :
    S / g * T ∣ (pi + S * ((later + pj - pi) / g * u % (T / g))) - x := by
  obtain ⟨m1, m2⟩ := h.meet (later := later) hi hj (h.none hx hy)
  refine h.lcm (dvd_of_mod (by rw [m1, hx])) ?_
  have := dvd_of_mod (a := pi + S * ((later + pj - pi) / g * u % (T / g)) - later) (b := x - later) (n := T) (by rw [m2, hy])
  rwa [show pi + S * ((later + pj - pi) / g * u % (T / g)) - later - (x - later) = pi + S * ((later + pj - pi) / g * u % (T / g)) - x by omega] at this
theorem low_mod {L low f x : Int} (hL : 0 < L) (hx : low ≤ x) (h : L ∣ f - x) : low + (f - low) % L ≤ x := by
  have e : (f - low) % L = (x - low) % L := mod_of_dvd (by rwa [show f - low - (x - low) = f - x by omega])
  rw [e]
  have := Int.emod_nonneg (x - low) (b := L) (by omega)
  have h1 := Int.mul_ediv_add_emod (x - low) L
  have h2 : 0 ≤ L * ((x - low) / L) := Int.mul_nonneg (by omega) (Int.ediv_nonneg (by omega) (by omega))
  omega
theorem low_same {L low f : Int} : L ∣ low + (f - low) % L - f := by
  have h1 := Int.mul_ediv_add_emod (f - low) L
  refine ⟨-((f - low) / L), ?_⟩
  rw [Int.mul_neg]
  omega
/-- what the list of days tells -/
structure Found (ls ms : List Int) (later L : Int) (F : List Int) (pr : Nat → Nat → Prop) : Prop where
  ok : ∀ f ∈ F, MtP ls ms later f
  all : ∀ i j x, pr i j → i < ls.length → j < ms.length → x % ls.sum = preY ls i → (x - later) % ms.sum = preY ms j → ∃ f ∈ F, L ∣ f - x
theorem MtP.per {ls ms : List Int} {later x y L : Int} (h : MtP ls ms later x) (h1 : ls.sum ∣ L) (h2 : ms.sum ∣ L) (hd : L ∣ y - x) : MtP ls ms later y := by
  obtain ⟨⟨i, hi, ei⟩, ⟨j, hj, ej⟩⟩ := h
  refine ⟨⟨i, hi, ?_⟩, ⟨j, hj, ?_⟩⟩
  · rw [← ei]; exact mod_of_dvd (Int.dvd_trans h1 hd)
  · rw [← ej]; exact mod_of_dvd (by rw [show y - later - (x - later) = y - x by omega]; exact Int.dvd_trans h2 hd)
theorem Found.end {ls ms : List Int} {later L low : Int} {F : List Int} (h : Found ls ms later L F fun i j => i < ls.length ∧ j < ms.length) (hL : 0 < L) (h1 : ls.sum ∣ L) (h2 : ms.sum ∣ L) :
    (F = [] → MeetS ls ms later low none) ∧ ∀ m, m ∈ F.map (fun f => low + (f - low) % L) → (∀ y, y ∈ F.map (fun f => low + (f - low) % L) → m ≤ y) → MeetS ls ms later low (some m) := by
  have any : ∀ x, MtP ls ms later x → ∃ f ∈ F, L ∣ f - x := fun x hx => by
    obtain ⟨⟨i, hi, ei⟩, ⟨j, hj, ej⟩⟩ := hx
    exact h.all i j x ⟨hi, hj⟩ hi hj ei ej
  refine ⟨fun e x hx hm => ?_, fun m hm hmin => ?_⟩
  · obtain ⟨f, hf, _⟩ := any x hm
    rw [e] at hf
    cases hf
  · obtain ⟨f, hf, rfl⟩ := List.mem_map.mp hm
    have := Int.emod_nonneg (f - low) (b := L) (by omega)
    refine ⟨by omega, (h.ok f hf).per h1 h2 low_same, fun x hx hlt hmt => ?_⟩
    obtain ⟨f', hf', hd⟩ := any x hmt
    have h3 := hmin _ (List.mem_map.mpr ⟨f', hf', rfl⟩)
    have h4 := low_mod hL hx hd
    omega
/-- Euclid's way -/
structure Euc (S T left by_ behind more : Int) : Prop where
  l0 : 0 < left
  b0 : 0 ≤ behind
  ll : left ≤ 8000
  bl : behind ≤ 8000
  e1 : ∃ v, left = S * by_ + T * v
  e2 : ∃ v, behind = S * more + T * v
  dv : ∀ c, c ∣ left → c ∣ behind → c ∣ S ∧ c ∣ T
  sg : ∃ s a b : Int, (s = 1 ∨ s = -1) ∧ 0 ≤ a ∧ 0 ≤ b ∧ by_ = s * a ∧ more = -s * b ∧ b * left + a * behind = T ∧ a ≤ T
theorem Euc.first {S T : Int} (hS : 0 < S) (hT : 0 < T) (h1 : S ≤ 8000) (h2 : T ≤ 8000) : Euc S T S 1 T 0 :=
  ⟨hS, by omega, h1, h2, ⟨0, by simp⟩, ⟨1, by simp⟩, fun c h1 h2 => ⟨h1, h2⟩, ⟨1, 1, 0, .inl rfl, by omega, by omega, by simp, by simp, by simp, by omega⟩⟩
theorem Euc.step {S T l b n m : Int} (h : Euc S T l b n m) (hn : n ≠ 0) : Euc S T n m (l - l / n * n) (b - l / n * m) ∧ (l - l / n * n) < n := by
  have hl := h.l0; have hn0 := h.b0
  have hp : 0 < n := by omega
  have hd := Int.ediv_mul_add_emod l n
  have hm0 := Int.emod_nonneg l (b := n) (by omega)
  have hm1 := Int.emod_lt_of_pos l hp
  have hq : 0 ≤ l / n := Int.ediv_nonneg (by omega) (by omega)
  have e : l - l / n * n = l % n := by omega
  rw [e]
  have := h.bl
  refine ⟨⟨hp, hm0, this, by omega, h.e2, ?_, fun c h1 h2 => ?_, ?_⟩, hm1⟩
  · obtain ⟨v, e1⟩ := h.e1
    obtain ⟨w, e2⟩ := h.e2
    refine ⟨v - l / n * w, ?_⟩
    rw [← e]
    grind
  · refine h.dv c ?_ h1
    rw [← hd]
    exact Int.dvd_add (Int.dvd_mul_of_dvd_right h1) h2
  · obtain ⟨s, a, b', hs, ha, hb, e1, e2, e3, e4⟩ := h.sg
    have hqb : 0 ≤ l / n * b' := Int.mul_nonneg hq hb
    have hbl : b' ≤ b' * l := by
      have := Int.mul_le_mul_of_nonneg_left (show (1 : Int) ≤ l by omega) hb
      simpa using this
    have han : 0 ≤ a * n := Int.mul_nonneg ha (by omega)
    refine ⟨-s, b', a + l / n * b', by omega, hb, by omega, e2, ?_, ?_, by omega⟩
    · rw [e1, e2]; grind
    · have : l % n = l - l / n * n := by omega
      rw [this]; grind
theorem Euc.done {S T l b m : Int} (h : Euc S T l b 0 m) (hS : 0 < S) (hT : 0 < T) : Bez S T l b ∧ -8000 ≤ b ∧ b ≤ 8000 ∨ T > 8000 := by
  obtain ⟨h1, h2⟩ := h.dv l (Int.dvd_refl _) (Int.dvd_zero _)
  obtain ⟨s, rfl⟩ := h1
  obtain ⟨t, rfl⟩ := h2
  have hl := h.l0
  obtain ⟨v, e⟩ := h.e1
  have hs : 0 < s := Int.pos_of_mul_pos_right hS (by omega) |> fun x => x
  have ht : 0 < t := Int.pos_of_mul_pos_right hT (by omega) |> fun x => x
  by_cases hc : l * t > 8000
  · exact .inr hc
  · refine .inl ⟨⟨hl, s, t, v, rfl, rfl, ?_, hs, ht⟩, ?_⟩
    · have : l * 1 = l * (s * b + t * v) := by rw [Int.mul_one]; grind
      exact Int.eq_of_mul_eq_mul_left (by omega) this
    · obtain ⟨s', a, b', hs', ha, hb, e1, e2, e3, e4⟩ := h.sg
      rcases hs' with rfl | rfl <;> omega
def c_common_by (K : PySem.W.Frag) : CT := fun ds μ P PX => ∃ (S T : Int), ds = [.int S, .int T] ∧ 0 < S ∧ S ≤ 8000 ∧ 0 < T ∧ T ≤ 8000 ∧ ∀ g u, Bez S T g u → g ≤ 8000 → -8000 ≤ u → u ≤ 8000 → P (.tup [.int g, .int u]) μ
def c_meeting (K : PySem.W.Frag) : CT := fun ds μ P PX => ∃ (ls ms : List Int) (later day : Int), ds = [calD K ls, calD K ms, .int later, .int day] ∧ GCal ls ∧ GCal ms ∧
  (0 ≤ later → 0 ≤ day → ∀ r, MeetS ls ms later (max day later) r → P (optD r) μ) ∧ (later < 0 ∨ day < 0 → PX (He.ga K "NoDay") [] μ)
def t_common_by (K : PySem.W.Frag) (E : XK) : TS :=
    (tSeq (tPar 2 3 (tCons (tVar 0) (tCons (tC (.int 1)) tNil)))
      (tSeq (tPar 4 5 (tCons (tVar 1) (tCons (tC (.int 0)) tNil)))
      (tSeq (tWhile (tTest (tOp (rNeD K) (tVar 4) (tC (.int 0)))) (tSeq (tAsg (tOp rFdivA (tVar 2) (tVar 4)) (gName 6))
      (tAsg (tTup (tCons (tVar 4) (tCons (tVar 5) (tCons (tOp (rI0 fun i j => .int (i - j)) (tVar 2) (tOp rMulA (tVar 6) (tVar 4))) (tCons (tOp (rI0 fun i j => .int (i - j)) (tVar 3) (tOp rMulA (tVar 6) (tVar 5))) tNil))))) (gTup K 4 (gCons (gName 2) (gCons (gName 3) (gCons (gName 4) (gCons (gName 5) gNil))))))))
      (tRet (tTup (tCons (tVar 2) (tCons (tVar 3) tNil)))))))
def t_meeting (K : PySem.W.Frag) (E : XK) : TS :=
    (tSeq (tDrop (tCall (spD K (c_need_day K)) [] E (tCons (tVar 2) tNil)))
      (tSeq (tDrop (tCall (spD K (c_need_day K)) [] E (tCons (tVar 3) tNil)))
      (tSeq (tAsg (tTup (tCons (tMeth (He.ga K "Calendar") "turn" (spD K (c_Calendar_turn K)) [] E (tVar 0) tNil) (tCons (tMeth (He.ga K "Calendar") "turn" (spD K (c_Calendar_turn K)) [] E (tVar 1) tNil) tNil))) (gTup K 2 (gCons (gName 4) (gCons (gName 5) gNil))))
      (tSeq (tAsg (tCall (spD K (c_common_by K)) [] E (tCons (tVar 4) (tCons (tVar 5) tNil))) (gTup K 2 (gCons (gName 6) (gCons (gName 7) gNil))))
      (tSeq (tAsg (tLst tNil) (gName 8))
      (tSeq (tFor (iRng1 (tCons (tCB (rLen K) (tCons (tMeth (He.ga K "Calendar") "years" (spD K (c_Calendar_years K)) [] E (tVar 0) tNil) tNil)) tNil)) (gName 9) (tSeq (tAsg (tMeth (He.ga K "Calendar") "first" (spD K (c_Calendar_first K)) [] E (tVar 0) (tCons (tVar 9) tNil)) (gName 10))
      (tFor (iRng1 (tCons (tCB (rLen K) (tCons (tMeth (He.ga K "Calendar") "years" (spD K (c_Calendar_years K)) [] E (tVar 1) tNil) tNil)) tNil)) (gName 11) (tSeq (tAsg (tOp (rI0 fun i j => .int (i - j)) (tOp (rAddA K) (tVar 2) (tMeth (He.ga K "Calendar") "first" (spD K (c_Calendar_first K)) [] E (tVar 1) (tCons (tVar 11) tNil))) (tVar 10)) (gName 12))
      (tIfS (tTest (tOp (rEqD K) (tOp rModA (tVar 12) (tVar 6)) (tC (.int 0)))) (tDrop (tBM K "list" rAppend (tVar 8) (tCons (tOp (rAddA K) (tVar 10) (tOp rMulA (tVar 4) (tOp rModA (tOp rMulA (tOp rFdivA (tVar 12) (tVar 6)) (tVar 7)) (tOp rFdivA (tVar 5) (tVar 6))))) tNil))) tNext)))))
      (tSeq (tAsg (tCB (rMaxA K) (tCons (tVar 3) (tCons (tVar 2) tNil))) (gName 13))
      (tRet (tCKw (rMinD K) (tCons (tLc (iAny K (tVar 8)) (gName 10) tYes (tOp (rAddA K) (tVar 13) (tOp rModA (tOp (rI0 fun i j => .int (i - j)) (tVar 10) (tVar 13)) (tOp rMulA (tOp rFdivA (tVar 4) (tVar 6)) (tVar 5)))) [10]) tNil) (tCons (tC .non) tNil))))))))))
section
variable {K : PySem.W.Frag}
theorem d_common_by : ∀ ds μ P PX, c_common_by K ds μ P PX → MuCl μ μ.length → clL ds μ.length = true → ∀ B E, XAg K B (RetX μ.length PX) E → DS K B (t_common_by K E) (startD ["one", "other", "left", "by", "behind", "more", "often"] ds) μ (fnE μ.length P) := by
  intro ds μ P PX h hm hc B E hE
  obtain ⟨S, T, rfl, hS, hS1, hT, hT1, h⟩ := h
  show DS K B _ [some (.int S), some (.int T), none, none, none, none, none] μ _
  unfold t_common_by
  wtm_at "A"
  refine q_while (fun m ρ μ' => ∃ (l b n r : Int) (y6 : Option D), ρ = [some (.int S), some (.int T), some (.int l), some (.int b), some (.int n), some (.int r), y6] ∧ μ = μ' ∧ Euc S T l b n r ∧ n.toNat = m) (m0 := T.toNat)
    ⟨S, 1, T, 0, none, rfl, rfl, Euc.first hS hT hS1 hT1, rfl⟩ ?_
  rintro m ρ μ' ⟨l, b, n, r, y6, rfl, rfl, he, hm'⟩
  have hl0 := he.l0; have hb0 := he.b0; have hll := he.ll; have hbl := he.bl
  wtm_at "E"
  · rename_i hb
    obtain ⟨st, hlt⟩ := he.step hb
    have hq0 : 0 ≤ l / n := Int.ediv_nonneg (by omega) (by omega)
    have hq1 : l / n ≤ 8000 := Int.le_trans (Int.ediv_le_self _ (by omega)) hll
    wtm_at "A"
    refine ro_fdiv (by omega) (log2S (by omega) (by omega)) ?_
    wtm_at "A"
    refine ⟨(l - l / n * n).toNat, by omega, _, _, _, _, _, rfl, rfl, st, rfl⟩
  · rename_i hb
    obtain rfl : n = 0 := by omega
    wtm_at "A"
    wtm_at "r"
    rcases he.done hS hT with ⟨hz, h1, h2⟩ | c
    · exact h l b hz hll h1 h2
    · omega
theorem d_meeting : ∀ ds μ P PX, c_meeting K ds μ P PX → MuCl μ μ.length → clL ds μ.length = true → ∀ B E, XAg K B (RetX μ.length PX) E → DS K B (t_meeting K E) (startD ["one", "other", "later", "day", "turn", "span", "common", "by", "found", "year", "begin", "number", "gap", "low"] ds) μ (fnE μ.length P) := by
  intro ds μ P PX h hm hc B E hE
  obtain ⟨ls, ms, later, day, rfl, hg, hgm, h, hx⟩ := h
  show DS K B _ [some (calD K ls), some (calD K ms), some (.int later), some (.int day), none, none, none, none, none, none, none, none, none, none] μ _
  have hS := hg.sum_pos; have hS1 := hg.sum_le; have hT := hgm.sum_pos; have hT1 := hgm.sum_le
  have hn := hg.pos; have hn1 := hg.most; have hm' := hgm.pos; have hm1 := hgm.most
  unfold t_meeting
  wtm_at "A"
  refine ⟨later, rfl, fun hl0 => ?_, fun hl => retx_same0 hm rfl (hx (.inl hl))⟩
  wtm_at "A"
  refine ⟨day, rfl, fun hd0 => ?_, fun hl => retx_same0 hm rfl (hx (.inr hl))⟩
  have h := h hl0 hd0
  wtm_at "A"
  refine ⟨ls, rfl, ?_⟩
  wtm_at "A"
  refine ⟨ms, rfl, ?_⟩
  wtm_at "A"
  refine ⟨ls.sum, ms.sum, rfl, hS, hS1, hT, hT1, fun g u hz hg1 hu0 hu1 => ?_⟩
  have hgp := hz.pos
  obtain ⟨hl1, hl2, hl3, hl4, hl5⟩ := hz.lcm_pos hT
  wtm_at "A"
  refine de_lstOZ ?_
  wtm_at "A"
  refine q_for ?_
  wtm_at "E"
  refine ⟨ls, rfl, .inl ?_⟩
  wtm_at "E"
  rw [List.length_map]
  refine ⟨by omega, by omega, fun i ρ μ' => ∃ (y9 y10 y11 y12 : Option D) (F : List Int), ρ = [some (calD K ls), some (calD K ms), some (.int later), some (.int day), some (.int ls.sum), some (.int ms.sum), some (.int g), some (.int u), some (.own μ.length), y9, y10, y11, y12, none] ∧ μ' = μ ++ [.lst (F.map D.int)] ∧ F.length ≤ 20 * i ∧ Found ls ms later (ls.sum / g * ms.sum) F fun i' j' => i' < i ∧ j' < ms.length,
    ⟨none, none, none, none, [], rfl, rfl, by simp, ⟨fun f hf => by simp at hf, fun i' j' x hp => by omega⟩⟩, fun _ _ _ _ _ => trivial, ?_, ?_⟩
  · rintro i z ρ μ' hz' ⟨y9, y10, y11, y12, F, rfl, rfl, hF, fd⟩
    obtain ⟨hi, rfl⟩ := rangeD_some hz'
    have hi' : i < ls.length := by simpa using hi
    wtm_at "A"
    refine ⟨ls, _, rfl, hg, fun _ => ?_, fun hx => absurd hx (by omega)⟩
    rw [show (0 : Int) + (i : Int) = i by omega, firstY_in hi']
    refine ds_for ?_
    wtm_at "E"
    refine ⟨ms, rfl, .inl ?_⟩
    wtm_at "E"
    rw [List.length_map]
    refine ⟨by omega, by omega, fun j ρ μ' => ∃ (y11 y12 : Option D) (F' : List Int), ρ = [some (calD K ls), some (calD K ms), some (.int later), some (.int day), some (.int ls.sum), some (.int ms.sum), some (.int g), some (.int u), some (.own μ.length), some (.int (i : Int)), some (.int (preY ls i)), y11, y12, none] ∧ μ' = μ ++ [.lst (F'.map D.int)] ∧ F'.length ≤ 20 * i + j ∧ Found ls ms later (ls.sum / g * ms.sum) F' fun i' j' => i' < i ∧ j' < ms.length ∨ i' = i ∧ j' < j,
      ⟨y11, y12, F, rfl, rfl, by omega, ⟨fd.ok, fun i' j' x hp h1 h2 e1 e2 => fd.all i' j' x (by omega) h1 h2 e1 e2⟩⟩, fun _ _ _ _ _ => trivial, ?_, ?_⟩
    · rintro j z ρ μ' hz'' ⟨y11, y12, F', rfl, rfl, hF', fd'⟩
      obtain ⟨hj, rfl⟩ := rangeD_some hz''
      have hj' : j < ms.length := by simpa using hj
      have bi := preY_bd hg hi'
      have bj := preY_bd hgm hj'
      wtm_at "A"
      refine ⟨ms, _, rfl, hgm, fun _ => ?_, fun hx => absurd hx (by omega)⟩
      rw [show (0 : Int) + (j : Int) = j by omega, firstY_in hj']
      wtm_at "A"
      · rename_i hb
        wtm_at "m"
        wtm_at "A"
        refine ro_fdiv (by omega) (log2S (by omega) (by omega)) ?_
        wtm_at "A"
        refine ro_fdiv (by omega) (log2S (by omega) (by omega)) ?_
        wtm_at "A"
        refine rm_app mu_last (by simp; omega) ?_
        rw [set_last]
        refine ⟨_, _, F' ++ [preY ls i + ls.sum * ((later + preY ms j - preY ls i) / g * u % (ms.sum / g))], rfl, by simp, by simp; omega, ⟨fun f hf => ?_, fun i' j' x hp h1 h2 e1 e2 => ?_⟩⟩
        · rcases List.mem_append.mp hf with c | c
          · exact fd'.ok f c
          · obtain rfl := List.mem_singleton.mp c
            obtain ⟨m1, m2⟩ := hz.meet (later := later) bi bj hb
            exact ⟨⟨i, hi', m1⟩, ⟨j, hj', m2⟩⟩
        · by_cases hc : i' < i ∧ j' < ms.length ∨ i' = i ∧ j' < j
          · obtain ⟨f, hf, hd⟩ := fd'.all i' j' x hc h1 h2 e1 e2
            exact ⟨f, List.mem_append_left _ hf, hd⟩
          · obtain ⟨rfl, rfl⟩ : i' = i ∧ j' = j := by omega
            exact ⟨_, List.mem_append_right _ (List.mem_singleton.mpr rfl), hz.all bi bj e1 e2⟩
      · rename_i hb
        refine ⟨_, _, F', rfl, rfl, by omega, ⟨fd'.ok, fun i' j' x hp h1 h2 e1 e2 => ?_⟩⟩
        by_cases hc : i' < i ∧ j' < ms.length ∨ i' = i ∧ j' < j
        · exact fd'.all i' j' x hc h1 h2 e1 e2
        · obtain ⟨rfl, rfl⟩ : i' = i ∧ j' = j := by omega
          exact absurd (hz.none e1 e2) hb
    · rintro ρ μ' ⟨y11, y12, F', rfl, rfl, hF', fd'⟩
      rw [rangeD_length] at hF' fd'
      refine ⟨_, _, _, _, F', rfl, rfl, by simp at hF'; omega, ⟨fd'.ok, fun i' j' x hp h1 h2 e1 e2 => fd'.all i' j' x (by simp; omega) h1 h2 e1 e2⟩⟩
  · rintro ρ μ' ⟨y9, y10, y11, y12, F, rfl, rfl, hF, fd⟩
    rw [rangeD_length] at hF fd
    obtain ⟨q0, q1⟩ := Found.end (low := max day later) (F := F) ⟨fd.ok, fun i j x hp h1 h2 e1 e2 => fd.all i j x (by simp; omega) h1 h2 e1 e2⟩ hl2 hl4 hl5
    wtm_at "A"
    refine de_minD ?_
    wtm_at "A"
    refine lc_map (fun z => match z with | .int f => .int (max day later + (f - max day later) % (ls.sum / g * ms.sum)) | _ => .non) (gw_name (by simp)) ?_
    wtm_at "A"
    refine ⟨_, _, .own mu_last, mu_last, by simp at hF ⊢; omega, fun j z hz'' => ?_, fun out ho => ?_⟩
    · obtain ⟨f, hf, rfl⟩ := ints_get hz''
      refine dg_name ⟨rfl, ?_⟩
      wtm_at "A"
      refine ro_fdiv (by omega) (log2S (by omega) (by omega)) ?_
      wtm_at "A"
      exact ⟨rfl, rfl⟩
    · have ho' : out = (F.map fun f => max day later + (f - max day later) % (ls.sum / g * ms.sum)).map D.int := by
        rw [← ho, List.map_map, List.map_map]; rfl
      wtm_at "A"
      refine ⟨_, _, F.map fun f => max day later + (f - max day later) % (ls.sum / g * ms.sum), rfl, rfl, by rw [ho']; exact .lst _, fun e => ?_, fun m h1 h2 => ?_⟩
      · exact ret_same (Nat.le_refl _) hm rfl (h none (q0 (by simpa using e)))
      · exact ret_same (Nat.le_refl _) hm rfl (h (some m) (q1 m h1 h2))
end
/-! ### the law's own meetings -/
/-- all of these days from low to the one ahead of high -/
structure DaysOf (p : Int → Prop) (low high : Int) (F : List Int) : Prop where
  mem : ∀ x, x ∈ F ↔ low ≤ x ∧ x < high ∧ p x
  up : F.Pairwise (· < ·)
theorem up_len : ∀ {F : List Int} {low high : Int}, F.Pairwise (· < ·) → (∀ x ∈ F, low ≤ x ∧ x < high) → low ≤ high → (F.length : Int) ≤ high - low
  | [], low, high, _, _, hh => by simp; omega
  | a :: F, low, high, hp, hb, hh => by
    have h1 := hb a (by simp)
    have := up_len (F := F) (low := a + 1) (high := high) (List.pairwise_cons.mp hp).2 (fun x hx => by
      have := (List.pairwise_cons.mp hp).1 x hx
      have := hb x (by simp [hx])
      omega) (by omega)
    simp
    omega
theorem DaysOf.len {p : Int → Prop} {low high : Int} {F : List Int} (h : DaysOf p low high F) (hh : low ≤ high) : (F.length : Int) ≤ high - low := up_len h.up (fun x hx => by have := (h.mem x).mp hx; omega) hh
/-- in one turn from a day on that begins one -/
theorem bgn_at {ls : List Int} (hg : GCal ls) {base : Int} (hb : ls.sum ∣ base) {p : Nat} (hp : p < ls.length) {x : Int} (h0 : base + preY ls p ≤ x) (h1 : x < base + preY ls (p + 1)) : bgn ls x ↔ x = base + preY ls p := by
  have e1 : ∀ x ∈ ls, 1 ≤ x := fun x hx => (hg.each x hx).1
  have b0 := preY_bd hg hp
  have h4 := preY_mono e1 (i := p + 1) (j := ls.length) (by omega) (by omega)
  rw [preY_all] at h4
  have em : x % ls.sum = x - base := by
    obtain ⟨k, rfl⟩ := hb
    rw [show x = (x - ls.sum * k) + ls.sum * k by omega, Int.add_mul_emod_self_left, Int.emod_eq_of_lt (by omega) (by omega)]
    omega
  constructor
  · rintro ⟨i, hi, e⟩
    rw [em] at e
    rcases Nat.lt_trichotomy i p with c | c | c
    · have := preY_mono e1 (i := i) (j := p) (by omega) (by omega); omega
    · subst c; omega
    · have := preY_mono e1 (i := p + 1) (j := i) (by omega) (by omega); omega
  · intro e
    exact ⟨p, hp, by rw [em]; omega⟩
/-- a turn of both tells all -/
theorem days_meet {ls ms : List Int} (hg : GCal ls) (hgm : GCal ms) {later low : Int} {F : List Int} (h : DaysOf (MtP ls ms later) low (low + ls.sum * ms.sum) F) : MeetS ls ms later low F.head? := by
  have hS := hg.sum_pos; have hT := hgm.sum_pos
  have hL := Int.mul_pos hS hT
  cases F with
  | nil =>
    intro x hx hm
    have h1 := Int.emod_nonneg (x - low) (b := ls.sum * ms.sum) (by omega)
    have h2 := Int.emod_lt_of_pos (x - low) hL
    have := (h.mem (low + (x - low) % (ls.sum * ms.sum))).mpr ⟨by omega, by omega, hm.per (Int.dvd_mul_right ..) (Int.dvd_mul_left ..) low_same⟩
    cases this
  | cons a F =>
    obtain ⟨h1, h2, h3⟩ := (h.mem a).mp (by simp)
    refine ⟨h1, h3, fun x hx hlt hm => ?_⟩
    have := (h.mem x).mpr ⟨hx, by omega, hm⟩
    rcases List.mem_cons.mp this with e | e
    · omega
    · have := (List.pairwise_cons.mp h.up).1 x e
      omega
theorem div_len {a S n : Int} (ha : 0 ≤ a) (hS : 0 < S) (hn : 0 ≤ n) (h : n ≤ S) : a / S * n ≤ a := by
  have h1 := Int.mul_le_mul_of_nonneg_left h (Int.ediv_nonneg ha (Int.le_of_lt hS))
  have h2 := Int.ediv_mul_le a (Int.ne_of_gt hS)
  omega
theorem sum_len {ls : List Int} (h : ∀ x ∈ ls, 1 ≤ x) : (ls.length : Int) ≤ ls.sum := by
  induction ls with
  | nil => simp
  | cons a r ih =>
    have := ih fun x hx => h x (List.mem_cons_of_mem _ hx)
    have := h a (by simp)
    simp only [List.sum_cons, List.length_cons]
    push_cast
    omega
/-- so many years begin at most -/
def fewB (ls : List Int) (low high : Int) : Prop := ((high - low) / ls.sum + 2) * ls.length ≤ 90000
def c_law_begins (K : PySem.W.Frag) : CT := fun ds μ P PX => ∃ (ls : List Int) (low high : Int), ds = [intsD ls, .int low, .int high] ∧ GCal ls ∧ 0 ≤ low ∧ low ≤ high ∧ high ≤ low + 700000 ∧ fewB ls low high ∧ ∀ F, DaysOf (bgn ls) low high F → F.length ≤ 90000 → P (intsD F) μ
def c_law_first (K : PySem.W.Frag) : CT := fun ds μ P PX => ∃ (ls : List Int) (y : Int), ds = [intsD ls, .int y] ∧ GCal ls ∧ 0 ≤ y ∧ P (.int (firstY ls y)) μ
def c_law_due (K : PySem.W.Frag) : CT := fun ds μ P PX => ∃ (ls ms : List Int) (later low high : Int), ds = [intsD ls, intsD ms, .int later, .int low, .int high] ∧ GCal ls ∧ GCal ms ∧ 0 ≤ later ∧ 0 ≤ low ∧ later ≤ high ∧ low ≤ high ∧ high ≤ low + 20000 ∧ MtP ls ms later high ∧ ∀ m, MeetS ls ms later (max low later) (some m) → P (.int m) μ
def c_law_round_right (K : PySem.W.Frag) : CT := fun ds μ P PX => ∃ (k k2 : Nat) (c : Int) (ns : List Int) (ls ms : List Int), ds = [intsD ls, intsD ms, .own k] ∧ Hd k k2 c ns μ ∧ c < 2 ^ 38 ∧ GCal ls ∧ GCal ms ∧ ∀ (c' : Int) (ns' : List Int), c ≤ c' → c' ≤ c + 40 → ns'.length = ns.length → P (.bl true) (hold μ k k2 c' ns')
def c_law_wide_right (K : PySem.W.Frag) : CT := fun ds μ P PX => ∃ (ls ms : List Int) (later day : Int), ds = [intsD ls, intsD ms, .int later, .int day] ∧ GCal ls ∧ GCal ms ∧ ls.length ≤ 2 ∧ ms.length ≤ 2 ∧ 0 ≤ later ∧ 0 ≤ day ∧ P (.bl true) μ
/-- all years but one are of whole times -/
structure OneW (t : Int) (ws : List Int) (off to : Int) : Prop where
  g : GCal ws
  off0 : 0 < off
  off1 : off < t
  all : t ∣ ws.sum
  at_ : ∃ p, p < ws.length ∧ to = preY ws p ∧ (∀ i, i < ws.length → i ≠ p → t ∣ preY ws i) ∧ t ∣ preY ws p - off
def c_law_one_way (K : PySem.W.Frag) : CT := fun ds μ P PX => ∃ (k k2 : Nat) (c : Int) (ns : List Int) (t : Int), ds = [.own k, .int t] ∧ Hd k k2 c ns μ ∧ c < 2 ^ 38 ∧ 2 ≤ t ∧ t ≤ 8 ∧ ∀ (ws : List Int) (off to : Int) (c' : Int) (ns' : List Int), OneW t ws off to → c ≤ c' → c' ≤ c + 40 → ns'.length = ns.length → P (.tup [intsD ws, .int off, .int to]) (hold μ k k2 c' ns')
def c_law_lone_right (K : PySem.W.Frag) : CT := fun ds μ P PX => ∃ (k k2 : Nat) (c : Int) (ns : List Int), ds = [.own k] ∧ Hd k k2 c ns μ ∧ c < 2 ^ 37 ∧ ∀ (c' : Int) (ns' : List Int), c ≤ c' → c' ≤ c + 80 → ns'.length = ns.length → P (.bl true) (hold μ k k2 c' ns')
def c_law (K : PySem.W.Frag) : CT := fun ds μ P PX => ∃ ns : List Int, ds = [.rdl (ns.map D.int)] ∧ ns.length ≤ 63 ∧ ∀ μ', P (.bl true) μ'
def t_law_begins (K : PySem.W.Frag) (E : XK) : TS :=
    (tSeq (tAsg (tOp rMulA (tOp rFdivA (tVar 1) (tCB (rSum K) (tCons (tVar 0) tNil))) (tCB (rSum K) (tCons (tVar 0) tNil))) (gName 3))
      (tSeq (tAsg (tLst tNil) (gName 4))
      (tSeq (tWhile (tTest (tOp (rI0 fun i j => .bl (decide (i < j))) (tVar 3) (tVar 2))) (tFor (iAny K (tVar 0)) (gName 5) (tSeq (tIfS (tTest (tChain (rI0 fun i j => .bl (decide (i ≤ j))) (rI0 fun i j => .bl (decide (i < j))) (tVar 1) (tVar 3) (tVar 2))) (tDrop (tBM K "list" rAppend (tVar 4) (tCons (tVar 3) tNil))) tNext)
      (tAug 3 (tVar 5) (ipI fun i j => i + j)))))
      (tRet (tVar 4)))))
def t_law_first (K : PySem.W.Frag) (E : XK) : TS :=
    (tSeq (tAsg (tCB rDivmod (tCons (tVar 1) (tCons (tCB (rLen K) (tCons (tVar 0) tNil)) tNil))) (gTup K 2 (gCons (gName 2) (gCons (gName 3) gNil))))
      (tRet (tOp (rAddA K) (tOp rMulA (tVar 2) (tCB (rSum K) (tCons (tVar 0) tNil))) (tCB (rSum K) (tCons (tSl (rSlA K) (tVar 0) tNoPart (tPart (tVar 3))) tNil)))))
def t_law_due (K : PySem.W.Frag) (E : XK) : TS :=
    (tSeq (tAsg (tCall (spD K (c_law_begins K)) [] E (tCons (tVar 1) (tCons (tC (.int 0)) (tCons (tCB (rSum K) (tCons (tVar 1) tNil)) tNil)))) (gName 5))
      (tSeq (tFor (iAny K (tCall (spD K (c_law_begins K)) [] E (tCons (tVar 0) (tCons (tCB (rMaxA K) (tCons (tVar 3) (tCons (tVar 2) tNil))) (tCons (tOp (rAddA K) (tVar 4) (tC (.int 1))) tNil))))) (gName 6) (tIfS (tTest (tOp (rInA K) (tOp rModA (tOp (rI0 fun i j => .int (i - j)) (tVar 6) (tVar 2)) (tCB (rSum K) (tCons (tVar 1) tNil))) (tVar 5))) (tRet (tVar 6)) tNext))
      (tRet (tVar 4))))
def t_law_round_right (K : PySem.W.Frag) (E : XK) : TS :=
    (tSeq (tAsg (tCall (spD K (c_law_far K)) [] E (tCons (tVar 2) tNil)) (gName 3))
      (tSeq (tAsg (tCall (spD K (c_law_first K)) [] E (tCons (tVar 0) (tCons (tVar 3) tNil))) (gName 4))
      (tSeq (tAsg (tOp rModA (tCall (spD K (c_law_far K)) [] E (tCons (tVar 2) tNil)) (tOp (rAddA K) (tOp rMulA (tOp rFdivA (tVar 4) (tCB (rSum K) (tCons (tVar 1) tNil))) (tCB (rLen K) (tCons (tVar 1) tNil))) (tC (.int 1)))) (gName 5))
      (tSeq (tAsg (tOp (rI0 fun i j => .int (i - j)) (tVar 4) (tCall (spD K (c_law_first K)) [] E (tCons (tVar 1) (tCons (tVar 5) tNil)))) (gName 6))
      (tSeq (tAsg (tCB (rMaxA K) (tCons (tC (.int 0)) (tCons (tOp (rI0 fun i j => .int (i - j)) (tCall (spD K (c_law_first K)) [] E (tCons (tVar 0) (tCons (tCB (rMaxA K) (tCons (tC (.int 0)) (tCons (tOp (rI0 fun i j => .int (i - j)) (tVar 3) (tCall (spD K (c_law_draw K)) [] E (tCons (tVar 2) (tCons (tC (.int 31)) tNil)))) tNil))) tNil))) (tCall (spD K (c_law_draw K)) [] E (tCons (tVar 2) (tCons (tC (.int 400)) tNil)))) tNil))) (gName 7))
      (tSeq (tPar 8 9 (tCons (tMake (He.ga K "Calendar") (spD K (c_Calendar_init K)) [] E (tCons (tCB (rListOf K) (tCons (tVar 0) tNil)) tNil)) (tCons (tMake (He.ga K "Calendar") (spD K (c_Calendar_init K)) [] E (tCons (tCB (rListOf K) (tCons (tVar 1) tNil)) tNil)) tNil)))
      (tSeq (tAsg (tCall (spD K (c_law_due K)) [] E (tCons (tVar 0) (tCons (tVar 1) (tCons (tVar 6) (tCons (tVar 7) (tCons (tVar 4) tNil)))))) (gName 10))
      (tSeq (tIfS (tNot (tTruth K (tCall (spD K (c_law_is K)) [] E (tCons (tCall (spD K (c_meeting K)) [] E (tCons (tVar 8) (tCons (tVar 9) (tCons (tVar 6) (tCons (tVar 7) tNil))))) (tCons (tVar 10) tNil))))) (tRet (tC (.bl false))) tNext)
      (tSeq (tAsg (tOp (rAddA K) (tVar 4) (tOp rMulA (tOp rMulA (tCB (rSum K) (tCons (tVar 0) tNil)) (tCB (rSum K) (tCons (tVar 1) tNil))) (tCall (spD K (c_law_far K)) [] E (tCons (tVar 2) tNil)))) (gName 11))
      (tRet (tCall (spD K (c_law_is K)) [] E (tCons (tCall (spD K (c_meeting K)) [] E (tCons (tVar 8) (tCons (tVar 9) (tCons (tVar 6) (tCons (tVar 11) tNil))))) (tCons (tVar 11) tNil)))))))))))))
def t_law_wide_right (K : PySem.W.Frag) (E : XK) : TS :=
    (tSeq (tAsg (tCB (rMaxA K) (tCons (tVar 3) (tCons (tVar 2) tNil))) (gName 4))
      (tSeq (tAsg tDNewK (gName 5))
      (tSeq (tFor (iAny K (tCall (spD K (c_law_begins K)) [] E (tCons (tVar 1) (tCons (tOp (rI0 fun i j => .int (i - j)) (tVar 4) (tVar 2)) (tCons (tOp (rAddA K) (tOp (rI0 fun i j => .int (i - j)) (tVar 4) (tVar 2)) (tOp rMulA (tCB (rSum K) (tCons (tVar 0) tNil)) (tCB (rSum K) (tCons (tVar 1) tNil)))) tNil))))) (gName 6) (sDPut (tVar 5) (tOp (rAddA K) (tVar 2) (tVar 6)) (tC (.bl true))))
      (tSeq (tAsg (tLc (iAny K (tCall (spD K (c_law_begins K)) [] E (tCons (tVar 0) (tCons (tVar 4) (tCons (tOp (rAddA K) (tVar 4) (tOp rMulA (tCB (rSum K) (tCons (tVar 0) tNil)) (tCB (rSum K) (tCons (tVar 1) tNil)))) tNil))))) (gName 6) (tB (tDIn (tVar 6) (tVar 5))) (tVar 6) [6]) (gName 7))
      (tSeq (tAsg (tCall (spD K (c_meeting K)) [] E (tCons (tMake (He.ga K "Calendar") (spD K (c_Calendar_init K)) [] E (tCons (tCB (rListOf K) (tCons (tVar 0) tNil)) tNil)) (tCons (tMake (He.ga K "Calendar") (spD K (c_Calendar_init K)) [] E (tCons (tCB (rListOf K) (tCons (tVar 1) tNil)) tNil)) (tCons (tVar 2) (tCons (tVar 3) tNil))))) (gName 8))
      (tRet (tIf (tTest (tOp (rEqD K) (tVar 7) (tLst tNil))) (tIsN (tVar 8)) (tCall (spD K (c_law_is K)) [] E (tCons (tVar 8) (tCons (tOp (rIx K) (tVar 7) (tC (.int 0))) tNil))))))))))
def t_law_one_way (K : PySem.W.Frag) (E : XK) : TS :=
    (tSeq (tAsg (tOp (rI0 fun i j => .int (i - j)) (tOp rFdivA (tC (.int 400)) (tVar 1)) (tC (.int 1))) (gName 2))
      (tSeq (tAsg (tOp (rIx K) (tLst (tCons (tC (.int 2)) (tCons (tC (.int 20)) (tCons (tOp (rAddA K) (tC (.int 2)) (tCall (spD K (c_law_draw K)) [] E (tCons (tVar 0) (tCons (tC (.int 19)) tNil)))) tNil)))) (tCall (spD K (c_law_draw K)) [] E (tCons (tVar 0) (tCons (tC (.int 3)) tNil)))) (gName 3))
      (tSeq (tAsg (tOp (rIx K) (tLst (tCons (tC (.int 2)) (tCons (tC (.int 5)) (tCons (tVar 2) tNil)))) (tCall (spD K (c_law_draw K)) [] E (tCons (tVar 0) (tCons (tC (.int 3)) tNil)))) (gName 4))
      (tSeq (tAsg (tLc (iRng1 (tCons (tVar 3) tNil)) (gName 6) tYes (tOp rMulA (tVar 1) (tOp (rI0 fun i j => .int (i - j)) (tVar 2) (tCall (spD K (c_law_draw K)) [] E0 (tCons (tVar 0) (tCons (tVar 4) tNil))))) [6]) (gName 5))
      (tSeq (tAsg (tCall (spD K (c_law_draw K)) [] E (tCons (tVar 0) (tCons (tOp (rI0 fun i j => .int (i - j)) (tVar 3) (tC (.int 1))) tNil))) (gName 7))
      (tSeq (tAsg (tOp (rAddA K) (tC (.int 1)) (tCall (spD K (c_law_draw K)) [] E (tCons (tVar 0) (tCons (tOp (rI0 fun i j => .int (i - j)) (tVar 1) (tC (.int 1))) tNil)))) (gName 8))
      (tSeq (tAugS (tVar 5) (tVar 7) (tVar 8) (rIxL K) (ipI fun i j => i + j) rSetL)
      (tSeq (tAugS (tVar 5) (tOp (rAddA K) (tVar 7) (tC (.int 1))) (tOp (rI0 fun i j => .int (i - j)) (tVar 1) (tVar 8)) (rIxL K) (ipI fun i j => i + j) rSetL)
      (tRet (tTup (tCons (tVar 5) (tCons (tVar 8) (tCons (tCB (rSum K) (tCons (tSl (rSlA K) (tVar 5) tNoPart (tPart (tOp (rAddA K) (tVar 7) (tC (.int 1))))) tNil)) tNil)))))))))))))
def t_law_lone_right (K : PySem.W.Frag) (E : XK) : TS :=
    (tSeq (tAsg (tOp (rAddA K) (tC (.int 2)) (tCall (spD K (c_law_draw K)) [] E (tCons (tVar 0) (tCons (tC (.int 7)) tNil)))) (gName 1))
      (tSeq (tAsg (tCall (spD K (c_law_draw K)) [] E (tCons (tVar 0) (tCons (tC (.int 2)) tNil))) (gName 2))
      (tSeq (tAsg (tCall (spD K (c_law_one_way K)) [] E (tCons (tVar 0) (tCons (tVar 1) tNil))) (gTup K 3 (gCons (gName 3) (gCons (gName 4) (gCons (gName 5) gNil)))))
      (tSeq (tAsg (tOp rMulA (tVar 1) (tOp (rI0 fun i j => .int (i - j)) (tOp rFdivA (tC (.int 400)) (tVar 1)) (tOp rMulA (tVar 2) (tCall (spD K (c_law_draw K)) [] E (tCons (tVar 0) (tCons (tOp rFdivA (tC (.int 400)) (tVar 1)) tNil)))))) (gName 6))
      (tSeq (tAsg (tOp (rI0 fun i j => .int (i - j)) (tOp (rAddA K) (tOp rMulA (tVar 1) (tCall (spD K (c_law_far K)) [] E (tCons (tVar 0) tNil))) (tVar 1)) (tVar 4)) (gName 7))
      (tSeq (tAsg (tCall (spD K (c_law_far K)) [] E (tCons (tVar 0) tNil)) (gName 8))
      (tSeq (tAsg (tOp (rAddA K) (tVar 7) (tVar 5)) (gName 9))
      (tSeq (tIfS (tTest (tOp (rI0 fun i j => .bl (decide (i < j))) (tVar 9) (tVar 8))) (tAug 9 (tOp rMulA (tOp rFdivA (tOp (rI0 fun i j => .int (i - j)) (tOp (rAddA K) (tOp (rI0 fun i j => .int (i - j)) (tVar 8) (tVar 9)) (tCB (rSum K) (tCons (tVar 3) tNil))) (tC (.int 1))) (tCB (rSum K) (tCons (tVar 3) tNil))) (tCB (rSum K) (tCons (tVar 3) tNil))) (ipI fun i j => i + j)) tNext)
      (tSeq (tAsg (tLc (iRng1 (tCons (tVar 6) tNil)) (gName 11) (tTest (tOp (rEqD K) (tOp rModA (tOp (rAddA K) (tVar 9) (tOp rMulA (tVar 11) (tCB (rSum K) (tCons (tVar 3) tNil)))) (tVar 6)) (tC (.int 0)))) (tOp (rAddA K) (tVar 9) (tOp rMulA (tVar 11) (tCB (rSum K) (tCons (tVar 3) tNil)))) [11]) (gName 10))
      (tSeq (tAsg (tCall (spD K (c_meeting K)) [] E (tCons (tMake (He.ga K "Calendar") (spD K (c_Calendar_init K)) [] E (tCons (tLst (tCons (tVar 6) tNil)) tNil)) (tCons (tMake (He.ga K "Calendar") (spD K (c_Calendar_init K)) [] E (tCons (tCB (rListOf K) (tCons (tVar 3) tNil)) tNil)) (tCons (tVar 7) (tCons (tVar 8) tNil))))) (gName 12))
      (tRet (tIf (tTest (tOp (rEqD K) (tVar 10) (tLst tNil))) (tIsN (tVar 12)) (tCall (spD K (c_law_is K)) [] E (tCons (tVar 12) (tCons (tOp (rIx K) (tVar 10) (tC (.int 0))) tNil)))))))))))))))
def t_law (K : PySem.W.Frag) (E : XK) : TS :=
    (tSeq (tAsg (tLst (tCons (tC (.int 0)) (tCons (tIf (tTest (tOp (rNeD K) (tVar 0) (tLst tNil))) (tCB (rListOf K) (tCons (tVar 0) tNil)) (tLst (tCons (tC (.int 0)) tNil))) tNil))) (gName 1))
      (tSeq (tFor (iRng1 (tCons (tCB (rMaxA K) (tCons (tC (.int 1)) (tCons (tCB (rMinA K) (tCons (tC (.int 3)) (tCons (tCB (rLen K) (tCons (tVar 0) tNil)) tNil))) tNil))) tNil)) (gName 2) (tSeq (tPar 3 4 (tCons (tCall (spD K (c_law_lengths K)) [] E (tCons (tVar 1) (tCons (tC (.int 400)) (tCons (tC (.int 20)) tNil)))) (tCons (tCall (spD K (c_law_lengths K)) [] E (tCons (tVar 1) (tCons (tC (.int 400)) (tCons (tC (.int 20)) tNil)))) tNil)))
      (tIfS (tNot (tTruth K (tCall (spD K (c_law_round_right K)) [] E (tCons (tVar 3) (tCons (tVar 4) (tCons (tVar 1) tNil)))))) (tRet (tC (.bl false))) tNext)))
      (tSeq (tPar 3 4 (tCons (tCall (spD K (c_law_lengths K)) [] E (tCons (tVar 1) (tCons (tC (.int 400)) (tCons (tC (.int 2)) tNil)))) (tCons (tCall (spD K (c_law_lengths K)) [] E (tCons (tVar 1) (tCons (tC (.int 400)) (tCons (tC (.int 2)) tNil)))) tNil)))
      (tSeq (tIfS (tNot (tTruth K (tCall (spD K (c_law_wide_right K)) [] E (tCons (tVar 3) (tCons (tVar 4) (tCons (tCall (spD K (c_law_far K)) [] E (tCons (tVar 1) tNil)) (tCons (tCall (spD K (c_law_far K)) [] E (tCons (tVar 1) tNil)) tNil))))))) (tRet (tC (.bl false))) tNext)
      (tSeq (tIfS (tNot (tTruth K (tCall (spD K (c_law_lone_right K)) [] E (tCons (tVar 1) tNil)))) (tRet (tC (.bl false))) tNext)
      (tSeq (tAsg (tOp (rAddA K) (tC (.int 2)) (tCall (spD K (c_law_draw K)) [] E (tCons (tVar 1) (tCons (tC (.int 8)) tNil)))) (gName 5))
      (tSeq (tAsg (tOp (rAddA K) (tOp (rAddA K) (tOp rMulA (tVar 5) (tCall (spD K (c_law_far K)) [] E (tCons (tVar 1) tNil))) (tC (.int 1))) (tCall (spD K (c_law_draw K)) [] E (tCons (tVar 1) (tCons (tOp (rI0 fun i j => .int (i - j)) (tVar 5) (tC (.int 1))) tNil)))) (gName 6))
      (tSeq (tAsg (tLc (iAny K (tCall (spD K (c_law_lengths K)) [] E (tCons (tVar 1) (tCons (tOp rFdivA (tC (.int 400)) (tVar 5)) (tCons (tC (.int 20)) tNil))))) (gName 7) tYes (tOp rMulA (tVar 5) (tVar 7)) [7]) (gName 3))
      (tSeq (tAsg (tLc (iAny K (tCall (spD K (c_law_lengths K)) [] E (tCons (tVar 1) (tCons (tOp rFdivA (tC (.int 400)) (tVar 5)) (tCons (tC (.int 20)) tNil))))) (gName 7) tYes (tOp rMulA (tVar 5) (tVar 7)) [7]) (gName 4))
      (tRet (tIsN (tCall (spD K (c_meeting K)) [] E (tCons (tMake (He.ga K "Calendar") (spD K (c_Calendar_init K)) [] E (tCons (tVar 3) tNil)) (tCons (tMake (He.ga K "Calendar") (spD K (c_Calendar_init K)) [] E (tCons (tVar 4) tNil)) (tCons (tVar 6) (tCons (tCall (spD K (c_law_far K)) [] E (tCons (tVar 1) tNil)) tNil))))))))))))))))
section
variable {K : PySem.W.Frag}
theorem d_law_begins : ∀ ds μ P PX, c_law_begins K ds μ P PX → MuCl μ μ.length → clL ds μ.length = true → ∀ B E, XAg K B (RetX μ.length PX) E → DS K B (t_law_begins K E) (startD ["_law_lengths_here", "_law_low", "_law_high", "_law_day", "_law_found", "_law_days"] ds) μ (fnE μ.length P) := by
  intro ds μ P PX h hm hc B E hE
  obtain ⟨ls, low, high, rfl, hg, hl0, hlh, hh, hfew, h⟩ := h
  unfold fewB at hfew
  show DS K B _ [some (intsD ls), some (.int low), some (.int high), none, none, none] μ _
  have hS := hg.sum_pos; have hS1 := hg.sum_le; have hn := hg.pos; have hn1 := hg.most
  have hq := Int.ediv_mul_add_emod low ls.sum
  have hq0 := Int.emod_nonneg low (b := ls.sum) (by omega)
  have hq1 := Int.emod_lt_of_pos low hS
  unfold t_law_begins
  wtm_at "A"
  refine rc_sum (.lst _) ?_
  wtm_at "A"
  refine ro_fdiv (by omega) (log2S (by omega) (by omega)) ?_
  wtm_at "A"
  refine rc_sum (.lst _) ?_
  wtm_at "A"
  refine de_lstOZ ?_
  wtm_at "A"
  refine q_while (fun m ρ μ' => ∃ (day : Int) (F : List Int) (y5 : Option D) (q : Nat), ρ = [some (intsD ls), some (.int low), some (.int high), some (.int day), some (.own μ.length), y5] ∧ μ' = μ ++ [.lst (F.map D.int)] ∧ ls.sum ∣ day ∧ DaysOf (fun x => x < day ∧ bgn ls x) low high F ∧ m = (high - day).toNat ∧ day = low / ls.sum * ls.sum + q * ls.sum ∧ F.length ≤ q * ls.length ∧ (q : Int) ≤ (high - low) / ls.sum + 2) (m0 := (high - low / ls.sum * ls.sum).toNat)
    ⟨low / ls.sum * ls.sum, [], none, 0, rfl, rfl, Int.dvd_mul_left .., ⟨fun x => by simp; omega, .nil⟩, rfl, by simp, by simp, by have := Int.ediv_nonneg (show 0 ≤ high - low by omega) (show 0 ≤ ls.sum by omega); omega⟩ ?_
  rintro m ρ μ' ⟨day, F, y5, q, rfl, rfl, hdv, hF, rfl, hday, hFq, hqm⟩
  wtm_at "E"
  · rename_i hb
    have hq2 : (q : Int) ≤ (high - low) / ls.sum + 1 := by
      have h1 : q * ls.sum < (high - low) + ls.sum := by omega
      have h2 : ((q : Int) - 1) * ls.sum < high - low + 1 := by rw [Int.sub_mul]; omega
      have h3 : (q : Int) - 1 ≤ (high - low) / ls.sum := (Int.le_ediv_iff_mul_le hS).mpr (by omega)
      omega
    have hcap : ((q : Int) + 1) * ls.length ≤ 90000 := by
      have := Int.mul_le_mul_of_nonneg_right (show (q : Int) + 1 ≤ (high - low) / ls.sum + 2 by omega) (show (0 : Int) ≤ ls.length by omega)
      omega
    have hcap2 : q * ls.length + ls.length ≤ 90000 := by
      have : ((q * ls.length + ls.length : Nat) : Int) ≤ 90000 := by push_cast; rw [Int.add_mul] at hcap; omega
      omega
    refine ds_for ?_
    wtm_at "E"
    refine ⟨_, _, .lst _, fun p ρ μ' => ∃ (F : List Int) (y5 : Option D), ρ = [some (intsD ls), some (.int low), some (.int high), some (.int (day + preY ls p)), some (.own μ.length), y5] ∧ μ' = μ ++ [.lst (F.map D.int)] ∧ DaysOf (fun x => x < day + preY ls p ∧ bgn ls x) low high F ∧ F.length ≤ q * ls.length + p,
      ⟨F, y5, by rw [preY_zero, Int.add_zero], rfl, by rw [preY_zero, Int.add_zero]; exact hF, by omega⟩, fun _ _ _ _ _ => trivial, ?_, ?_⟩
    · rintro p z ρ μ' hz ⟨F, y5, rfl, rfl, hF, hFq⟩
      obtain ⟨dd, hdd, rfl⟩ := ints_get hz
      have hp : p < ls.length := (List.getElem?_eq_some_iff.mp hdd).1
      have hps := preY_succ hdd
      have hdd1 := (hg.each dd (List.mem_of_getElem? hdd)).1
      have key : ∀ x, low ≤ x → (x < day + preY ls (p + 1) ∧ bgn ls x ↔ x < day + preY ls p ∧ bgn ls x ∨ x = day + preY ls p) := fun x hx => by
        by_cases c : x < day + preY ls p
        · constructor
          · intro h; exact .inl ⟨c, h.2⟩
          · intro h
            rcases h with h | h
            · exact ⟨by omega, h.2⟩
            · omega
        · by_cases c2 : x < day + preY ls (p + 1)
          · have := bgn_at hg hdv hp (x := x) (by omega) c2
            rw [this]; omega
          · omega
      wtm_at "A"
      · rename_i hb1
        have hb2 : day + preY ls p < high := by
          first | (rename_i hb2; omega) | omega
        wtm_at "m"
        wtm_at "A"
        refine rm_app mu_last (by simp; omega) ?_
        rw [set_last]
        refine ds_aug (x := .int (day + preY ls p)) rfl ?_
        wtm_at "E"
        refine ⟨F ++ [day + preY ls p], some (.int dd), ?_, by simp, ⟨fun x => ?_, ?_⟩, by rw [List.length_append, List.length_singleton]; omega⟩
        · rw [hps, ← Int.add_assoc]; rfl
        · rw [List.mem_append, hF.mem, List.mem_singleton]
          constructor
          · rintro (⟨h1, h2, h3⟩ | h1)
            · exact ⟨h1, h2, (key x h1).mpr (.inl h3)⟩
            · subst h1; exact ⟨by omega, by omega, (key _ (by omega)).mpr (.inr rfl)⟩
          · rintro ⟨h1, h2, h3⟩
            rcases (key x h1).mp h3 with c | c
            · exact .inl ⟨h1, h2, c⟩
            · exact .inr c
        · rw [List.pairwise_append]
          refine ⟨hF.up, by simp, fun a ha b hb => ?_⟩
          obtain rfl := List.mem_singleton.mp hb
          exact ((hF.mem a).mp ha).2.2.1
      all_goals
        refine ds_aug (x := .int (day + preY ls p)) rfl ?_
        wtm_at "E"
        refine ⟨F, some (.int dd), ?_, rfl, ⟨fun x => ?_, hF.up⟩, by omega⟩
        · rw [hps, ← Int.add_assoc]; rfl
        · rw [hF.mem]
          constructor
          · rintro ⟨h1, h2, h3⟩
            exact ⟨h1, h2, (key x h1).mpr (.inl h3)⟩
          · rintro ⟨h1, h2, h3⟩
            rcases (key x h1).mp h3 with c | c
            · exact ⟨h1, h2, c⟩
            · omega
    · rintro ρ μ' ⟨F, y5, rfl, rfl, hF, hFq⟩
      rw [List.length_map, preY_all] at hF
      rw [List.length_map] at hFq
      rw [List.length_map, preY_all]
      refine ⟨(high - (day + ls.sum)).toNat, by omega, day + ls.sum, F, y5, q + 1, rfl, rfl, Int.dvd_add hdv (Int.dvd_refl _), hF, rfl, by push_cast; rw [Int.add_mul]; omega, by rw [Nat.add_mul]; omega, by push_cast; omega⟩
  · rename_i hb
    refine ds_freeze (i := 4) (k := μ.length) rfl mu_last ?_
    rw [set_last]
    wtm_at "A"
    refine ret_same (Nat.le_refl _) hm (by simp only [D.cl]; exact cl_ints _ _) (h F ⟨fun x => ?_, hF.up⟩ (by have : ((q * ls.length : Nat) : Int) ≤ 90000 := (by push_cast; have := Int.mul_le_mul_of_nonneg_right hqm (show (0 : Int) ≤ ls.length by omega); omega); omega))
    rw [hF.mem]
    constructor
    · rintro ⟨h1, h2, h3, h4⟩; exact ⟨h1, h2, h4⟩
    · rintro ⟨h1, h2, h3⟩; exact ⟨h1, h2, by omega, h3⟩
end
section
variable {K : PySem.W.Frag}
theorem d_law_first : ∀ ds μ P PX, c_law_first K ds μ P PX → MuCl μ μ.length → clL ds μ.length = true → ∀ B E, XAg K B (RetX μ.length PX) E → DS K B (t_law_first K E) (startD ["_law_lengths_here", "_law_year", "_law_turns", "_law_spot"] ds) μ (fnE μ.length P) := by
  intro ds μ P PX h hm hc B E hE
  obtain ⟨ls, y, rfl, hg, hy, h⟩ := h
  show DS K B _ [some (intsD ls), some (.int y), none, none] μ _
  have hpos := hg.pos; have hmost := hg.most; have hsp := hg.sum_pos; have hsl := hg.sum_le
  have h1 := Int.emod_nonneg y (b := (ls.length : Int)) (by omega)
  have h2 := Int.emod_lt_of_pos y (b := (ls.length : Int)) (by omega)
  unfold t_law_first
  wtm_at "A"
  rw [List.length_map]
  refine rc_divmod ⟨by omega, by omega⟩ ?_
  wtm_at "A"
  refine rc_sum (.lst _) ?_
  wtm_at "A"
  rw [cut_pre h1 (by omega)]
  refine rc_sum (.lst _) ?_
  wtm_at "A"
  wtm_at "r"
  exact h
theorem begins_in {ms : List Int} {later x : Int} {F : List Int} (hgm : GCal ms) (hF : DaysOf (bgn ms) 0 (0 + ms.sum) F) : (x - later) % ms.sum ∈ F ↔ bgn ms (x - later) := by
  have hT := hgm.sum_pos
  rw [hF.mem]
  have h0 := Int.emod_nonneg (x - later) (b := ms.sum) (by omega)
  have h1 := Int.emod_lt_of_pos (x - later) hT
  unfold bgn
  rw [Int.emod_emod_of_dvd _ (Int.dvd_refl _)]
  constructor
  · rintro ⟨_, _, h⟩; exact h
  · intro h; exact ⟨h0, by omega, h⟩
theorem take_of_lt {F : List Int} (hp : F.Pairwise (· < ·)) {i : Nat} {f x : Int} (hf : F[i]? = some f) (hx : x ∈ F) (hlt : x < f) : x ∈ F.take i := by
  obtain ⟨j, hj⟩ := List.getElem?_of_mem hx
  obtain ⟨hj1, hj2⟩ := List.getElem?_eq_some_iff.mp hj
  obtain ⟨hi1, hi2⟩ := List.getElem?_eq_some_iff.mp hf
  rw [List.pairwise_iff_getElem] at hp
  rcases Nat.lt_trichotomy j i with c | c | c
  · exact List.mem_iff_getElem?.mpr ⟨j, by rw [List.getElem?_take, if_pos c, hj]⟩
  · subst c; omega
  · have := hp i j hi1 hj1 c; omega
theorem d_law_due : ∀ ds μ P PX, c_law_due K ds μ P PX → MuCl μ μ.length → clL ds μ.length = true → ∀ B E, XAg K B (RetX μ.length PX) E → DS K B (t_law_due K E) (startD ["_law_one", "_law_other", "_law_later", "_law_low", "_law_high", "_law_begins_here", "_law_day"] ds) μ (fnE μ.length P) := by
  intro ds μ P PX h hm hc B E hE
  obtain ⟨ls, ms, later, low, high, rfl, hg, hgm, hl0, hw0, hlh, hwh, hcl, hmt, h⟩ := h
  show DS K B _ [some (intsD ls), some (intsD ms), some (.int later), some (.int low), some (.int high), none, none] μ _
  have hS := hg.sum_pos; have hS1 := hg.sum_le; have hT := hgm.sum_pos; have hT1 := hgm.sum_le
  have hn1 := hg.most; have hm1 := hgm.most
  have sl := sum_len fun x hx => (hg.each x hx).1
  have ml := sum_len fun x hx => (hgm.each x hx).1
  have few : ∀ {ls : List Int} {lo hi : Int}, GCal ls → lo ≤ hi → hi ≤ lo + 30000 → fewB ls lo hi := fun {ls lo hi} g h1 h2 => by
    unfold fewB
    have := div_len (a := hi - lo) (by omega) g.sum_pos (show (0 : Int) ≤ ls.length by omega) (sum_len fun x hx => (g.each x hx).1)
    have := g.most
    rw [Int.add_mul]
    omega
  unfold t_law_due
  wtm_at "A"
  refine rc_sum (.lst _) ?_
  wtm_at "A"
  refine ⟨ms, 0, ms.sum, rfl, hgm, by omega, by omega, by omega, few hgm (by omega) (by omega), fun F hF hFl => ?_⟩
  have hF0 : DaysOf (bgn ms) 0 (0 + ms.sum) F := by rw [Int.zero_add]; exact hF
  refine q_for ?_
  wtm_at "E"
  generalize hlw : max low later = lw at h
  refine ⟨ls, lw, high + 1, by rw [← hlw], hg, by omega, by omega, by omega, few hg (by omega) (by omega), fun F2 hF2 hF2l => ?_⟩
  refine ⟨_, _, .lst _, fun i ρ μ' => ∃ (y6 : Option D), ρ = [some (intsD ls), some (intsD ms), some (.int later), some (.int low), some (.int high), some (intsD F), y6] ∧ μ' = μ ∧ ∀ x ∈ F2.take i, ¬ MtP ls ms later x,
    ⟨none, rfl, rfl, by simp⟩, fun _ _ _ _ _ => trivial, ?_, ?_⟩
  · rintro i z ρ μ' hz ⟨y6, rfl, rfl, hno⟩
    obtain ⟨f, hf, rfl⟩ := ints_get hz
    have hfm := (hF2.mem f).mp (List.mem_of_getElem? hf)
    have hi : i < F2.length := (List.getElem?_eq_some_iff.mp hf).1
    wtm_at "A"
    refine rc_sum (.lst _) ?_
    wtm_at "A"
    refine ro_inI (.lst _) ?_
    have hiff := begins_in (x := f) (later := later) hgm hF0
    refine ⟨_, rfl, fun hb => ?_, fun hb => ?_⟩
    · have hb := hiff.mp (of_decide_eq_true hb)
      wtm_at "A"
      refine ret_same0 (Nat.le_refl _) hm rfl (h f ⟨hfm.1, ⟨hfm.2.2, hb⟩, fun x hx hxf hmx => ?_⟩)
      exact hno x (take_of_lt hF2.up hf ((hF2.mem x).mpr ⟨hx, by omega, hmx.1⟩) hxf) hmx
    · have hb : ¬ bgn ms (f - later) := fun q => (of_decide_eq_false hb) (hiff.mpr q)
      refine ⟨some (.int f), rfl, rfl, fun x hx => ?_⟩
      rw [List.take_add_one, hf] at hx
      rcases List.mem_append.mp hx with q | q
      · exact hno x q
      · obtain rfl : x = f := by simpa using q
        exact fun q => hb q.2
  · rintro ρ μ' ⟨y6, rfl, rfl, hno⟩
    rw [List.length_map, List.take_length] at hno
    exact absurd hmt (hno high ((hF2.mem high).mpr ⟨by omega, by omega, hmt.1⟩))
end
section
variable {K : PySem.W.Frag}
theorem sum_most : ∀ {ls : List Int} {m : Int}, (∀ x ∈ ls, x ≤ m) → ls.sum ≤ m * (ls.length : Int)
  | [], _, _ => by simp
  | x :: r, m, h => by
    have := sum_most (ls := r) fun y hy => h y (List.mem_cons_of_mem _ hy)
    have := h x (by simp)
    simp only [List.sum_cons, List.length_cons]
    push_cast
    rw [Int.mul_add]
    omega
theorem shp_ints16 (ns : List Int) : shpL (ns.map D.int) 1 = true := shpL_map fun x _ => by simp [D.shp]
theorem d_law_wide_right : ∀ ds μ P PX, c_law_wide_right K ds μ P PX → MuCl μ μ.length → clL ds μ.length = true → ∀ B E, XAg K B (RetX μ.length PX) E → DS K B (t_law_wide_right K E) (startD ["_law_one", "_law_other", "_law_later", "_law_day", "_law_low", "_law_begins_here", "_law_number", "_law_days", "_law_found"] ds) μ (fnE μ.length P) := by
  intro ds μ P PX h hm hc B E hE
  obtain ⟨ls, ms, later, day, rfl, hg, hgm, hln, hmn, hl0, hd0, h⟩ := h
  show DS K B _ [some (intsD ls), some (intsD ms), some (.int later), some (.int day), none, none, none, none, none] μ _
  have hS8 : ls.sum ≤ 800 := by
    have := sum_most (ls := ls) (m := 400) fun x hx => (hg.each x hx).2
    omega
  have hT8 : ms.sum ≤ 800 := by
    have := sum_most (ls := ms) (m := 400) fun x hx => (hgm.each x hx).2
    omega
  have hsm : ls.sum * ms.sum ≤ 640000 := by
    have h1 := Int.mul_le_mul_of_nonneg_right hS8 (show 0 ≤ ms.sum by have := hgm.sum_pos; omega)
    omega
  have few1 : ∀ lo, fewB ls lo (lo + ls.sum * ms.sum) := fun lo => by
    unfold fewB
    have hS := hg.sum_pos
    rw [show lo + ls.sum * ms.sum - lo = ls.sum * ms.sum by omega, Int.mul_ediv_cancel_left _ (by omega)]
    have := Int.mul_le_mul (show ms.sum + 2 ≤ 802 by omega) (show (ls.length : Int) ≤ 2 by omega) (by omega) (by omega)
    omega
  have few2 : ∀ lo, fewB ms lo (lo + ls.sum * ms.sum) := fun lo => by
    unfold fewB
    have hT := hgm.sum_pos
    rw [show lo + ls.sum * ms.sum - lo = ls.sum * ms.sum by omega, Int.mul_ediv_cancel _ (by omega)]
    have := Int.mul_le_mul (show ls.sum + 2 ≤ 802 by omega) (show (ms.length : Int) ≤ 2 by omega) (by omega) (by omega)
    omega
  have hS := hg.sum_pos; have hS1 := hg.sum_le; have hT := hgm.sum_pos; have hT1 := hgm.sum_le
  have hL := Int.mul_pos hS hT
  unfold t_law_wide_right
  wtm_at "A"
  refine de_dnew ?_
  generalize hlow : max day later = low at h ⊢
  have hLL : ls.sum * ms.sum = ls.sum * ms.sum := rfl
  wtm_at "A"
  refine q_for ?_
  wtm_at "E"
  refine rc_sum (.lst _) ?_
  wtm_at "E"
  refine rc_sum (.lst _) ?_
  wtm_at "E"
  refine ⟨ms, low - later, low - later + ls.sum * ms.sum, rfl, hgm, by omega, by omega, by omega, few2 _, fun F hF hFl => ?_⟩
  refine ⟨_, _, .lst _, fun i ρ μ' => ∃ (gs : List (Key × D)) (y7 : Option D), ρ = [some (intsD ls), some (intsD ms), some (.int later), some (.int day), some (.int low), some (.own μ.length), y7, none, none] ∧ μ' = μ ++ [.dK gs] ∧ gs.length ≤ i ∧ (∀ x, (valD gs (.inl x)).isSome = true ↔ ∃ f ∈ F.take i, x = later + f) ∧ clK gs μ.length = true,
    ⟨[], none, rfl, rfl, by simp, fun x => by simp [valD], rfl⟩, fun _ _ _ _ _ => trivial, ?_, ?_⟩
  · rintro i z ρ μ' hz ⟨gs, y7, rfl, rfl, hgl, hgv, hcl⟩
    obtain ⟨f, hf, rfl⟩ := ints_get hz
    have hi : i < F.length := (List.getElem?_eq_some_iff.mp hf).1
    wtm_at "E"
    refine ds_dput ?_
    wtm_at "E"
    refine dpp_i mu_last (by omega) ?_
    rw [set_last]
    refine ⟨putKD gs (.inl (later + f)) (.bl true), _, rfl, rfl, Nat.le_trans (putKD_len ..) (by omega), fun x => ?_, ?_⟩
    · rw [valD_put, List.take_add_one, hf]
      by_cases e : x = later + f
      · subst e; simp
      · rw [if_neg (by simpa using e), hgv]
        simp only [List.mem_append, Option.toList_some, List.mem_singleton]
        constructor
        · rintro ⟨g, hg, e2⟩; exact ⟨g, .inl hg, e2⟩
        · rintro ⟨g, hg | hg, e2⟩
          · exact ⟨g, hg, e2⟩
          · subst hg; exact absurd e2 e
    · unfold putKD
      split
      · have : ∀ gs : List (Key × D), clK gs μ.length = true → clK (gs.map fun kv => if kv.1 = (Sum.inl (later + f) : Key) then (kv.1, D.bl true) else kv) μ.length = true := by
          intro gs
          induction gs with
          | nil => intro _; rfl
          | cons a r ih =>
            intro hc
            obtain ⟨a1, a2⟩ := a
            simp only [clK, Bool.and_eq_true] at hc
            simp only [List.map_cons]
            split
            · simp only [clK, D.cl, Bool.true_and]; exact ih hc.2
            · simp only [clK, Bool.and_eq_true]; exact ⟨hc.1, ih hc.2⟩
        exact this gs hcl
      · have : ∀ gs : List (Key × D), clK gs μ.length = true → clK (gs ++ [((Sum.inl (later + f) : Key), D.bl true)]) μ.length = true := by
          intro gs
          induction gs with
          | nil => intro _; rfl
          | cons a r ih =>
            intro hc
            obtain ⟨a1, a2⟩ := a
            simp only [clK, Bool.and_eq_true] at hc
            simp only [List.cons_append, clK, Bool.and_eq_true]
            exact ⟨hc.1, ih hc.2⟩
        exact this gs hcl
  · rintro ρ μ' ⟨gs, y7, rfl, rfl, hgl, hgv, hcl⟩
    rw [List.length_map, List.take_length] at hgv
    refine q_set ?_
    refine lc_filt (fun z => match z with | .int x => (valD gs (.inl x)).isSome | _ => false) id (gw_name (by simp)) ?_
    wtm_at "E"
    refine rc_sum (.lst _) ?_
    wtm_at "E"
    refine rc_sum (.lst _) ?_
    wtm_at "E"
    refine ⟨ls, low, low + ls.sum * ms.sum, rfl, hg, by omega, by omega, by omega, few1 _, fun F2 hF2 hF2l => ?_⟩
    refine ⟨_, _, .lst _, trivial, by simp; omega, fun i z hz => ?_, fun out ho => ?_⟩
    · obtain ⟨x, hx, rfl⟩ := ints_get hz
      refine dg_name ⟨rfl, ?_⟩
      refine dt_B ?_
      refine de_din ?_
      wtm_at "E"
      refine dip_i (.own mu_last) ?_
      refine ⟨_, rfl, rfl, rfl, fun _ => ?_⟩
      wtm_at "E"
      exact ⟨rfl, rfl⟩
    · have ho' : out = (F2.filter fun x => (valD gs (.inl x)).isSome).map D.int := by
        rw [← ho, List.map_id, List.filter_map]
        rfl
      rw [ho']
      have hG : DaysOf (MtP ls ms later) low (low + ls.sum * ms.sum) (F2.filter fun x => (valD gs (.inl x)).isSome) := ⟨fun x => by
        rw [List.mem_filter, hF2.mem, hgv]
        constructor
        · rintro ⟨⟨h1, h2, h3⟩, f, hf, rfl⟩
          exact ⟨h1, h2, h3, by rw [show later + f - later = f by omega]; exact ((hF.mem f).mp hf).2.2⟩
        · rintro ⟨h1, h2, h3, h4⟩
          exact ⟨⟨h1, h2, h3⟩, x - later, (hF.mem _).mpr ⟨by omega, by omega, h4⟩, by omega⟩, hF2.up.filter _⟩
      have hM := days_meet hg hgm hG
      generalize (F2.filter fun x => (valD gs (.inl x)).isSome) = G at hM
      refine q_set (de_call hE ?_)
      refine da_cons (de_cal hE ?_)
      wtm_at "E"
      refine ⟨_, ls, rfl, .id _, hg, ?_⟩
      refine da_cons (de_cal hE ?_)
      wtm_at "E"
      refine ⟨_, ms, rfl, .id _, hgm, ?_⟩
      wtm_at "E"
      refine ⟨ls, ms, later, day, rfl, hg, hgm, fun _ _ r hr => ?_, fun q => by omega⟩
      rw [hlow] at hr
      obtain rfl := hr.uniq hM
      have fin := ret_same (n := μ.length) (ext := [MO.dK gs]) (Nat.le_refl _) hm (d := .bl true) rfl h
      refine ds_ret ?_
      cases G with
      | nil =>
        rw [show optD (([] : List Int).head?) = .non from rfl]
        refine de_if (dt_test (de_op ?_))
        wtm_at "E"
        refine de_lstZ ?_
        wtm_at "E"
        refine ro_eqNil (n := 0) (.id _) rfl ?_
        wtm_at "E"
        exact fin
      | cons a F =>
        refine de_if (dt_test (de_op ?_))
        wtm_at "E"
        refine de_lstZ ?_
        wtm_at "E"
        refine ro_eqNil (n := 1) (.id _) (shp_ints16 (a :: F)) ?_
        wtm_at "E"
        refine ro_ixL (.lst _) (at_map (f := D.int) (xs := a :: F) (j := 0) rfl rfl) ?_
        wtm_at "E"
        exact ⟨a, rfl, fin⟩
end
section
variable {K : PySem.W.Frag}
theorem first_bgn {ls : List Int} (hg : GCal ls) {y : Int} : bgn ls (firstY ls y) ∧ y / ls.length * ls.sum ≤ firstY ls y ∧ firstY ls y < (y / ls.length + 1) * ls.sum := by
  have hn := hg.pos
  have h0 := Int.emod_nonneg y (b := (ls.length : Int)) (by omega)
  have h1 := Int.emod_lt_of_pos y (show (0 : Int) < ls.length by omega)
  have hb := preY_bd hg (i := (y % ls.length).toNat) (by omega)
  unfold firstY
  refine ⟨⟨(y % ls.length).toNat, by omega, ?_⟩, by omega, by rw [Int.add_mul]; omega⟩
  rw [Int.add_comm, Int.add_mul_emod_self_right, Int.emod_eq_of_lt hb.1 hb.2]
theorem first_up {ls : List Int} (hg : GCal ls) {y : Int} (hy : 0 ≤ y) : ∀ n : Nat, firstY ls y ≤ firstY ls (y + n) ∧ firstY ls (y + n) ≤ firstY ls y + 400 * n
  | 0 => by simp
  | n + 1 => by
    have ih := first_up hg hy n
    have e1 := firstY_succ hg (y := y + n) (by omega)
    have e2 := longY_bd hg (y := y + n) (by omega)
    have : y + ((n + 1 : Nat) : Int) = y + n + 1 := by push_cast; omega
    rw [this]
    omega
/-- the other one begins no later -/
theorem first_le {ms : List Int} (hg : GCal ms) {f y : Int} (h0 : 0 ≤ y) (hf : 0 ≤ f) (h : y ≤ f / ms.sum * ms.length) : firstY ms y ≤ f := by
  have hS := hg.sum_pos
  obtain ⟨n, hn⟩ : ∃ n : Nat, f / ms.sum * ms.length = y + n := ⟨(f / ms.sum * ms.length - y).toNat, by omega⟩
  have h1 := (first_up hg h0 n).1
  rw [← hn, show f / ms.sum * (ms.length : Int) = f / ms.sum * ms.length + ((0 : Nat) : Int) by omega, firstY_at hg.pos, preY_zero, Int.add_zero] at h1
  have := Int.ediv_mul_le f (Int.ne_of_gt hS)
  omega
theorem d_law_round_right : ∀ ds μ P PX, c_law_round_right K ds μ P PX → MuCl μ μ.length → clL ds μ.length = true → ∀ B E, XAg K B (RetX μ.length PX) E → DS K B (t_law_round_right K E) (startD ["_law_one", "_law_other", "_law_hold", "_law_year", "_law_high", "_law_number", "_law_later", "_law_low", "_law_first_here", "_law_second", "_law_due_here", "_law_again"] ds) μ (fnE μ.length P) := by
  intro ds μ P PX h hm hc B E hE
  obtain ⟨k, k2, c, cs, ls, ms, rfl, hd0, hcb, hg, hgm, h⟩ := h
  show DS K B _ [some (intsD ls), some (intsD ms), some (.own k), none, none, none, none, none, none, none, none, none] μ _
  have hc0 := hd0.c0
  have hS := hg.sum_pos; have hS1 := hg.sum_le; have hT := hgm.sum_pos; have hT1 := hgm.sum_le
  have hn1 := hg.most; have hm1 := hgm.most; have hn0 := hg.pos; have hm0 := hgm.pos
  have hh : ∀ c1 ns1 c2 ns2, hold (hold μ k k2 c1 ns1) k k2 c2 ns2 = hold μ k k2 c2 ns2 := fun _ _ _ _ => hold_hold hd0.ne
  unfold t_law_round_right
  wtm_at "A"
  refine ⟨k, k2, c, cs, rfl, hd0, by omega, fun y c1 cs1 y0 y1 hc1 hc1' n1 => ?_⟩
  wtm_at "A"
  refine ⟨ls, y, rfl, hg, y0, ?_⟩
  have hfn := firstY_nn hg y0
  have hfb := first_bgn hg (y := y)
  wtm_at "A"
  refine ⟨k, k2, c1, cs1, rfl, hd0.hold (by omega) n1, by omega, fun o c2 cs2 o0 o1 hc2 hc2' n2 => ?_⟩
  rw [hh]
  wtm_at "A"
  refine rc_sum (.lst _) ?_
  wtm_at "A"
  have hfy : firstY ls y ≤ 400 * y := by
    have := (first_up hg (y := 0) (by omega) y.toNat).2
    rw [show (0 : Int) + (y.toNat : Int) = y by omega, show firstY ls 0 = firstY ls (0 * ls.length + ((0 : Nat) : Int)) by simp, firstY_at hn0, preY_zero] at this
    omega
  have hq0 := Int.ediv_nonneg hfn (show 0 ≤ ms.sum by omega)
  have hq1 := Int.ediv_le_self ms.sum hfn
  have hql : 0 ≤ firstY ls y / ms.sum * ms.length := Int.mul_nonneg hq0 (by omega)
  refine ro_fdiv (by omega) (log2S (by omega) (by omega)) ?_
  wtm_at "A"
  rw [List.length_map]
  have hqb : firstY ls y / ms.sum * (ms.length : Int) ≤ firstY ls y := div_len hfn hT (by omega) (sum_len fun x hx => (hgm.each x hx).1)
  generalize hQ : firstY ls y / ms.sum = Q at hq0 hq1 hql hqb
  wtm_at "A"
  have ho0 := Int.emod_nonneg o (b := Q * (ms.length : Int) + 1) (by omega)
  have ho1 := Int.emod_lt_of_pos o (b := Q * (ms.length : Int) + 1) (by omega)
  have hle : firstY ms (o % (Q * (ms.length : Int) + 1)) ≤ firstY ls y := first_le hgm ho0 hfn (by rw [hQ]; omega)
  have hlb := first_bgn hgm (y := o % (Q * (ms.length : Int) + 1))
  have hln := firstY_nn hgm ho0
  refine ⟨ms, _, rfl, hgm, ho0, ?_⟩
  generalize firstY ms (o % (Q * (ms.length : Int) + 1)) = fm at hle hlb hln
  wtm_at "A"
  refine ⟨k, k2, c2, cs2, 31, rfl, hd0.hold (by omega) (by omega), by omega, by decide, by decide, fun d cs3 d0 d1 n3 => ?_⟩
  rw [hh]
  wtm_at "A"
  refine ⟨ls, _, rfl, hg, by omega, ?_⟩
  have hlow : firstY ls (max 0 (y - d)) ≤ firstY ls y ∧ firstY ls y ≤ firstY ls (max 0 (y - d)) + 12000 := by
    obtain ⟨n, hn⟩ : ∃ n : Nat, y = max 0 (y - d) + n := ⟨(y - max 0 (y - d)).toNat, by omega⟩
    have := first_up hg (y := max 0 (y - d)) (by omega) n
    rw [← hn] at this
    omega
  have hlow0 := firstY_nn hg (y := max 0 (y - d)) (by omega)
  generalize firstY ls (max 0 (y - d)) = fl at hlow hlow0
  wtm_at "A"
  refine ⟨k, k2, _, cs3, 400, rfl, hd0.hold (by omega) (by omega), by omega, by decide, by decide, fun e cs4 e0 e1 n4 => ?_⟩
  rw [hh]
  wtm_at "A"
  have hmt : MtP ls ms (firstY ls y - fm) (firstY ls y) := ⟨hfb.1, by rw [show firstY ls y - (firstY ls y - fm) = fm by omega]; exact hlb.1⟩
  refine de_cal hE ?_
  wtm_at "E"
  refine ⟨_, ls, rfl, .id _, hg, ?_⟩
  refine da_cons (de_cal hE ?_)
  wtm_at "E"
  refine ⟨_, ms, rfl, .id _, hgm, ?_⟩
  wtm_at "A"
  refine ⟨ls, ms, firstY ls y - fm, max 0 (fl - e), firstY ls y, rfl, hg, hgm, by omega, by omega, by omega, by omega, by omega, hmt, fun m hM => ?_⟩
  wtm_at "A"
  refine ⟨ls, ms, firstY ls y - fm, max 0 (fl - e), rfl, hg, hgm, fun _ _ r hr => ?_, fun q => by omega⟩
  obtain rfl := hr.uniq hM
  wtm_at "A"
  refine ⟨m, rfl, ?_⟩
  wtm_at "A"
  have hST := Int.mul_pos hS hT
  have hST1 : ls.sum * ms.sum ≤ 64000000 := by
    have := Int.mul_le_mul hS1 hT1 (by omega) (by omega)
    omega
  refine rc_sum (.lst _) ?_
  wtm_at "A"
  refine rc_sum (.lst _) ?_
  wtm_at "A"
  refine ⟨k, k2, _, cs4, rfl, hd0.hold (by omega) (by omega), by omega, fun z c5 cs5 z0 z1 hc5 hc5' n5 => ?_⟩
  rw [hh]
  have hfar0 : 0 ≤ ls.sum * ms.sum * z := Int.mul_nonneg (by omega) z0
  wtm_at "A"
  refine ⟨ls, ms, firstY ls y - fm, firstY ls y + ls.sum * ms.sum * z, rfl, hg, hgm, fun _ _ r hr => ?_, fun q => by omega⟩
  have hM2 : MeetS ls ms (firstY ls y - fm) (max (firstY ls y + ls.sum * ms.sum * z) (firstY ls y - fm)) (some (firstY ls y + ls.sum * ms.sum * z)) :=
    ⟨by omega, hmt.per (L := ls.sum * ms.sum) (Int.dvd_mul_right ..) (Int.dvd_mul_left ..) ⟨z, by omega⟩, fun x h1 h2 => by omega⟩
  obtain rfl := hr.uniq hM2
  wtm_at "A"
  refine ⟨_, rfl, ?_⟩
  exact ret_same0 (by rw [hold_len]; exact Nat.le_refl _) (hd0.cl hm) rfl (h c5 cs5 (by omega) (by omega) (by omega))
end
section
variable {K : PySem.W.Frag}
theorem meets_none {ls ms : List Int} {t later low : Int} (h1 : t ∣ ls.sum) (h2 : t ∣ ms.sum) (h3 : ∀ i, i < ls.length → t ∣ preY ls i) (h4 : ∀ i, i < ms.length → t ∣ preY ms i) (h5 : ¬ t ∣ later) : MeetS ls ms later low none := by
  rintro x _ ⟨⟨i, hi, ei⟩, ⟨j, hj, ej⟩⟩
  have a : t ∣ x := by
    have := Int.dvd_add (Int.dvd_trans h1 (Int.dvd_mul_left (x / ls.sum) ls.sum)) (h3 i hi)
    rw [← ei, Int.ediv_mul_add_emod] at this
    exact this
  have b : t ∣ x - later := by
    have := Int.dvd_add (Int.dvd_trans h2 (Int.dvd_mul_left ((x - later) / ms.sum) ms.sum)) (h4 j hj)
    rw [← ej, Int.ediv_mul_add_emod] at this
    exact this
  have := Int.dvd_sub a b
  rw [show x - (x - later) = later by omega] at this
  exact h5 this
theorem dvd_sums {t : Int} : ∀ {ls : List Int}, (∀ x ∈ ls, t ∣ x) → t ∣ ls.sum
  | [], _ => by simp
  | a :: r, h => by
    rw [List.sum_cons]
    exact Int.dvd_add (h a (by simp)) (dvd_sums fun x hx => h x (List.mem_cons_of_mem _ hx))
theorem dvd_pre {t : Int} {ls : List Int} (h : ∀ x ∈ ls, t ∣ x) (i : Nat) : t ∣ preY ls i := by
  unfold preY
  exact dvd_sums fun x hx => h x (List.mem_of_mem_take hx)
/-- the one year of the way that can begin with the lone one -/
theorem lone_iff {t n later : Int} {ws : List Int} {off to : Int} (w : OneW t ws off to) (hn : t ∣ n) (hl : t ∣ later + off) {x : Int} : MtP [n] ws later x ↔ n ∣ x ∧ (x - later) % ws.sum = to := by
  have ht : 0 < t := by have := w.off0; have := w.off1; omega
  obtain ⟨p, hp, rfl, hz, ho⟩ := w.at_
  have e1 : bgn [n] x ↔ n ∣ x := by
    unfold bgn
    rw [show ([n] : List Int).sum = n by simp]
    constructor
    · rintro ⟨i, hi, e⟩
      have : i = 0 := by simpa using hi
      subst this
      rw [preY_zero] at e
      exact Int.dvd_of_emod_eq_zero e
    · intro h
      exact ⟨0, by simp, by rw [preY_zero]; exact Int.emod_eq_zero_of_dvd h⟩
  unfold MtP
  rw [e1]
  constructor
  · rintro ⟨a, ⟨j, hj, ej⟩⟩
    refine ⟨a, ?_⟩
    by_cases c : j = p
    · subst c; exact ej
    · exfalso
      have d1 : t ∣ x - later := by
        have := Int.dvd_add (Int.dvd_trans w.all (Int.dvd_mul_left ((x - later) / ws.sum) ws.sum)) (hz j hj c)
        rw [← ej, Int.ediv_mul_add_emod] at this
        exact this
      have d2 := Int.dvd_sub (Int.dvd_trans hn a) d1
      rw [show x - (x - later) = later by omega] at d2
      have d3 := Int.dvd_sub hl d2
      rw [show later + off - later = off by omega] at d3
      have := Int.le_of_dvd w.off0 d3
      have := w.off1
      omega
  · rintro ⟨a, e⟩
    exact ⟨a, p, hp, e⟩
end
section
variable {K : PySem.W.Frag}
/-- the first day from low on that leaves what a leaves -/
theorem next_same {W a low : Int} (hW : 0 < W) (h : a < low) : low ≤ a + (low - a + W - 1) / W * W ∧ a + (low - a + W - 1) / W * W < low + W := by
  have h1 := Int.ediv_mul_add_emod (low - a + W - 1) W
  have h2 := Int.emod_nonneg (low - a + W - 1) (b := W) (by omega)
  have h3 := Int.emod_lt_of_pos (low - a + W - 1) hW
  omega
/-- of the days a, a + W, .. the first n ones tell whether one of them is of whole times n -/
theorem lone_meets {t n later low a : Int} {ws : List Int} {off to : Int} (w : OneW t ws off to) (hn : t ∣ n) (hn0 : 0 < n) (hl : t ∣ later + off) (ha : (a - later) % ws.sum = to) (h0 : low ≤ a) (h1 : a < low + ws.sum) {F : List Int}
    (hF : F = ((List.range n.toNat).map fun k : Nat => a + (k : Int) * ws.sum).filter fun x => decide (x % n = 0)) : MeetS [n] ws later low F.head? := by
  have hS := w.g.sum_pos
  have form : ∀ x, low ≤ x → MtP [n] ws later x → ∃ k : Nat, x = a + k * ws.sum ∧ n ∣ x := fun x hx hm => by
    obtain ⟨d, e⟩ := (lone_iff w hn hl).mp hm
    have : (x - a) % ws.sum = 0 := by
      have : (x - later - (a - later)) % ws.sum = 0 := Int.emod_eq_zero_of_dvd (Int.dvd_of_emod_eq_zero (by rw [Int.sub_emod, e, ha, Int.sub_self]; rfl))
      rwa [show x - later - (a - later) = x - a by omega] at this
    obtain ⟨q, hq⟩ := Int.dvd_of_emod_eq_zero this
    have hq0 : 0 ≤ q := by
      apply Classical.byContradiction
      intro hc
      have : ws.sum * q ≤ ws.sum * (-1) := Int.mul_le_mul_of_nonneg_left (by omega) (by omega)
      omega
    exact ⟨q.toNat, by rw [show ((q.toNat : Nat) : Int) = q by omega, Int.mul_comm]; omega, d⟩
  have hmem : ∀ x, x ∈ F ↔ ∃ k : Nat, (k : Int) < n ∧ x = a + k * ws.sum ∧ n ∣ x := fun x => by
    rw [hF, List.mem_filter, List.mem_map]
    constructor
    · rintro ⟨⟨k, hk, rfl⟩, h⟩
      rw [List.mem_range] at hk
      exact ⟨k, by omega, rfl, Int.dvd_of_emod_eq_zero (of_decide_eq_true h)⟩
    · rintro ⟨k, hk, rfl, h⟩
      exact ⟨⟨k, List.mem_range.mpr (by omega), rfl⟩, decide_eq_true (Int.emod_eq_zero_of_dvd h)⟩
  have hup : F.Pairwise (· < ·) := by
    rw [hF]
    refine List.Pairwise.filter _ ?_
    rw [List.pairwise_map]
    refine List.Pairwise.imp ?_ List.pairwise_lt_range
    intro i j hij
    have : (i : Int) * ws.sum < j * ws.sum := Int.mul_lt_mul_of_pos_right (by omega) hS
    omega
  cases F with
  | nil =>
    intro x hx hm
    obtain ⟨k, rfl, d⟩ := form x hx hm
    have hk0 := Int.emod_nonneg (k : Int) (b := n) (by omega)
    have hk1 := Int.emod_lt_of_pos (k : Int) hn0
    have := (hmem (a + (((k : Int) % n).toNat : Int) * ws.sum)).mpr ⟨((k : Int) % n).toNat, by omega, rfl, by
      rw [show ((((k : Int) % n).toNat : Nat) : Int) = (k : Int) % n by omega]
      have e := Int.ediv_mul_add_emod (k : Int) n
      have : n ∣ (k : Int) / n * n * ws.sum := Int.dvd_trans (Int.dvd_mul_left ((k : Int) / n) n) (Int.dvd_mul_right ..)
      have d2 := Int.dvd_sub d this
      have : a + (k : Int) * ws.sum - (k : Int) / n * n * ws.sum = a + (k : Int) % n * ws.sum := by
        have : (k : Int) * ws.sum = (k : Int) / n * n * ws.sum + (k : Int) % n * ws.sum := by rw [← Int.add_mul, e]
        omega
      rwa [this] at d2⟩
    cases this
  | cons m F =>
    obtain ⟨k0, hk0, rfl, d0⟩ := (hmem _).mp (List.mem_cons_self ..)
    have hk0S : 0 ≤ (k0 : Int) * ws.sum := Int.mul_nonneg (by omega) (by omega)
    refine ⟨by omega, (lone_iff w hn hl).mpr ⟨d0, ?_⟩, fun x hx hlt hm => ?_⟩
    · rw [show a + (k0 : Int) * ws.sum - later = a - later + k0 * ws.sum by omega, Int.add_mul_emod_self_right, ha]
    · obtain ⟨k, rfl, d⟩ := form x hx hm
      have hkk : (k : Int) < k0 := by
        apply Classical.byContradiction
        intro hc
        have := Int.mul_le_mul_of_nonneg_right (show (k0 : Int) ≤ k by omega) (show 0 ≤ ws.sum by omega)
        omega
      have := (hmem _).mpr ⟨k, by omega, rfl, d⟩
      rcases List.mem_cons.mp this with q | q
      · omega
      · have := (List.pairwise_cons.mp hup).1 _ q
        omega
end
section
variable {K : PySem.W.Frag}
theorem pre_set {x : Int} : ∀ {l : List Int} {j : Nat} {v : Int}, l[j]? = some v → ∀ i, preY (l.set j (v + x)) i = preY l i + (if j < i then x else 0)
  | [], j, v, h, i => by simp at h
  | a :: r, 0, v, h, 0 => by simp [preY]
  | a :: r, 0, v, h, i + 1 => by
    obtain rfl : a = v := by simpa using h
    simp [preY]
    omega
  | a :: r, j + 1, v, h, 0 => by simp [preY]
  | a :: r, j + 1, v, h, i + 1 => by
    have ih := pre_set (x := x) (l := r) (j := j) (v := v) (by simpa using h) i
    unfold preY at ih ⊢
    simp only [List.set_cons_succ, List.take_succ_cons, List.sum_cons]
    rw [ih]
    have : (j + 1 < i + 1) ↔ j < i := by omega
    simp only [this]
    omega
/-- a way of whole times, one of its years begun in between -/
theorem one_way {t : Int} {ys : List Int} {p : Nat} {u v off : Int} (ht : 2 ≤ t) (hy : ∀ x ∈ ys, t ∣ x ∧ 1 ≤ x ∧ x + t ≤ 400) (hl : ys.length ≤ 20) (hp : p + 1 < ys.length) (hu : ys[p]? = some u) (hv : ys[p + 1]? = some v) (o0 : 0 < off) (o1 : off < t) :
    OneW t ((ys.set p (u + off)).set (p + 1) (v + (t - off))) off (preY ((ys.set p (u + off)).set (p + 1) (v + (t - off))) (p + 1)) := by
  have hv' : (ys.set p (u + off))[p + 1]? = some v := by rw [List.getElem?_set_ne (by omega)]; exact hv
  have pre : ∀ i, preY ((ys.set p (u + off)).set (p + 1) (v + (t - off))) i = preY ys i + (if p < i then off else 0) + (if p + 1 < i then t - off else 0) := fun i => by
    rw [pre_set hv', pre_set hu]
  have dv : ∀ i, t ∣ preY ys i := dvd_pre fun x hx => (hy x hx).1
  have hu1 := hy u (List.mem_of_getElem? hu)
  have hv1 := hy v (List.mem_of_getElem? hv)
  refine ⟨⟨by simp; omega, by simpa using hl, fun x hx => ?_⟩, o0, o1, ?_, p + 1, by simpa using hp, rfl, fun i hi hne => ?_, ?_⟩
  · rcases List.mem_or_eq_of_mem_set hx with q | rfl
    · rcases List.mem_or_eq_of_mem_set q with q | rfl
      · have := hy x q; omega
      · omega
    · omega
  · have e := pre ys.length
    rw [if_pos (by omega), if_pos (by omega)] at e
    have e2 : preY ((ys.set p (u + off)).set (p + 1) (v + (t - off))) ys.length = ((ys.set p (u + off)).set (p + 1) (v + (t - off))).sum := by
      have := preY_all (ls := (ys.set p (u + off)).set (p + 1) (v + (t - off)))
      simpa using this
    rw [← e2, e, show preY ys ys.length + off + (t - off) = preY ys ys.length + t by omega]
    exact Int.dvd_add (dv _) (Int.dvd_refl _)
  · rw [pre]
    by_cases c : p + 1 < i
    · rw [if_pos (by omega), if_pos c, show preY ys i + off + (t - off) = preY ys i + t by omega]
      exact Int.dvd_add (dv _) (Int.dvd_refl _)
    · rw [if_neg (by omega), if_neg c, Int.add_zero, Int.add_zero]
      exact dv _
  · rw [pre, if_pos (by omega), if_neg (by omega), Int.add_zero, Int.add_sub_cancel]
    exact dv _
end
section
variable {K : PySem.W.Frag}
theorem d_law_one_way : ∀ ds μ P PX, c_law_one_way K ds μ P PX → MuCl μ μ.length → clL ds μ.length = true → ∀ B E, XAg K B (RetX μ.length PX) E → DS K B (t_law_one_way K E) (startD ["_law_hold", "_law_times", "_law_most", "_law_many", "_law_less", "_law_lengths_here", "_law_k", "_law_spot", "_law_more"] ds) μ (fnE μ.length P) := by
  intro ds μ P PX h hm hc B E hE
  obtain ⟨k, k2, c, cs, t, rfl, hd0, hcb, t0, t1, h⟩ := h
  show DS K B _ [some (.own k), some (.int t), none, none, none, none, none, none, none] μ _
  have hc0 := hd0.c0
  have hh : ∀ c1 ns1 c2 ns2, hold (hold μ k k2 c1 ns1) k k2 c2 ns2 = hold μ k k2 c2 ns2 := fun _ _ _ _ => hold_hold hd0.ne
  have hq := Int.ediv_mul_add_emod 400 t
  have hq0 := Int.emod_nonneg 400 (b := t) (by omega)
  have hq1 := Int.emod_lt_of_pos 400 (b := t) (by omega)
  have hT : 50 ≤ 400 / t ∧ 400 / t ≤ 200 := by
    have : t = 2 ∨ t = 3 ∨ t = 4 ∨ t = 5 ∨ t = 6 ∨ t = 7 ∨ t = 8 := by omega
    rcases this with rfl | rfl | rfl | rfl | rfl | rfl | rfl <;> decide
  unfold t_law_one_way
  wtm_at "A"
  refine ro_fdiv (by omega) (log2S (by omega) (by omega)) ?_
  generalize 400 / t = M at hq hT
  wtm_at "A"
  refine de_lstZ ?_
  wtm_at "A"
  refine ⟨k, k2, c, cs, 19, rfl, hd0, by omega, by decide, by decide, fun a c1s a0 a1 n1 => ?_⟩
  wtm_at "A"
  refine ⟨k, k2, _, c1s, 3, rfl, hd0.hold (by omega) n1, by omega, by decide, by decide, fun b c2s b0 b1 n2 => ?_⟩
  rw [hh]
  obtain ⟨many, hmany, m0, m1⟩ : ∃ many : Int, atI [D.int 2, .int 20, .int (2 + a)] b = some (.int many) ∧ 2 ≤ many ∧ many ≤ 20 := by
    have : b = 0 ∨ b = 1 ∨ b = 2 := by omega
    rcases this with rfl | rfl | rfl
    · exact ⟨_, rfl, by omega, by omega⟩
    · exact ⟨_, rfl, by omega, by omega⟩
    · exact ⟨_, rfl, by omega, by omega⟩
  refine ro_ixL (.lst _) hmany ?_
  wtm_at "A"
  refine de_lstZ ?_
  wtm_at "A"
  refine ⟨k, k2, _, c2s, 3, rfl, hd0.hold (by omega) (by omega), by omega, by decide, by decide, fun b2 c3s b20 b21 n3 => ?_⟩
  rw [hh]
  obtain ⟨less, hless, l0, l1⟩ : ∃ less : Int, atI [D.int 2, .int 5, .int (M - 1)] b2 = some (.int less) ∧ 2 ≤ less ∧ less ≤ M - 1 := by
    have : b2 = 0 ∨ b2 = 1 ∨ b2 = 2 := by omega
    rcases this with rfl | rfl | rfl
    · exact ⟨_, rfl, by omega, by omega⟩
    · exact ⟨_, rfl, by omega, by omega⟩
    · exact ⟨_, rfl, by omega, by omega⟩
  refine ro_ixL (.lst _) hless ?_
  wtm_at "A"
  refine de_lcF (gw_name (by simp)) ?_
  wtm_at "A"
  refine ⟨by omega, by omega, by rw [rangeD_length]; omega, fun i acc μ' => ∃ (ys : List Int) (c' : Int) (cs' : List Int), acc = ys.map D.int ∧ μ' = hold μ k k2 c' cs' ∧ cs'.length = cs.length ∧ c' = c + 3 + i ∧ ys.length = i ∧ ∀ y ∈ ys, t ∣ y ∧ 1 ≤ y ∧ y + t ≤ 400, ⟨[], c + 3, c3s, rfl, by rw [show c + 1 + 1 + 1 = c + 3 by omega], by omega, by omega, rfl, by simp⟩, fun _ _ _ _ _ => trivial, ?_, ?_⟩
  · rintro i d acc μ' hi ⟨ys, c4, c4s, rfl, rfl, n4, hc4, hl4, hy4⟩
    obtain ⟨hi, rfl⟩ := rangeD_some hi
    have hi2 : i < 20 := by omega
    refine dg_name ?_
    refine dt_yes ⟨fun _ => ?_, fun z => by cases z⟩
    wtm_at "E"
    refine de_call XAg.none ?_
    wtm_at "E"
    refine ⟨k, k2, _, c4s, less, rfl, hd0.hold (by omega) (by omega), by omega, by omega, by omega, fun e c5s e0 e1 n5 => ?_⟩
    rw [hh]
    wtm_at "E"
    have he : t * 1 ≤ t * (M - 1 - e) := Int.mul_le_mul_of_nonneg_left (by omega) (by omega)
    have he2 : t * (M - 1 - e) ≤ t * (M - 1) := Int.mul_le_mul_of_nonneg_left (by omega) (by omega)
    have he3 : t * (M - 1) = M * t - t := by rw [Int.mul_sub, Int.mul_one, Int.mul_comm]
    exact ⟨ys ++ [t * (M - 1 - e)], c4 + 1, c5s, by simp, rfl, by omega, by push_cast; omega, by simp [hl4], fun y hy => by
      rcases List.mem_append.mp hy with q | q
      · exact hy4 y q
      · rw [List.mem_singleton.mp q]
        exact ⟨Int.dvd_mul_right .., by omega, by omega⟩⟩
  rintro acc μ' ⟨ys, c4, c4s, rfl, rfl, n4, hc4, hl4, hy4⟩
  rw [rangeD_length] at hc4 hl4
  refine .inr ?_
  have hd1 := hd0.hold (c' := c4) (ns' := c4s) (by omega) n4
  have hA : ∀ (c1 : Int) (ns1 : List Int) (e : Mu) (c2 : Int) (ns2 : List Int), 0 ≤ c1 → ns1.length = cs.length → hold (hold μ k k2 c1 ns1 ++ e) k k2 c2 ns2 = hold μ k k2 c2 ns2 ++ e := fun c1 ns1 e c2 ns2 h1 h2 => by
    rw [hold_app (hd0.hold (c' := c1) (ns' := ns1) h1 h2), hh]
  have hdA : ∀ {c1 : Int} {ns1 : List Int} (e : Mu), 0 ≤ c1 → ns1.length = cs.length → Hd k k2 c1 ns1 (hold μ k k2 c1 ns1 ++ e) := fun e h1 h2 => (hd0.hold h1 h2).app e
  have gN : ∀ (c' : Int) (ns' : List Int) (o : MO), (hold μ k k2 c' ns' ++ [o])[μ.length]? = some o := fun c' ns' o => by rw [← hold_len (μ := μ) (k := k) (k2 := k2) (c := c') (ns := ns')]; exact mu_last
  have sN : ∀ (c' : Int) (ns' : List Int) (o o' : MO), (hold μ k k2 c' ns' ++ [o]).set μ.length o' = hold μ k k2 c' ns' ++ [o'] := fun c' ns' o o' => by rw [← hold_len (μ := μ) (k := k) (k2 := k2) (c := c') (ns := ns')]; exact set_last
  rw [hold_len]
  wtm_at "A"
  refine ⟨k, k2, _, c4s, many - 1, rfl, hdA _ (by omega) n4, by omega, by omega, by omega, fun p c5s p0 p1 n5 => ?_⟩
  rw [hA _ _ _ _ _ (by omega) n4]
  wtm_at "A"
  refine ⟨k, k2, _, c5s, t - 1, rfl, hdA _ (by omega) (by omega), by omega, by omega, by omega, fun o c6s o0 o1 n6 => ?_⟩
  rw [hA _ _ _ _ _ (by omega) (by omega)]
  wtm_at "A"
  obtain ⟨u, hu, hu'⟩ := atNN (xs := ys) p0 (by omega)
  obtain ⟨v, hv, hv'⟩ := atNN (xs := ys) (i := p + 1) (by omega) (by omega)
  have pe : (p + 1).toNat = p.toNat + 1 := by omega
  rw [pe] at hv'
  have hv2 : (ys.set p.toNat (u + (1 + o)))[p.toNat + 1]? = some v := by rw [List.getElem?_set_ne (by omega)]; exact hv'
  refine q_augS ?_
  wtm_at "A"
  refine ro_ixLL (.own (gN _ _ _)) (d := .int u) (at_map (j := p.toNat) (by omega) hu') ?_
  wtm_at "A"
  refine rset_lst (gN _ _ _) (j := p.toNat) (by unfold ixN; rw [if_pos p0, if_pos (by rw [List.length_map]; omega)]) ?_
  rw [sN, ← List.map_set]
  refine q_augS ?_
  wtm_at "A"
  refine ro_ixLL (.own (gN _ _ _)) (d := .int v) (at_map (j := p.toNat + 1) (by omega) hv2) ?_
  wtm_at "A"
  refine rset_lst (gN _ _ _) (j := p.toNat + 1) (by unfold ixN; rw [if_pos (by omega), if_pos (by rw [List.length_map, List.length_set]; omega), pe]) ?_
  rw [sN, ← List.map_set]
  have W := one_way (p := p.toNat) (off := 1 + o) t0 hy4 (by omega) (by omega) hu' hv' (by omega) (by omega)
  refine ds_freeze (i := 5) (by rfl) (gN _ _ _) ?_
  rw [sN]
  have hwl : ((ys.set p.toNat (u + (1 + o))).set (p.toNat + 1) (v + (t - (1 + o)))).length = ys.length := by simp
  generalize (ys.set p.toNat (u + (1 + o))).set (p.toNat + 1) (v + (t - (1 + o))) = ws at W hwl
  wtm_at "A"
  rw [cut_pre (by omega) (by omega), pe]
  refine rc_sum (.lst _) ?_
  wtm_at "A"
  exact ret_same (by rw [hold_len]; exact Nat.le_refl _) (hd0.cl hm) (by simp only [D.cl, clL, intsD, cl_ints, Bool.and_self]) (h ws _ _ _ c6s W (by omega) (by omega) (by omega))
end
section
variable {K : PySem.W.Frag}
theorem d_law_lone_right (kc : KCal K) : ∀ ds μ P PX, c_law_lone_right K ds μ P PX → MuCl μ μ.length → clL ds μ.length = true → ∀ B E, XAg K B (RetX μ.length PX) E → DS K B (t_law_lone_right K E) (startD ["_law_hold", "_law_times", "_law_way", "_law_other", "_law_more", "_law_mark", "_law_days", "_law_later", "_law_day", "_law_begin", "_law_due_here", "_law_k", "_law_found"] ds) μ (fnE μ.length P) := by
  intro ds μ P PX h hm hc B E hE
  obtain ⟨k, k2, c, cs, rfl, hd0, hcb, h⟩ := h
  show DS K B _ [some (.own k), none, none, none, none, none, none, none, none, none, none, none, none] μ _
  have hc0 := hd0.c0
  have hh : ∀ c1 ns1 c2 ns2, hold (hold μ k k2 c1 ns1) k k2 c2 ns2 = hold μ k k2 c2 ns2 := fun _ _ _ _ => hold_hold hd0.ne
  unfold t_law_lone_right
  wtm_at "A"
  refine ⟨k, k2, c, cs, 7, rfl, hd0, by omega, by decide, by decide, fun a c1s a0 a1 n1 => ?_⟩
  wtm_at "A"
  obtain ⟨t, ht⟩ : ∃ t : Int, t = 2 + a := ⟨_, rfl⟩
  rw [← ht]
  have hq := Int.ediv_mul_add_emod 400 t
  have hq0 := Int.emod_nonneg 400 (b := t) (by omega)
  have hq1 := Int.emod_lt_of_pos 400 (b := t) (by omega)
  have hT : 50 ≤ 400 / t ∧ 400 / t ≤ 200 := by
    have : t = 2 ∨ t = 3 ∨ t = 4 ∨ t = 5 ∨ t = 6 ∨ t = 7 ∨ t = 8 := by omega
    rcases this with rfl | rfl | rfl | rfl | rfl | rfl | rfl <;> decide
  refine ⟨k, k2, _, c1s, 2, rfl, hd0.hold (by omega) n1, by omega, by decide, by decide, fun way c2s w0 w1 n2 => ?_⟩
  rw [hh]
  wtm_at "A"
  refine ⟨k, k2, _, c2s, t, rfl, hd0.hold (by omega) (by omega), by omega, by omega, by omega, fun ws off to c3 c3s W hc3 hc3' n3 => ?_⟩
  rw [hh]
  wtm_at "A"
  refine ro_fdiv (by omega) (log2S (by omega) (by omega)) ?_
  wtm_at "A"
  refine ro_fdiv (by omega) (log2S (by omega) (by omega)) ?_
  generalize 400 / t = M at hq hT
  wtm_at "A"
  refine ⟨k, k2, _, c3s, M, rfl, hd0.hold (by omega) (by omega), by omega, by omega, by omega, fun r c4s r0 r1 n4 => ?_⟩
  rw [hh]
  wtm_at "A"
  obtain ⟨N, hN, N0, N1⟩ : ∃ N : Int, M - way * r = N ∧ 1 ≤ N ∧ N ≤ M := by
    have : way = 0 ∨ way = 1 := by omega
    rcases this with rfl | rfl
    · exact ⟨_, rfl, by omega, by omega⟩
    · exact ⟨_, rfl, by omega, by omega⟩
  rw [hN]
  have hn1 : t * 1 ≤ t * N := Int.mul_le_mul_of_nonneg_left N0 (by omega)
  have hn2 : t * N ≤ t * M := Int.mul_le_mul_of_nonneg_left N1 (by omega)
  rw [Int.mul_comm t M] at hn2
  have hnd : t ∣ t * N := Int.dvd_mul_right ..
  generalize t * N = n at hn1 hn2 hnd ⊢
  refine ⟨k, k2, _, c4s, rfl, hd0.hold (by omega) (by omega), by omega, fun f c5 c5s f0 f1 hc5 hc5' n5 => ?_⟩
  rw [hh]
  wtm_at "A"
  have hw0 := W.off0; have hw1 := W.off1
  have hf0 : 0 ≤ t * f := Int.mul_nonneg (by omega) f0
  obtain ⟨later, hlat⟩ : ∃ l : Int, l = t * f + t - off := ⟨_, rfl⟩
  rw [← hlat]
  have hld : t ∣ later + off := ⟨f + 1, by rw [hlat, Int.mul_add, Int.mul_one]; omega⟩
  refine ⟨k, k2, _, c5s, rfl, hd0.hold (by omega) (by omega), by omega, fun day c6 c6s y0 y1 hc6 hc6' n6 => ?_⟩
  rw [hh]
  show DS K B _ [some (.own k), some (.int t), some (.int way), some (intsD ws), some (.int off), some (.int to), some (.int n), some (.int later), some (.int day), none, none, none, none] (hold μ k k2 c6 c6s) _
  have hS := W.g.sum_pos; have hS1 := W.g.sum_le
  have hto : 0 ≤ to ∧ to < ws.sum := by
    obtain ⟨p, hp, rfl, _⟩ := W.at_
    have := preY_bd W.g hp
    omega
  refine q_set ?_
  wtm_at "E"
  show DS K B _ [some (.own k), some (.int t), some (.int way), some (intsD ws), some (.int off), some (.int to), some (.int n), some (.int later), some (.int day), some (.int (later + to)), none, none, none] (hold μ k k2 c6 c6s) _
  refine ds_cut (M := fun ρ1 μ1 => True ∧ ∃ x : Int, ρ1 = [some (.own k), some (.int t), some (.int way), some (intsD ws), some (.int off), some (.int to), some (.int n), some (.int later), some (.int day), some (.int x), none, none, none] ∧ μ1 = hold μ k k2 c6 c6s ∧ (x - later) % ws.sum = to ∧ max day later ≤ x ∧ x < max day later + ws.sum) ?_ ?_
  · refine s_when (dt_test ?_)
    wtm_at "E"
    · rename_i hb
      have hb' : later + to < day := by simpa using hb
      refine ds_aug rfl ?_
      wtm_at "E"
      refine rc_sum (.lst _) ?_
      wtm_at "E"
      refine rc_sum (.lst _) ?_
      wtm_at "E"
      refine ro_fdiv (by omega) (log2S (by omega) (by omega)) ?_
      wtm_at "E"
      refine rc_sum (.lst _) ?_
      wtm_at "E"
      obtain ⟨q1, q2⟩ := next_same (W := ws.sum) (a := later + to) (low := day) hS hb'
      refine ⟨trivial, _, rfl, rfl, ?_, by omega, by omega⟩
      rw [show ∀ z : Int, later + to + z * ws.sum - later = to + z * ws.sum by intro z; omega, Int.add_mul_emod_self_right, Int.emod_eq_of_lt hto.1 hto.2]
    · rename_i hb
      have hb' : ¬ later + to < day := by simpa using hb
      refine ⟨trivial, _, rfl, rfl, ?_, by omega, by omega⟩
      rw [show later + to - later = to by omega, Int.emod_eq_of_lt hto.1 hto.2]
  rintro ρ1 μ1 ⟨_, x, rfl, rfl, hx, hx0, hx1⟩
  wtm_at "A"
  refine de_lcF (gw_name (by simp)) ?_
  wtm_at "E"
  refine ⟨by omega, by omega, by rw [rangeD_length]; omega, fun i acc μ' => acc = (((List.range i).map fun k : Nat => x + (k : Int) * ws.sum).filter fun y => decide (y % n = 0)).map D.int ∧ μ' = hold μ k k2 c6 c6s, ⟨rfl, rfl⟩, fun _ _ _ _ _ => trivial, ?_, ?_⟩
  · rintro i d acc μ' hi ⟨rfl, rfl⟩
    obtain ⟨hi, rfl⟩ := rangeD_some hi
    refine dg_name ?_
    refine dt_test ?_
    wtm_at "E"
    refine rc_sum (.lst _) ?_
    wtm_at "E"
    · rename_i hb
      refine rc_sum (.lst _) ?_
      wtm_at "E"
      rw [Int.zero_add] at hb ⊢
      refine ⟨?_, rfl⟩
      rw [List.range_succ, List.map_append, List.filter_append, List.map_append]
      simp [hb]
    · rename_i hb
      rw [Int.zero_add] at hb
      refine ⟨?_, rfl⟩
      rw [List.range_succ, List.map_append, List.filter_append, List.map_append]
      simp [hb]
  rintro acc μ' ⟨rfl, rfl⟩
  rw [rangeD_length]
  refine .inl ?_
  have hM := lone_meets (F := ((List.range n.toNat).map fun k : Nat => x + (k : Int) * ws.sum).filter fun y => decide (y % n = 0)) W hnd (by omega) hld hx hx0 hx1 rfl
  generalize ((List.range n.toNat).map fun k : Nat => x + (k : Int) * ws.sum).filter (fun y => decide (y % n = 0)) = G at hM ⊢
  refine q_set (de_call hE ?_)
  refine da_cons (de_cal hE ?_)
  wtm_at "E"
  refine de_lstZ ?_
  wtm_at "E"
  refine ⟨_, [n], rfl, .id _, ⟨by simp, by simp, by simp; omega⟩, ?_⟩
  refine da_cons (de_cal hE ?_)
  wtm_at "E"
  refine ⟨_, ws, rfl, .id _, W.g, ?_⟩
  wtm_at "E"
  refine ⟨[n], ws, later, day, rfl, ⟨by simp, by simp, by simp; omega⟩, W.g, fun _ _ r hr => ?_, fun q => by omega⟩
  obtain rfl := hr.uniq hM
  have fin := ret_same0 (n := μ.length) (μ := hold μ k k2 c6 c6s) (P := P) (d := .bl true) (by rw [hold_len]; exact Nat.le_refl _) (hd0.cl hm) rfl (h c6 c6s (by omega) (by omega) (by omega))
  refine ds_ret ?_
  cases G with
  | nil =>
    rw [show optD (([] : List Int).head?) = .non from rfl]
    refine de_if (dt_test (de_op ?_))
    wtm_at "E"
    refine de_lstZ ?_
    wtm_at "E"
    refine ro_eqNil (n := 0) (.id _) rfl ?_
    wtm_at "E"
    exact fin
  | cons a F =>
    refine de_if (dt_test (de_op ?_))
    wtm_at "E"
    refine de_lstZ ?_
    wtm_at "E"
    refine ro_eqNil (n := 1) (.id _) (shp_ints16 (a :: F)) ?_
    wtm_at "E"
    refine ro_ixL (.lst _) (at_map (f := D.int) (xs := a :: F) (j := 0) rfl rfl) ?_
    wtm_at "E"
    exact ⟨a, rfl, fin⟩
end
section
variable {K : PySem.W.Frag}
theorem times_cal {t M : Int} {xs : List Int} (ht : 0 < t) (hM : M * t ≤ 400) (hM5 : 5 ≤ M) (h0 : 0 < xs.length) (h1 : (xs.length : Int) ≤ 20) (hx : ∀ x ∈ xs, 1 ≤ x ∧ x ≤ max 5 M) : GCal (xs.map fun x => t * x) :=
  ⟨by simpa using h0, by simp; omega, fun y hy => by
    obtain ⟨x, hx', rfl⟩ := List.mem_map.mp hy
    obtain ⟨a, b⟩ := hx x hx'
    have h1 := Int.mul_le_mul_of_nonneg_left a (Int.le_of_lt ht)
    have h2 := Int.mul_le_mul_of_nonneg_left (show x ≤ M by omega) (Int.le_of_lt ht)
    rw [Int.mul_comm t M] at h2
    omega⟩
theorem d_law (kc : KCal K) : ∀ ds μ P PX, c_law K ds μ P PX → MuCl μ μ.length → clL ds μ.length = true → ∀ B E, XAg K B (RetX μ.length PX) E → DS K B (t_law K E) (startD ["_law_script", "_law_hold", "_law_k", "_law_one", "_law_other", "_law_times", "_law_later", "_law_days"] ds) μ (fnE μ.length P) := by
  intro ds μ P PX h hm hc B E hE
  obtain ⟨ns, rfl, hl, h⟩ := h
  show DS K B _ [some (.rdl (ns.map D.int)), none, none, none, none, none, none, none] μ _
  unfold t_law
  wtm_at "dS"
  refine de_hold0 rfl hl fun cs hd0 => ?_
  have hle : μ.length ≤ (μ ++ [MO.lst (cs.map D.int), MO.lst [D.int 0, D.own μ.length]]).length := by simp
  have hfin : ∀ (c : Int) (cs' : List Int), Ret μ.length P (.bl true) (hold (μ ++ [MO.lst (cs.map D.int), MO.lst [D.int 0, D.own μ.length]]) (μ.length + 1) μ.length c cs') := fun c cs' => by
    have : ∃ ext', hold (μ ++ [MO.lst (cs.map D.int), MO.lst [D.int 0, D.own μ.length]]) (μ.length + 1) μ.length c cs' = μ ++ ext' := by
      unfold hold
      rw [List.set_append_right _ _ (by omega), List.set_append_right _ _ (by omega)]
      exact ⟨_, rfl⟩
    obtain ⟨ext', e⟩ := this
    rw [e]
    exact ret_same (Nat.le_refl _) hm rfl (h _)
  generalize μ ++ [MO.lst (cs.map D.int), MO.lst [D.int 0, D.own μ.length]] = μ0 at hd0 hle hfin ⊢
  generalize hk2 : μ.length = k2 at hd0 hfin
  generalize k2 + 1 = k at hd0 hfin ⊢
  have hh : ∀ c1 ns1 c2 ns2, hold (hold μ0 k k2 c1 ns1) k k2 c2 ns2 = hold μ0 k k2 c2 ns2 := fun _ _ _ _ => hold_hold hd0.ne
  have gc : ∀ {ls : List Int} {m : Int}, m ≤ 20 → 0 < ls.length → (ls.length : Int) ≤ m → (∀ x ∈ ls, 1 ≤ x ∧ x ≤ max 5 400) → GCal ls := fun hm l0 l1 l2 => ⟨l0, by omega, fun x hx => by have := l2 x hx; omega⟩
  refine q_for ?_
  wtm_at "E"
  rw [List.length_map]
  refine ⟨by omega, by omega, ?_⟩
  refine ⟨fun i ρ' μ' => ∃ (y2 y3 y4 : Option D) (c : Int) (cs' : List Int), ρ' = [some (.rdl (ns.map D.int)), some (.own k), y2, y3, y4, none, none, none] ∧ μ' = hold μ0 k k2 c cs' ∧ 0 ≤ c ∧ c ≤ 200 * i ∧ cs'.length = cs.length, ⟨_, _, _, 0, cs, rfl, by rw [hold_same hd0], by omega, by omega, rfl⟩, fun _ _ _ _ _ => trivial, ?_, ?_⟩
  · rintro i d ρ' μ' hi ⟨y2, y3, y4, c, cs', rfl, rfl, c0, c1, hn⟩
    obtain ⟨hi, rfl⟩ := rangeD_some hi
    have hi3 : i < 3 := by omega
    refine dg_name ?_
    refine q_par ?_
    wtm_at "E"
    refine ⟨k, k2, c, cs', 400, 20, rfl, hd0.hold (by omega) hn, by omega, by decide, by decide, by decide, by decide, fun ls c2 cs2 l0 l1 l2 hc2 hc2' n2 => ?_⟩
    rw [hh]
    wtm_at "E"
    refine ⟨k, k2, c2, cs2, 400, 20, rfl, hd0.hold (by omega) (by omega), by omega, by decide, by decide, by decide, by decide, fun ms c3 cs3 m0 m1 m2 hc3 hc3' n3 => ?_⟩
    rw [hh]
    wtm_at "E"
    refine ⟨_, _, rfl, ?_⟩
    refine s_when (dt_not (dt_truth ?_))
    refine de_call hE ?_
    wtm_at "E"
    refine ⟨k, k2, c3, cs3, ls, ms, rfl, hd0.hold (by omega) (by omega), by omega, gc (by omega) l0 l1 l2, gc (by omega) m0 m1 m2, fun c4 cs4 hc4 hc4' n4 => ?_⟩
    rw [hh]
    refine ⟨_, rfl, fun z => (nomatch z), fun _ => ?_⟩
    exact ⟨_, _, _, c4, cs4, rfl, rfl, by omega, by push_cast; omega, by omega⟩
  rintro ρ' μ' ⟨y2, y3, y4, c, cs', rfl, rfl, c0, c1, hn⟩
  rw [rangeD_length] at c1
  have c2 : c ≤ 600 := by omega
  wtm_at "A"
  refine ⟨k, k2, c, cs', 400, 2, rfl, hd0.hold (by omega) hn, by omega, by decide, by decide, by decide, by decide, fun ls c3 cs3 l0 l1 l2 hc3 hc3' n3 => ?_⟩
  rw [hh]
  wtm_at "A"
  refine ⟨k, k2, c3, cs3, 400, 2, rfl, hd0.hold (by omega) (by omega), by omega, by decide, by decide, by decide, by decide, fun ms c4 cs4 m0 m1 m2 hc4 hc4' n4 => ?_⟩
  rw [hh]
  wtm_at "A"
  refine ⟨k, k2, c4, cs4, rfl, hd0.hold (by omega) (by omega), by omega, fun a c5 cs5 a0 a1 hc5 hc5' n5 => ?_⟩
  rw [hh]
  wtm_at "A"
  refine ⟨k, k2, c5, cs5, rfl, hd0.hold (by omega) (by omega), by omega, fun b c6 cs6 b0 b1 hc6 hc6' n6 => ?_⟩
  rw [hh]
  wtm_at "A"
  refine ⟨ls, ms, a, b, rfl, gc (by omega) l0 l1 l2, gc (by omega) m0 m1 m2, by omega, by omega, a0, b0, ?_⟩
  refine ⟨_, rfl, fun z => (nomatch z), fun _ => ?_⟩
  wtm_at "A"
  refine ⟨k, k2, c6, cs6, rfl, hd0.hold (by omega) (by omega), by omega, fun c7 cs7 hc7 hc7' n7 => ?_⟩
  rw [hh]
  refine ⟨_, rfl, fun z => (nomatch z), fun _ => ?_⟩
  wtm_at "A"
  refine ⟨k, k2, _, cs7, 8, rfl, hd0.hold (by omega) (by omega), by omega, by decide, by decide, fun e c8s e0 e1 n8 => ?_⟩
  rw [hh]
  wtm_at "A"
  obtain ⟨t, ht⟩ : ∃ t : Int, t = 2 + e := ⟨_, rfl⟩
  rw [← ht]
  have hq := Int.ediv_mul_add_emod 400 t
  have hq0 := Int.emod_nonneg 400 (b := t) (by omega)
  have hq1 := Int.emod_lt_of_pos 400 (b := t) (by omega)
  have hT : 44 ≤ 400 / t ∧ 400 / t ≤ 200 := by
    have : t = 2 ∨ t = 3 ∨ t = 4 ∨ t = 5 ∨ t = 6 ∨ t = 7 ∨ t = 8 ∨ t = 9 := by omega
    rcases this with rfl | rfl | rfl | rfl | rfl | rfl | rfl | rfl <;> decide
  refine ⟨k, k2, _, c8s, rfl, hd0.hold (by omega) (by omega), by omega, fun f c9 cs9 f0 f1 hc9 hc9' n9 => ?_⟩
  rw [hh]
  wtm_at "A"
  refine ⟨k, k2, _, cs9, t - 1, rfl, hd0.hold (by omega) (by omega), by omega, by omega, by omega, fun o c10s o0 o1 n10 => ?_⟩
  rw [hh]
  wtm_at "A"
  have hM1 : 400 / t * t ≤ 400 := by omega
  refine de_lcF (gw_name (by simp)) ?_
  wtm_at "E"
  refine ro_fdiv (by omega) (log2S (by omega) (by omega)) ?_
  wtm_at "E"
  refine ⟨k, k2, _, c10s, 400 / t, 20, rfl, hd0.hold (by omega) (by omega), by omega, by omega, by omega, by decide, by decide, fun xs c11 cs11 xs0 xs1 xs2 hc11 hc11' nc11 => ?_⟩
  rw [hh]
  refine ⟨_, _, .lst _, by simp; omega, fun i acc μ' => acc = ((xs.take i).map fun x => t * x).map D.int ∧ μ' = hold μ0 k k2 c11 cs11, ⟨rfl, rfl⟩, fun _ _ _ _ _ => trivial, ?_, ?_⟩
  · rintro i d acc μ' hi ⟨rfl, rfl⟩
    obtain ⟨x, hx, rfl⟩ := ints_get hi
    refine dg_name ?_
    refine dt_yes ⟨fun _ => ?_, fun z => by cases z⟩
    wtm_at "E"
    refine ⟨?_, rfl⟩
    rw [List.take_add_one, hx]
    simp
  rintro acc μ' ⟨rfl, rfl⟩
  rw [List.length_map, List.take_length]
  refine .inl ?_
  wtm_at "A"
  refine de_lcF (gw_name (by simp)) ?_
  wtm_at "E"
  refine ro_fdiv (by omega) (log2S (by omega) (by omega)) ?_
  wtm_at "E"
  refine ⟨k, k2, _, cs11, 400 / t, 20, rfl, hd0.hold (by omega) (by omega), by omega, by omega, by omega, by decide, by decide, fun zs c12 cs12 zs0 zs1 zs2 hc12 hc12' nc12 => ?_⟩
  rw [hh]
  refine ⟨_, _, .lst _, by simp; omega, fun i acc μ' => acc = ((zs.take i).map fun x => t * x).map D.int ∧ μ' = hold μ0 k k2 c12 cs12, ⟨rfl, rfl⟩, fun _ _ _ _ _ => trivial, ?_, ?_⟩
  · rintro i d acc μ' hi ⟨rfl, rfl⟩
    obtain ⟨x, hx, rfl⟩ := ints_get hi
    refine dg_name ?_
    refine dt_yes ⟨fun _ => ?_, fun z => by cases z⟩
    wtm_at "E"
    refine ⟨?_, rfl⟩
    rw [List.take_add_one, hx]
    simp
  rintro acc μ' ⟨rfl, rfl⟩
  rw [List.length_map, List.take_length]
  refine .inl ?_
  wtm_at "A"
  have gx := times_cal (t := t) (M := 400 / t) (by omega) hM1 (by omega) xs0 xs1 xs2
  have gz := times_cal (t := t) (M := 400 / t) (by omega) hM1 (by omega) zs0 zs1 zs2
  have dx : ∀ y ∈ xs.map fun x => t * x, t ∣ y := fun y hy => by
    obtain ⟨x, _, rfl⟩ := List.mem_map.mp hy
    exact Int.dvd_mul_right ..
  have dz : ∀ y ∈ zs.map fun x => t * x, t ∣ y := fun y hy => by
    obtain ⟨x, _, rfl⟩ := List.mem_map.mp hy
    exact Int.dvd_mul_right ..
  generalize (xs.map fun x => t * x) = as at gx dx ⊢
  generalize (zs.map fun x => t * x) = bs at gz dz ⊢
  have hf0 : 0 ≤ t * f := Int.mul_nonneg (by omega) f0
  refine de_cal hE ?_
  wtm_at "E"
  refine ⟨_, as, rfl, .id _, gx, ?_⟩
  refine da_cons (de_cal hE ?_)
  wtm_at "E"
  refine ⟨_, bs, rfl, .id _, gz, ?_⟩
  wtm_at "A"
  refine ⟨k, k2, _, cs12, rfl, hd0.hold (by omega) (by omega), by omega, fun y c13 cs13 y0 y1 hc13 hc13' n13 => ?_⟩
  rw [hh]
  wtm_at "A"
  refine ⟨as, bs, t * f + 1 + o, y, rfl, gx, gz, fun _ _ r hr => ?_, fun q => by omega⟩
  have hN : MeetS as bs (t * f + 1 + o) (max y (t * f + 1 + o)) none := meets_none (dvd_sums dx) (dvd_sums dz) (fun _ _ => dvd_pre dx _) (fun _ _ => dvd_pre dz _) (fun hd => by
    have h1 := Int.dvd_sub hd (Int.dvd_mul_right t f)
    rw [show t * f + 1 + o - t * f = 1 + o by omega] at h1
    have := Int.le_of_dvd (by omega) h1
    omega)
  obtain rfl := hr.uniq hN
  rw [show optD none = .non from rfl]
  wtm_at "A"
  exact hfin _ _
end
local macro_rules | `(tactic| wtm_at "ln") => `(tactic| (intro ds μ P PX h; first | (obtain ⟨_, e, _⟩ := h; exact congrArg List.length e) | (obtain ⟨_, _, e, _⟩ := h; exact congrArg List.length e) | (obtain ⟨_, _, _, e, _⟩ := h; exact congrArg List.length e) | (obtain ⟨_, _, _, _, e, _⟩ := h; exact congrArg List.length e) | (obtain ⟨_, _, _, _, _, e, _⟩ := h; exact congrArg List.length e) | (obtain ⟨_, _, _, _, _, _, e, _⟩ := h; exact congrArg List.length e) | (obtain ⟨_, _, _, _, _, _, _, e, _⟩ := h; exact congrArg List.length e) | (obtain ⟨_, _, _, _, _, _, _, _, e, _⟩ := h; exact congrArg List.length e) | (obtain ⟨_, _, _, _, _, _, _, _, _, e, _⟩ := h; exact congrArg List.length e) | (obtain ⟨_, _, _, _, _, _, _, _, _, _, e, _⟩ := h; exact congrArg List.length e) | (obtain ⟨_, _, _, _, _, _, _, _, _, _, _, e, _⟩ := h; exact congrArg List.length e) | (obtain ⟨_, _, _, _, _, _, _, _, _, _, _, _, e, _⟩ := h; exact congrArg List.length e) | (obtain ⟨_, _, _, _, _, _, _, _, _, _, _, _, _, e, _⟩ := h; exact congrArg List.length e) | (obtain ⟨_, _, _, _, _, _, _, _, _, _, _, _, _, _, e, _⟩ := h; exact congrArg List.length e)))
local macro_rules | `(tactic| wtm_at "oi") => `(tactic| first | exact Or.inl rfl | exact Or.inr rfl)
structure FQ (P : Program) (w : World) (K : PySem.W.Frag) (mg : Str → Option Value) (base : Heap) (n : Nat) (f : Addr) (fd : FuncData) (ps : List Str) (C : CT) : Prop where
  F : FnOk P w K mg base (L2.CX P w) n f fd ps (spD K C)
  B : Binds K fd ps []
structure FG (P : Program) (w : World) (K : PySem.W.Frag) (mg : Str → Option Value) (base : Heap) (n : Nat) (f : Addr) (fd : FuncData) (ps : List Str) (C : CT) (x : Str) : Prop extends FQ P w K mg base n f fd ps C where
  m : mg x = some (.ref f)
  k : PySem.W.keepIn K (.ref f) = true
abbrev GD (K : PySem.W.Frag) (a b : Str) (s : Stmt) (f : Addr) (fd : FuncData) : Prop := FunD K a b (defArgs s) (defBody s) (defScope s) [] [] f fd
section
variable {P : Program} {w : World} {K : PySem.W.Frag} {mg : Str → Option Value} {base : Heap}
set_option maxHeartbeats 1000000
local macro_rules | `(tactic| wtm_at "pk") => `(tactic| exact passes_call (takes_of rfl rfl rfl rfl) (fun _ _ _ _ h => h))
local macro_rules | `(tactic| wtm_at "sn") => `(tactic| exact ⟨rfl, rfl, rfl, by decide +kernel, rfl, by decide +kernel, by decide +kernel⟩)
/-! ### the text, def by def -/
abbrev N_law_draw : List Str := ["_law_hold", "_law_many", "_law_spot", "_law_cell", "_law_mark"]
theorem sc_law_draw : FnScope N_law_draw ["_law_hold", "_law_many"] (defScope s_law_draw) := by wtm_at "sn"
theorem ok_law_draw {f : Addr} {fd : FuncData} (F : GD K "_law_draw" "_law_draw" s_law_draw f fd) (n_len : mg "len" = none) :
    FnOk P w K mg base (L2.CX P w) 1 f fd ["_law_hold", "_law_many"] (spD K (c_law_draw K)) :=
  fn_DD (t := t_law_draw K) F sc_law_draw (by wtm_at "ln") (by decide)
    (fun cdv A outer s H E hr => by exact
      (pss_cons (ps_set (i := 2) sc_law_draw.nd rfl (by wtm_at "oi") (pe_op op_modA (pe_ix ix_seq (pv 0) pe_int (fun _ _ => rfl)) (pe_callB call_len (by rfl) n_len (by decide +kernel) (pa_cons (pe_ix ix_seq (pv 0) pe_int (fun _ _ => rfl)) pa_nil))))
      (pss_cons (ps_set (i := 3) sc_law_draw.nd rfl (by wtm_at "oi") (pe_ix ix_seq (pe_ix ix_seq (pv 0) pe_int (fun _ _ => rfl)) (pv 2) (fun _ _ => rfl)))
      (pss_cons (ps_augS (pv 0) pe_int get_list pe_int ip_add set_list)
      (pss_cons (ps_if (pt_cmpR op_ge (pv 3) pe_int (nomark _)) (pss_cons (ps_asg (pe_op op_fdivA (pv 3) (pv 1)) (pg_sub (pe_ix ix_seq (pv 0) pe_int (fun _ _ => rfl)) (pv 2) set_list))
      (pss_one (ps_ret (pe_op op_modA (pv 3) (pv 1))))) pss_nil)
      (pss_cons (ps_set (i := 4) sc_law_draw.nd rfl (by wtm_at "oi") (pe_op op_modA (pe_op op_addA (pe_op op_modA (pv 3) pe_int) (pe_op op_mulA pe_int (pe_ix ix_seq (pv 0) pe_int (fun _ _ => rfl)))) pe_int))
      (pss_cons (ps_set (i := 4) sc_law_draw.nd rfl (by wtm_at "oi") (pe_op op_modA (pe_op op_mulA (pe_op op_modA (pe_op op_pow (pv 4) pe_int) pe_int) pe_int) pe_int))
      (pss_one (ps_ret (pe_op op_modA (pe_op op_fdivA (pe_op op_modA (pe_op op_pow (pe_op op_addA (pv 4) (pe_op op_mulA (pe_op op_modA (pv 3) pe_int) (pe_ix ix_seq (pv 0) pe_int (fun _ _ => rfl)))) pe_int) pe_int) pe_int) (pv 1)))))))))))
    (d_law_draw)
abbrev N_law_lengths : List Str := ["_law_hold", "_law_most", "_law_many", "_law_way", "_law_some", "_law_k"]
theorem sc_law_lengths : FnScope N_law_lengths ["_law_hold", "_law_most", "_law_many"] (defScope s_law_lengths) := by wtm_at "sn"
theorem ok_law_lengths {f : Addr} {fd : FuncData} {f_law_draw : Addr} {fd_law_draw : FuncData} (F : GD K "_law_lengths" "_law_lengths" s_law_lengths f fd) (F_law_draw : FG P w K mg base 1 f_law_draw fd_law_draw ["_law_hold", "_law_many"] (c_law_draw K) "_law_draw") (n_range : mg "range" = none) :
    FnOk P w K mg base (L2.CX P w) 2 f fd ["_law_hold", "_law_most", "_law_many"] (spD K (c_law_lengths K)) :=
  fn_DD (t := t_law_lengths K) F sc_law_lengths (by wtm_at "ln") (by decide)
    (fun cdv A outer s H E hr => by exact
      (pss_cons (ps_set (i := 3) sc_law_lengths.nd rfl (by wtm_at "oi") (pe_call F_law_draw.F (hr.mono (by decide)) (by rfl) F_law_draw.m F_law_draw.k F_law_draw.B .nil (by wtm_at "pk") (pa_cons (pv 0) (pa_cons pe_int pa_nil))))
      (pss_cons (ps_if (pt_cmpR (op_eqD hr.units) (pv 3) pe_int (nomark _)) (pss_one (ps_ret (pe_op op_mulA (pe_lst (pa_cons (pv 1) pa_nil)) (pv 2)))) pss_nil)
      (pss_cons (ps_set (i := 4) sc_law_lengths.nd rfl (by wtm_at "oi") (pe_ix ix_seq (pe_lst (pa_cons pe_int (pa_cons pe_int (pa_cons pe_int (pa_cons (pv 1) (pa_cons (pv 1) (pa_cons (pv 1) (pa_cons (pv 1) pa_nil)))))))) (pe_op op_sub (pv 3) pe_int) (fun _ _ => rfl)))
      (pss_one (ps_ret (pe_lc (own := [("_law_k", 5)]) (g := (gName 5)) (tt := tYes) (te := (tOp (rAddA K) (tC (.int 1)) (tCall (spD K (c_law_draw K)) [] E0 (tCons (tVar 0) (tCons (tVar 4) tNil))))) (by rfl) sc_law_lengths.nd (pi_range1 (by rfl) n_range (pa_cons (pe_op op_addA pe_int (pe_call F_law_draw.F (hr.mono (by decide)) (by rfl) F_law_draw.m F_law_draw.k F_law_draw.B .nil (by wtm_at "pk") (pa_cons (pv 0) (pa_cons (pv 2) pa_nil)))) pa_nil)) (blkOk_by (own := [("_law_k", 5)]) (N := N_law_lengths) (sc := defScope s_law_lengths) (by decide +kernel)) (fun _ _ _ _ _ => by exact (pg_name (i := 5) sc_law_lengths.nd rfl (by wtm_at "oi"))) (fun _ _ _ _ _ => by exact pts_nil) (fun _ _ _ _ _ => by exact (pe_op op_addA pe_int (pe_call F_law_draw.F (hr.mono (by decide)) (by rfl) F_law_draw.m F_law_draw.k F_law_draw.B .nil passL (pa_cons (pv 0) (pa_cons (pv 4) pa_nil))))))))))))
    (d_law_lengths)
abbrev N_law_far : List Str := ["_law_hold", "_law_way", "_law_number", "_law_k"]
theorem sc_law_far : FnScope N_law_far ["_law_hold"] (defScope s_law_far) := by wtm_at "sn"
theorem ok_law_far {f : Addr} {fd : FuncData} {f_law_draw : Addr} {fd_law_draw : FuncData} (F : GD K "_law_far" "_law_far" s_law_far f fd) (F_law_draw : FG P w K mg base 1 f_law_draw fd_law_draw ["_law_hold", "_law_many"] (c_law_draw K) "_law_draw") (n_range : mg "range" = none) :
    FnOk P w K mg base (L2.CX P w) 2 f fd ["_law_hold"] (spD K (c_law_far K)) :=
  fn_DD (t := t_law_far K) F sc_law_far (by wtm_at "ln") (by decide)
    (fun cdv A outer s H E hr => by exact
      (pss_cons (ps_set (i := 1) sc_law_far.nd rfl (by wtm_at "oi") (pe_call F_law_draw.F (hr.mono (by decide)) (by rfl) F_law_draw.m F_law_draw.k F_law_draw.B .nil (by wtm_at "pk") (pa_cons (pv 0) (pa_cons pe_int pa_nil))))
      (pss_cons (ps_if (pt_cmpR op_lt (pv 1) pe_int (nomark _)) (pss_one (ps_ret (pe_call F_law_draw.F (hr.mono (by decide)) (by rfl) F_law_draw.m F_law_draw.k F_law_draw.B .nil (by wtm_at "pk") (pa_cons (pv 0) (pa_cons (pe_ix ix_seq (pe_lst (pa_cons pe_int (pa_cons pe_int pa_nil))) (pv 1) (fun _ _ => rfl)) pa_nil))))) pss_nil)
      (pss_cons (ps_set (i := 2) sc_law_far.nd rfl (by wtm_at "oi") pe_int)
      (pss_cons (ps_for (passes_of rfl) rfl (pi_range1 (by rfl) n_range (pa_cons pe_int pa_nil)) (pg_name (i := 3) sc_law_far.nd rfl (by wtm_at "oi")) (pss_one (ps_set (i := 2) sc_law_far.nd rfl (by wtm_at "oi") (pe_op op_addA (pe_op op_mulA (pv 2) pe_int) (pe_call F_law_draw.F (hr.mono (by decide)) (by rfl) F_law_draw.m F_law_draw.k F_law_draw.B .nil (by wtm_at "pk") (pa_cons (pv 0) (pa_cons pe_int pa_nil)))))))
      (pss_one (ps_ret (pv 2))))))))
    (d_law_far)
abbrev N_law_first : List Str := ["_law_lengths_here", "_law_year", "_law_turns", "_law_spot"]
theorem sc_law_first : FnScope N_law_first ["_law_lengths_here", "_law_year"] (defScope s_law_first) := by wtm_at "sn"
theorem ok_law_first {f : Addr} {fd : FuncData} (F : GD K "_law_first" "_law_first" s_law_first f fd) (n_len : mg "len" = none) (n_divmod : mg "divmod" = none) (n_sum : mg "sum" = none) :
    FnOk P w K mg base (L2.CX P w) 1 f fd ["_law_lengths_here", "_law_year"] (spD K (c_law_first K)) :=
  fn_DD (t := t_law_first K) F sc_law_first (by wtm_at "ln") (by decide)
    (fun cdv A outer s H E hr => by exact
      (pss_cons (ps_asg (pe_callB call_divmod (by rfl) n_divmod (by decide +kernel) (pa_cons (pv 1) (pa_cons (pe_callB call_len (by rfl) n_len (by decide +kernel) (pa_cons (pv 0) pa_nil)) pa_nil))) (pg_tup rfl (pgs_cons (pg_name (i := 2) sc_law_first.nd rfl (by wtm_at "oi")) (pgs_cons (pg_name (i := 3) sc_law_first.nd rfl (by wtm_at "oi")) pgs_nil))))
      (pss_one (ps_ret (pe_op op_addA (pe_op op_mulA (pv 2) (pe_callB (cr_sum rfl) (by rfl) n_sum (by decide +kernel) (pa_cons (pv 0) pa_nil))) (pe_callB (cr_sum rfl) (by rfl) n_sum (by decide +kernel) (pa_cons (pe_slice sl_any (pv 0) po_none (po_some (pv 3))) pa_nil)))))))
    (d_law_first)
abbrev N_is_number : List Str := ["thing", "least", "most"]
theorem sc_is_number : FnScope N_is_number ["thing", "least", "most"] (defScope s_is_number) := by wtm_at "sn"
theorem ok_is_number {f : Addr} {fd : FuncData} (F : GD K "is_number" "is_number" s_is_number f fd) (n_int : mg "int" = none) (n_isinstance : mg "isinstance" = none) (n_bool : mg "bool" = none) :
    FnOk P w K mg base (L2.CX P w) 1 f fd ["thing", "least", "most"] (spD K (c_is_number K)) :=
  fn_DD (t := t_is_number K) F sc_is_number (by wtm_at "ln") (by decide)
    (fun cdv A outer s H E hr => by exact
      (pss_one (ps_ret (pe_and (pe_callB call_isi (by rfl) n_isinstance (by decide +kernel) (pa_cons (pv 0) (pa_cons (pe_bltn (v := .ty "int") (by rfl) n_int (by decide +kernel) rfl) pa_nil))) (pe_and (pe_not (pe_callB call_isi (by rfl) n_isinstance (by decide +kernel) (pa_cons (pv 0) (pa_cons (pe_bltn (v := .ty "bool") (by rfl) n_bool (by decide +kernel) rfl) pa_nil)))) (pe_one (pe_chain op_le op_le (pv 1) (pv 0) (pv 2))))))))
    (d_is_number)
abbrev N_are_numbers : List Str := ["thing", "long", "least", "most", "one"]
theorem sc_are_numbers : FnScope N_are_numbers ["thing", "long", "least", "most"] (defScope s_are_numbers) := by wtm_at "sn"
theorem ok_are_numbers {f : Addr} {fd : FuncData} {f_is_number : Addr} {fd_is_number : FuncData} (F : GD K "are_numbers" "are_numbers" s_are_numbers f fd) (F_is_number : FG P w K mg base 1 f_is_number fd_is_number ["thing", "least", "most"] (c_is_number K) "is_number") (n_list : mg "list" = none) (n_isinstance : mg "isinstance" = none) (n_len : mg "len" = none) (n_all : mg "all" = none) :
    FnOk P w K mg base (L2.CX P w) 2 f fd ["thing", "long", "least", "most"] (spD K (c_are_numbers K)) :=
  fn_DD (t := t_are_numbers K) F sc_are_numbers (by wtm_at "ln") (by decide)
    (fun cdv A outer s H E hr => by exact
      (pss_cons (ps_if (PW.pt (pw_or (pt_not (pt_truth (pe_callB call_isi (by rfl) n_isinstance (by decide +kernel) (pa_cons (pv 0) (pa_cons (pe_bltn (v := .ty "list") (by rfl) n_list (by decide +kernel) rfl) pa_nil))) (by intro _; rfl))) (pw_or1 (pt_not (pt_chain op_le op_le pe_int (pe_callB call_len (by rfl) n_len (by decide +kernel) (pa_cons (pv 0) pa_nil)) (pv 1)))))) (pss_one (ps_ret pe_bl)) pss_nil)
      (pss_one (ps_ret (pe_callB (cr_all rfl) (by rfl) n_all (by decide +kernel) (pa_cons (pe_lc (own := [("one", 4)]) (g := (gName 4)) (tt := tYes) (te := (tCall (spD K (c_is_number K)) [] E0 (tCons (tVar 4) (tCons (tVar 2) (tCons (tVar 3) tNil))))) (by rfl) sc_are_numbers.nd (pi_any (pv 0)) (blkOk_by (own := [("one", 4)]) (N := N_are_numbers) (sc := defScope s_are_numbers) (by decide +kernel)) (fun _ _ _ _ _ => by exact (pg_name (i := 4) sc_are_numbers.nd rfl (by wtm_at "oi"))) (fun _ _ _ _ _ => by exact pts_nil) (fun _ _ _ _ _ => by exact (pe_call F_is_number.F (hr.mono (by decide)) (by rfl) F_is_number.m F_is_number.k F_is_number.B .nil passL (pa_cons (pv 4) (pa_cons (pv 2) (pa_cons (pv 3) pa_nil)))))) pa_nil))))))
    (d_are_numbers)
abbrev N_Calendar_init : List Str := ["self", "years", "days"]
theorem sc_Calendar_init : FnScope N_Calendar_init ["self", "years"] (defScope s_Calendar_init) := by wtm_at "sn"
theorem ok_Calendar_init {f : Addr} {fd : FuncData} {f_are_numbers : Addr} {fd_are_numbers : FuncData} (F : GD K "__init__" "Calendar.__init__" s_Calendar_init f fd) (F_are_numbers : FG P w K mg base 2 f_are_numbers fd_are_numbers ["thing", "long", "least", "most"] (c_are_numbers K) "are_numbers") (x_BadCalendar : ExC K mg "BadCalendar") (n_list : mg "list" = none) (kc : KCal K) :
    FnOk P w K mg base (L2.CX P w) 3 f fd ["self", "years"] (spD K (c_Calendar_init K)) :=
  fn_DD (t := t_Calendar_init K) F sc_Calendar_init (by wtm_at "ln") (by decide)
    (fun cdv A outer s H E hr => by exact
      (pss_cons (ps_if (pt_not (pt_truth (pe_call F_are_numbers.F (hr.mono (by decide)) (by rfl) F_are_numbers.m F_are_numbers.k F_are_numbers.B .nil (by wtm_at "pk") (pa_cons (pv 1) (pa_cons pe_int (pa_cons pe_int (pa_cons pe_int pa_nil))))) (by intro _; rfl))) (pss_one (ps_raise rfl (takes_of rfl rfl rfl rfl) (pmk_own PySem.F.excBase_ValueError x_BadCalendar.xc x_BadCalendar.gc x_BadCalendar.kc (raises_own x_BadCalendar.bc x_BadCalendar.tc) (by rfl)))) pss_nil)
      (pss_cons (ps_fld (pv 0) (pe_callTy call_list_of (by rfl) n_list (by decide +kernel) (pa_cons (pv 1) pa_nil)) rfl)
      (pss_cons (ps_fld (pv 0) (pe_lst pa_nil) rfl)
      (pss_cons (ps_fld (pv 0) pe_int rfl)
      (pss_one (ps_for (passes_of rfl) rfl (pi_any (pe_fld (pv 0) rfl)) (pg_name (i := 2) sc_Calendar_init.nd rfl (by wtm_at "oi")) (pss_cons (ps_expr (pe_bm PySem.F.plainAttrs_list PySem.F.slot_list_append PySem.F.type_list_append mt_append (pe_fld (pv 0) rfl) (pa_cons (pe_fld (pv 0) rfl) pa_nil)))
      (pss_one (ps_fldaug (pv 0) (pv 2) in_add))))))))))
    (d_Calendar_init kc)
abbrev N_law_begins : List Str := ["_law_lengths_here", "_law_low", "_law_high", "_law_day", "_law_found", "_law_days"]
theorem sc_law_begins : FnScope N_law_begins ["_law_lengths_here", "_law_low", "_law_high"] (defScope s_law_begins) := by wtm_at "sn"
theorem ok_law_begins {f : Addr} {fd : FuncData} (F : GD K "_law_begins" "_law_begins" s_law_begins f fd) (n_sum : mg "sum" = none) :
    FnOk P w K mg base (L2.CX P w) 1 f fd ["_law_lengths_here", "_law_low", "_law_high"] (spD K (c_law_begins K)) :=
  fn_DD (t := t_law_begins K) F sc_law_begins (by wtm_at "ln") (by decide)
    (fun cdv A outer s H E hr => by exact
      (pss_cons (ps_set (i := 3) sc_law_begins.nd rfl (by wtm_at "oi") (pe_op op_mulA (pe_op op_fdivA (pv 1) (pe_callB (cr_sum rfl) (by rfl) n_sum (by decide +kernel) (pa_cons (pv 0) pa_nil))) (pe_callB (cr_sum rfl) (by rfl) n_sum (by decide +kernel) (pa_cons (pv 0) pa_nil))))
      (pss_cons (ps_set (i := 4) sc_law_begins.nd rfl (by wtm_at "oi") (pe_lst pa_nil))
      (pss_cons (ps_while (passes_of rfl) (pt_cmpR op_lt (pv 3) (pv 2) (nomark _)) (pss_one (ps_for (passes_of rfl) rfl (pi_any (pv 0)) (pg_name (i := 5) sc_law_begins.nd rfl (by wtm_at "oi")) (pss_cons (ps_if (pt_chain op_le op_lt (pv 1) (pv 3) (pv 2)) (pss_one (ps_expr (pe_bm PySem.F.plainAttrs_list PySem.F.slot_list_append PySem.F.type_list_append mt_append (pv 4) (pa_cons (pv 3) pa_nil)))) pss_nil)
      (pss_one (ps_aug (i := 3) sc_law_begins.nd rfl (by wtm_at "oi") (pv 5) ip_add))))))
      (pss_one (ps_ret (pv 4)))))))
    (d_law_begins)
abbrev N_law_due : List Str := ["_law_one", "_law_other", "_law_later", "_law_low", "_law_high", "_law_begins_here", "_law_day"]
theorem sc_law_due : FnScope N_law_due ["_law_one", "_law_other", "_law_later", "_law_low", "_law_high"] (defScope s_law_due) := by wtm_at "sn"
theorem ok_law_due {f : Addr} {fd : FuncData} {f_law_begins : Addr} {fd_law_begins : FuncData} (F : GD K "_law_due" "_law_due" s_law_due f fd) (F_law_begins : FG P w K mg base 1 f_law_begins fd_law_begins ["_law_lengths_here", "_law_low", "_law_high"] (c_law_begins K) "_law_begins") (n_sum : mg "sum" = none) (n_max : mg "max" = none) :
    FnOk P w K mg base (L2.CX P w) 2 f fd ["_law_one", "_law_other", "_law_later", "_law_low", "_law_high"] (spD K (c_law_due K)) :=
  fn_DD (t := t_law_due K) F sc_law_due (by wtm_at "ln") (by decide)
    (fun cdv A outer s H E hr => by exact
      (pss_cons (ps_set (i := 5) sc_law_due.nd rfl (by wtm_at "oi") (pe_call F_law_begins.F (hr.mono (by decide)) (by rfl) F_law_begins.m F_law_begins.k F_law_begins.B .nil (by wtm_at "pk") (pa_cons (pv 1) (pa_cons pe_int (pa_cons (pe_callB (cr_sum rfl) (by rfl) n_sum (by decide +kernel) (pa_cons (pv 1) pa_nil)) pa_nil)))))
      (pss_cons (ps_for (passes_of rfl) rfl (pi_any (pe_call F_law_begins.F (hr.mono (by decide)) (by rfl) F_law_begins.m F_law_begins.k F_law_begins.B .nil (by wtm_at "pk") (pa_cons (pv 0) (pa_cons (pe_callB (call_maxA rfl) (by rfl) n_max (by decide +kernel) (pa_cons (pv 3) (pa_cons (pv 2) pa_nil))) (pa_cons (pe_op op_addA (pv 4) pe_int) pa_nil))))) (pg_name (i := 6) sc_law_due.nd rfl (by wtm_at "oi")) (pss_one (ps_if (pt_cmpR op_inA (pe_op op_modA (pe_op op_sub (pv 6) (pv 2)) (pe_callB (cr_sum rfl) (by rfl) n_sum (by decide +kernel) (pa_cons (pv 1) pa_nil))) (pv 5) (by rfl)) (pss_one (ps_ret (pv 6))) pss_nil)))
      (pss_one (ps_ret (pv 4))))))
    (d_law_due)
abbrev N_law_is : List Str := ["_law_found", "_law_due_here"]
theorem sc_law_is : FnScope N_law_is ["_law_found", "_law_due_here"] (defScope s_law_is) := by wtm_at "sn"
theorem ok_law_is {f : Addr} {fd : FuncData} (F : GD K "_law_is" "_law_is" s_law_is f fd) (n_int : mg "int" = none) (n_isinstance : mg "isinstance" = none) (n_bool : mg "bool" = none) :
    FnOk P w K mg base (L2.CX P w) 1 f fd ["_law_found", "_law_due_here"] (spD K (c_law_is K)) :=
  fn_DD (t := t_law_is K) F sc_law_is (by wtm_at "ln") (by decide)
    (fun cdv A outer s H E hr => by exact
      (pss_one (ps_ret (pe_and (pe_callB call_isi (by rfl) n_isinstance (by decide +kernel) (pa_cons (pv 0) (pa_cons (pe_bltn (v := .ty "int") (by rfl) n_int (by decide +kernel) rfl) pa_nil))) (pe_and (pe_not (pe_callB call_isi (by rfl) n_isinstance (by decide +kernel) (pa_cons (pv 0) (pa_cons (pe_bltn (v := .ty "bool") (by rfl) n_bool (by decide +kernel) rfl) pa_nil)))) (pe_one (pe_cmpR (op_eqD hr.units) (pv 0) (pv 1) (nomark _))))))))
    (d_law_is)
abbrev N_need_day : List Str := ["number"]
theorem sc_need_day : FnScope N_need_day ["number"] (defScope s_need_day) := by wtm_at "sn"
theorem ok_need_day {f : Addr} {fd : FuncData} (F : GD K "need_day" "need_day" s_need_day f fd) (x_NoDay : ExC K mg "NoDay") :
    FnOk P w K mg base (L2.CX P w) 1 f fd ["number"] (spD K (c_need_day K)) :=
  fn_DD (t := t_need_day K) F sc_need_day (by wtm_at "ln") (by decide)
    (fun cdv A outer s H E hr => by exact
      (pss_one (ps_if (pt_cmpR op_lt (pv 0) pe_int (nomark _)) (pss_one (ps_raise rfl (takes_of rfl rfl rfl rfl) (pmk_own PySem.F.excBase_ValueError x_NoDay.xc x_NoDay.gc x_NoDay.kc (raises_own x_NoDay.bc x_NoDay.tc) (by rfl)))) pss_nil)))
    (d_need_day)
abbrev N_Calendar_turn : List Str := ["self"]
theorem sc_Calendar_turn : FnScope N_Calendar_turn ["self"] (defScope s_Calendar_turn) := by wtm_at "sn"
theorem ok_Calendar_turn {f : Addr} {fd : FuncData} (F : GD K "turn" "Calendar.turn" s_Calendar_turn f fd) (kc : KCal K) :
    FnOk P w K mg base (L2.CX P w) 1 f fd ["self"] (spD K (c_Calendar_turn K)) :=
  fn_DD (t := t_Calendar_turn K) F sc_Calendar_turn (by wtm_at "ln") (by decide)
    (fun cdv A outer s H E hr => by exact
      (pss_one (ps_ret (pe_fld (pv 0) rfl))))
    (d_Calendar_turn kc)
abbrev N_common_by : List Str := ["one", "other", "left", "by", "behind", "more", "often"]
theorem sc_common_by : FnScope N_common_by ["one", "other"] (defScope s_common_by) := by wtm_at "sn"
theorem ok_common_by {f : Addr} {fd : FuncData} (F : GD K "common_by" "common_by" s_common_by f fd) :
    FnOk P w K mg base (L2.CX P w) 1 f fd ["one", "other"] (spD K (c_common_by K)) :=
  fn_DD (t := t_common_by K) F sc_common_by (by wtm_at "ln") (by decide)
    (fun cdv A outer s H E hr => by exact
      (pss_cons (ps_par (i := 2) (j := 3) (by rfl) sc_common_by.nd rfl rfl (by decide) rfl rfl (pa_cons (pv 0) (pa_cons pe_int pa_nil)) (by rfl))
      (pss_cons (ps_par (i := 4) (j := 5) (by rfl) sc_common_by.nd rfl rfl (by decide) rfl rfl (pa_cons (pv 1) (pa_cons pe_int pa_nil)) (by rfl))
      (pss_cons (ps_while (passes_of rfl) (pt_cmpR (op_neD hr.units) (pv 4) pe_int (nomark _)) (pss_cons (ps_set (i := 6) sc_common_by.nd rfl (by wtm_at "oi") (pe_op op_fdivA (pv 2) (pv 4)))
      (pss_one (ps_asg (pe_tup (pa_cons (pv 4) (pa_cons (pv 5) (pa_cons (pe_op op_sub (pv 2) (pe_op op_mulA (pv 6) (pv 4))) (pa_cons (pe_op op_sub (pv 3) (pe_op op_mulA (pv 6) (pv 5))) pa_nil))))) (pg_tup rfl (pgs_cons (pg_name (i := 2) sc_common_by.nd rfl (by wtm_at "oi")) (pgs_cons (pg_name (i := 3) sc_common_by.nd rfl (by wtm_at "oi")) (pgs_cons (pg_name (i := 4) sc_common_by.nd rfl (by wtm_at "oi")) (pgs_cons (pg_name (i := 5) sc_common_by.nd rfl (by wtm_at "oi")) pgs_nil)))))))))
      (pss_one (ps_ret (pe_tup (pa_cons (pv 2) (pa_cons (pv 3) pa_nil)))))))))
    (d_common_by)
abbrev N_Calendar_years : List Str := ["self"]
theorem sc_Calendar_years : FnScope N_Calendar_years ["self"] (defScope s_Calendar_years) := by wtm_at "sn"
theorem ok_Calendar_years {f : Addr} {fd : FuncData} (F : GD K "years" "Calendar.years" s_Calendar_years f fd) (n_list : mg "list" = none) (kc : KCal K) :
    FnOk P w K mg base (L2.CX P w) 1 f fd ["self"] (spD K (c_Calendar_years K)) :=
  fn_DD (t := t_Calendar_years K) F sc_Calendar_years (by wtm_at "ln") (by decide)
    (fun cdv A outer s H E hr => by exact
      (pss_one (ps_ret (pe_callTy call_list_of (by rfl) n_list (by decide +kernel) (pa_cons (pe_fld (pv 0) rfl) pa_nil)))))
    (d_Calendar_years kc)
abbrev N_Calendar_first : List Str := ["self", "year", "turns", "place"]
theorem sc_Calendar_first : FnScope N_Calendar_first ["self", "year"] (defScope s_Calendar_first) := by wtm_at "sn"
theorem ok_Calendar_first {f : Addr} {fd : FuncData} {f_need_day : Addr} {fd_need_day : FuncData} (F : GD K "first" "Calendar.first" s_Calendar_first f fd) (F_need_day : FG P w K mg base 1 f_need_day fd_need_day ["number"] (c_need_day K) "need_day") (n_len : mg "len" = none) (n_divmod : mg "divmod" = none) (kc : KCal K) :
    FnOk P w K mg base (L2.CX P w) 2 f fd ["self", "year"] (spD K (c_Calendar_first K)) :=
  fn_DD (t := t_Calendar_first K) F sc_Calendar_first (by wtm_at "ln") (by decide)
    (fun cdv A outer s H E hr => by exact
      (pss_cons (ps_expr (pe_call F_need_day.F (hr.mono (by decide)) (by rfl) F_need_day.m F_need_day.k F_need_day.B .nil (by wtm_at "pk") (pa_cons (pv 1) pa_nil)))
      (pss_cons (ps_asg (pe_callB call_divmod (by rfl) n_divmod (by decide +kernel) (pa_cons (pv 1) (pa_cons (pe_callB call_len (by rfl) n_len (by decide +kernel) (pa_cons (pe_fld (pv 0) rfl) pa_nil)) pa_nil))) (pg_tup rfl (pgs_cons (pg_name (i := 2) sc_Calendar_first.nd rfl (by wtm_at "oi")) (pgs_cons (pg_name (i := 3) sc_Calendar_first.nd rfl (by wtm_at "oi")) pgs_nil))))
      (pss_one (ps_ret (pe_op op_addA (pe_op op_mulA (pv 2) (pe_fld (pv 0) rfl)) (pe_ix ix_seq (pe_fld (pv 0) rfl) (pv 3) (fun _ _ => rfl))))))))
    (d_Calendar_first kc)
abbrev N_meeting : List Str := ["one", "other", "later", "day", "turn", "span", "common", "by", "found", "year", "begin", "number", "gap", "low"]
theorem sc_meeting : FnScope N_meeting ["one", "other", "later", "day"] (defScope s_meeting) := by wtm_at "sn"
theorem ok_meeting {f : Addr} {fd : FuncData} {f_need_day f_Calendar_turn f_common_by f_Calendar_years f_Calendar_first : Addr} {fd_need_day fd_Calendar_turn fd_common_by fd_Calendar_years fd_Calendar_first : FuncData} (F : GD K "meeting" "meeting" s_meeting f fd) (F_need_day : FG P w K mg base 1 f_need_day fd_need_day ["number"] (c_need_day K) "need_day") (F_Calendar_turn : FQ P w K mg base 1 f_Calendar_turn fd_Calendar_turn ["self"] (c_Calendar_turn K)) (F_common_by : FG P w K mg base 1 f_common_by fd_common_by ["one", "other"] (c_common_by K) "common_by") (F_Calendar_years : FQ P w K mg base 1 f_Calendar_years fd_Calendar_years ["self"] (c_Calendar_years K)) (F_Calendar_first : FQ P w K mg base 2 f_Calendar_first fd_Calendar_first ["self", "year"] (c_Calendar_first K)) (cl_Calendar : Cls K (He.ga K "Calendar")) (mm_Calendar_turn : Meth K (He.ga K "Calendar") "turn" f_Calendar_turn) (mm_Calendar_years : Meth K (He.ga K "Calendar") "years" f_Calendar_years) (n_len : mg "len" = none) (n_range : mg "range" = none) (mm_Calendar_first : Meth K (He.ga K "Calendar") "first" f_Calendar_first) (n_max : mg "max" = none) (n_min : mg "min" = none) :
    FnOk P w K mg base (L2.CX P w) 3 f fd ["one", "other", "later", "day"] (spD K (c_meeting K)) :=
  fn_DD (t := t_meeting K) F sc_meeting (by wtm_at "ln") (by decide)
    (fun cdv A outer s H E hr => by exact
      (pss_cons (ps_expr (pe_call F_need_day.F (hr.mono (by decide)) (by rfl) F_need_day.m F_need_day.k F_need_day.B .nil (by wtm_at "pk") (pa_cons (pv 2) pa_nil)))
      (pss_cons (ps_expr (pe_call F_need_day.F (hr.mono (by decide)) (by rfl) F_need_day.m F_need_day.k F_need_day.B .nil (by wtm_at "pk") (pa_cons (pv 3) pa_nil)))
      (pss_cons (ps_asg (pe_tup (pa_cons (pe_meth0 (pv 0) cl_Calendar mm_Calendar_turn F_Calendar_turn.F (hr.mono (by decide)) F_Calendar_turn.B .nil (by wtm_at "pk")) (pa_cons (pe_meth0 (pv 1) cl_Calendar mm_Calendar_turn F_Calendar_turn.F (hr.mono (by decide)) F_Calendar_turn.B .nil (by wtm_at "pk")) pa_nil))) (pg_tup rfl (pgs_cons (pg_name (i := 4) sc_meeting.nd rfl (by wtm_at "oi")) (pgs_cons (pg_name (i := 5) sc_meeting.nd rfl (by wtm_at "oi")) pgs_nil))))
      (pss_cons (ps_asg (pe_call F_common_by.F (hr.mono (by decide)) (by rfl) F_common_by.m F_common_by.k F_common_by.B .nil (by wtm_at "pk") (pa_cons (pv 4) (pa_cons (pv 5) pa_nil))) (pg_tup rfl (pgs_cons (pg_name (i := 6) sc_meeting.nd rfl (by wtm_at "oi")) (pgs_cons (pg_name (i := 7) sc_meeting.nd rfl (by wtm_at "oi")) pgs_nil))))
      (pss_cons (ps_set (i := 8) sc_meeting.nd rfl (by wtm_at "oi") (pe_lst pa_nil))
      (pss_cons (ps_for (passes_of rfl) rfl (pi_range1 (by rfl) n_range (pa_cons (pe_callB call_len (by rfl) n_len (by decide +kernel) (pa_cons (pe_meth0 (pv 0) cl_Calendar mm_Calendar_years F_Calendar_years.F (hr.mono (by decide)) F_Calendar_years.B .nil (by wtm_at "pk")) pa_nil)) pa_nil)) (pg_name (i := 9) sc_meeting.nd rfl (by wtm_at "oi")) (pss_cons (ps_set (i := 10) sc_meeting.nd rfl (by wtm_at "oi") (pe_meth (pv 0) cl_Calendar mm_Calendar_first F_Calendar_first.F (hr.mono (by decide)) F_Calendar_first.B .nil (by wtm_at "pk") (pa_cons (pv 9) pa_nil)))
      (pss_one (ps_for (passes_of rfl) rfl (pi_range1 (by rfl) n_range (pa_cons (pe_callB call_len (by rfl) n_len (by decide +kernel) (pa_cons (pe_meth0 (pv 1) cl_Calendar mm_Calendar_years F_Calendar_years.F (hr.mono (by decide)) F_Calendar_years.B .nil (by wtm_at "pk")) pa_nil)) pa_nil)) (pg_name (i := 11) sc_meeting.nd rfl (by wtm_at "oi")) (pss_cons (ps_set (i := 12) sc_meeting.nd rfl (by wtm_at "oi") (pe_op op_sub (pe_op op_addA (pv 2) (pe_meth (pv 1) cl_Calendar mm_Calendar_first F_Calendar_first.F (hr.mono (by decide)) F_Calendar_first.B .nil (by wtm_at "pk") (pa_cons (pv 11) pa_nil))) (pv 10)))
      (pss_one (ps_if (pt_cmpR (op_eqD hr.units) (pe_op op_modA (pv 12) (pv 6)) pe_int (nomark _)) (pss_one (ps_expr (pe_bm PySem.F.plainAttrs_list PySem.F.slot_list_append PySem.F.type_list_append mt_append (pv 8) (pa_cons (pe_op op_addA (pv 10) (pe_op op_mulA (pv 4) (pe_op op_modA (pe_op op_mulA (pe_op op_fdivA (pv 12) (pv 6)) (pv 7)) (pe_op op_fdivA (pv 5) (pv 6))))) pa_nil)))) pss_nil)))))))
      (pss_cons (ps_set (i := 13) sc_meeting.nd rfl (by wtm_at "oi") (pe_callB (call_maxA rfl) (by rfl) n_max (by decide +kernel) (pa_cons (pv 3) (pa_cons (pv 2) pa_nil))))
      (pss_one (ps_ret (pe_callBK (cr_minD rfl) (by rfl) n_min (by decide +kernel) (pa_cons (pe_lc (own := [("begin", 10)]) (g := (gName 10)) (tt := tYes) (te := (tOp (rAddA K) (tVar 13) (tOp rModA (tOp (rI0 fun i j => .int (i - j)) (tVar 10) (tVar 13)) (tOp rMulA (tOp rFdivA (tVar 4) (tVar 6)) (tVar 5))))) (by rfl) sc_meeting.nd (pi_any (pv 8)) (blkOk_by (own := [("begin", 10)]) (N := N_meeting) (sc := defScope s_meeting) (by decide +kernel)) (fun _ _ _ _ _ => by exact (pg_name (i := 10) sc_meeting.nd rfl (by wtm_at "oi"))) (fun _ _ _ _ _ => by exact pts_nil) (fun _ _ _ _ _ => by exact (pe_op op_addA (pv 13) (pe_op op_modA (pe_op op_sub (pv 10) (pv 13)) (pe_op op_mulA (pe_op op_fdivA (pv 4) (pv 6)) (pv 5)))))) pa_nil) (pk_cons pe_non pk_nil))))))))))))
    (d_meeting)
abbrev N_law_round_right : List Str := ["_law_one", "_law_other", "_law_hold", "_law_year", "_law_high", "_law_number", "_law_later", "_law_low", "_law_first_here", "_law_second", "_law_due_here", "_law_again"]
theorem sc_law_round_right : FnScope N_law_round_right ["_law_one", "_law_other", "_law_hold"] (defScope s_law_round_right) := by wtm_at "sn"
theorem ok_law_round_right {f : Addr} {fd : FuncData} {f_law_far f_law_first f_law_draw f_Calendar_init f_law_due f_law_is f_meeting : Addr} {fd_law_far fd_law_first fd_law_draw fd_Calendar_init fd_law_due fd_law_is fd_meeting : FuncData} (F : GD K "_law_round_right" "_law_round_right" s_law_round_right f fd) (F_law_far : FG P w K mg base 2 f_law_far fd_law_far ["_law_hold"] (c_law_far K) "_law_far") (F_law_first : FG P w K mg base 1 f_law_first fd_law_first ["_law_lengths_here", "_law_year"] (c_law_first K) "_law_first") (F_law_draw : FG P w K mg base 1 f_law_draw fd_law_draw ["_law_hold", "_law_many"] (c_law_draw K) "_law_draw") (F_Calendar_init : FQ P w K mg base 3 f_Calendar_init fd_Calendar_init ["self", "years"] (c_Calendar_init K)) (M_Calendar : Mk K (He.ga K "Calendar") f_Calendar_init) (F_law_due : FG P w K mg base 2 f_law_due fd_law_due ["_law_one", "_law_other", "_law_later", "_law_low", "_law_high"] (c_law_due K) "_law_due") (F_law_is : FG P w K mg base 1 f_law_is fd_law_is ["_law_found", "_law_due_here"] (c_law_is K) "_law_is") (F_meeting : FG P w K mg base 3 f_meeting fd_meeting ["one", "other", "later", "day"] (c_meeting K) "meeting") (n_sum : mg "sum" = none) (n_len : mg "len" = none) (n_max : mg "max" = none) (n_list : mg "list" = none) (g_Calendar : mg "Calendar" = some (.ref (He.ga K "Calendar"))) :
    FnOk P w K mg base (L2.CX P w) 5 f fd ["_law_one", "_law_other", "_law_hold"] (spD K (c_law_round_right K)) :=
  fn_DD (t := t_law_round_right K) F sc_law_round_right (by wtm_at "ln") (by decide)
    (fun cdv A outer s H E hr => by exact
      (pss_cons (ps_set (i := 3) sc_law_round_right.nd rfl (by wtm_at "oi") (pe_call F_law_far.F (hr.mono (by decide)) (by rfl) F_law_far.m F_law_far.k F_law_far.B .nil (by wtm_at "pk") (pa_cons (pv 2) pa_nil)))
      (pss_cons (ps_set (i := 4) sc_law_round_right.nd rfl (by wtm_at "oi") (pe_call F_law_first.F (hr.mono (by decide)) (by rfl) F_law_first.m F_law_first.k F_law_first.B .nil (by wtm_at "pk") (pa_cons (pv 0) (pa_cons (pv 3) pa_nil))))
      (pss_cons (ps_set (i := 5) sc_law_round_right.nd rfl (by wtm_at "oi") (pe_op op_modA (pe_call F_law_far.F (hr.mono (by decide)) (by rfl) F_law_far.m F_law_far.k F_law_far.B .nil (by wtm_at "pk") (pa_cons (pv 2) pa_nil)) (pe_op op_addA (pe_op op_mulA (pe_op op_fdivA (pv 4) (pe_callB (cr_sum rfl) (by rfl) n_sum (by decide +kernel) (pa_cons (pv 1) pa_nil))) (pe_callB call_len (by rfl) n_len (by decide +kernel) (pa_cons (pv 1) pa_nil))) pe_int)))
      (pss_cons (ps_set (i := 6) sc_law_round_right.nd rfl (by wtm_at "oi") (pe_op op_sub (pv 4) (pe_call F_law_first.F (hr.mono (by decide)) (by rfl) F_law_first.m F_law_first.k F_law_first.B .nil (by wtm_at "pk") (pa_cons (pv 1) (pa_cons (pv 5) pa_nil)))))
      (pss_cons (ps_set (i := 7) sc_law_round_right.nd rfl (by wtm_at "oi") (pe_callB (call_maxA rfl) (by rfl) n_max (by decide +kernel) (pa_cons pe_int (pa_cons (pe_op op_sub (pe_call F_law_first.F (hr.mono (by decide)) (by rfl) F_law_first.m F_law_first.k F_law_first.B .nil (by wtm_at "pk") (pa_cons (pv 0) (pa_cons (pe_callB (call_maxA rfl) (by rfl) n_max (by decide +kernel) (pa_cons pe_int (pa_cons (pe_op op_sub (pv 3) (pe_call F_law_draw.F (hr.mono (by decide)) (by rfl) F_law_draw.m F_law_draw.k F_law_draw.B .nil (by wtm_at "pk") (pa_cons (pv 2) (pa_cons pe_int pa_nil)))) pa_nil))) pa_nil))) (pe_call F_law_draw.F (hr.mono (by decide)) (by rfl) F_law_draw.m F_law_draw.k F_law_draw.B .nil (by wtm_at "pk") (pa_cons (pv 2) (pa_cons pe_int pa_nil)))) pa_nil))))
      (pss_cons (ps_par (i := 8) (j := 9) (by rfl) sc_law_round_right.nd rfl rfl (by decide) rfl rfl (pa_cons (pe_make M_Calendar F_Calendar_init.F (hr.mono (by decide)) (by rfl) g_Calendar F_Calendar_init.B .nil (by wtm_at "pk") (pa_cons (pe_callTy call_list_of (by rfl) n_list (by decide +kernel) (pa_cons (pv 0) pa_nil)) pa_nil)) (pa_cons (pe_make M_Calendar F_Calendar_init.F (hr.mono (by decide)) (by rfl) g_Calendar F_Calendar_init.B .nil (by wtm_at "pk") (pa_cons (pe_callTy call_list_of (by rfl) n_list (by decide +kernel) (pa_cons (pv 1) pa_nil)) pa_nil)) pa_nil)) (by rfl))
      (pss_cons (ps_set (i := 10) sc_law_round_right.nd rfl (by wtm_at "oi") (pe_call F_law_due.F (hr.mono (by decide)) (by rfl) F_law_due.m F_law_due.k F_law_due.B .nil (by wtm_at "pk") (pa_cons (pv 0) (pa_cons (pv 1) (pa_cons (pv 6) (pa_cons (pv 7) (pa_cons (pv 4) pa_nil)))))))
      (pss_cons (ps_if (pt_not (pt_truth (pe_call F_law_is.F (hr.mono (by decide)) (by rfl) F_law_is.m F_law_is.k F_law_is.B .nil (by wtm_at "pk") (pa_cons (pe_call F_meeting.F (hr.mono (by decide)) (by rfl) F_meeting.m F_meeting.k F_meeting.B .nil (by wtm_at "pk") (pa_cons (pv 8) (pa_cons (pv 9) (pa_cons (pv 6) (pa_cons (pv 7) pa_nil))))) (pa_cons (pv 10) pa_nil))) (by intro _; rfl))) (pss_one (ps_ret pe_bl)) pss_nil)
      (pss_cons (ps_set (i := 11) sc_law_round_right.nd rfl (by wtm_at "oi") (pe_op op_addA (pv 4) (pe_op op_mulA (pe_op op_mulA (pe_callB (cr_sum rfl) (by rfl) n_sum (by decide +kernel) (pa_cons (pv 0) pa_nil)) (pe_callB (cr_sum rfl) (by rfl) n_sum (by decide +kernel) (pa_cons (pv 1) pa_nil))) (pe_call F_law_far.F (hr.mono (by decide)) (by rfl) F_law_far.m F_law_far.k F_law_far.B .nil (by wtm_at "pk") (pa_cons (pv 2) pa_nil)))))
      (pss_one (ps_ret (pe_call F_law_is.F (hr.mono (by decide)) (by rfl) F_law_is.m F_law_is.k F_law_is.B .nil (by wtm_at "pk") (pa_cons (pe_call F_meeting.F (hr.mono (by decide)) (by rfl) F_meeting.m F_meeting.k F_meeting.B .nil (by wtm_at "pk") (pa_cons (pv 8) (pa_cons (pv 9) (pa_cons (pv 6) (pa_cons (pv 11) pa_nil))))) (pa_cons (pv 11) pa_nil)))))))))))))))
    (d_law_round_right)
abbrev N_law_wide_right : List Str := ["_law_one", "_law_other", "_law_later", "_law_day", "_law_low", "_law_begins_here", "_law_number", "_law_days", "_law_found"]
theorem sc_law_wide_right : FnScope N_law_wide_right ["_law_one", "_law_other", "_law_later", "_law_day"] (defScope s_law_wide_right) := by wtm_at "sn"
theorem ok_law_wide_right {f : Addr} {fd : FuncData} {f_law_begins f_meeting f_Calendar_init f_law_is : Addr} {fd_law_begins fd_meeting fd_Calendar_init fd_law_is : FuncData} (F : GD K "_law_wide_right" "_law_wide_right" s_law_wide_right f fd) (F_law_begins : FG P w K mg base 1 f_law_begins fd_law_begins ["_law_lengths_here", "_law_low", "_law_high"] (c_law_begins K) "_law_begins") (F_meeting : FG P w K mg base 3 f_meeting fd_meeting ["one", "other", "later", "day"] (c_meeting K) "meeting") (F_Calendar_init : FQ P w K mg base 3 f_Calendar_init fd_Calendar_init ["self", "years"] (c_Calendar_init K)) (M_Calendar : Mk K (He.ga K "Calendar") f_Calendar_init) (F_law_is : FG P w K mg base 1 f_law_is fd_law_is ["_law_found", "_law_due_here"] (c_law_is K) "_law_is") (n_max : mg "max" = none) (n_sum : mg "sum" = none) (n_list : mg "list" = none) (g_Calendar : mg "Calendar" = some (.ref (He.ga K "Calendar"))) :
    FnOk P w K mg base (L2.CX P w) 5 f fd ["_law_one", "_law_other", "_law_later", "_law_day"] (spD K (c_law_wide_right K)) :=
  fn_DD (t := t_law_wide_right K) F sc_law_wide_right (by wtm_at "ln") (by decide)
    (fun cdv A outer s H E hr => by exact
      (pss_cons (ps_set (i := 4) sc_law_wide_right.nd rfl (by wtm_at "oi") (pe_callB (call_maxA rfl) (by rfl) n_max (by decide +kernel) (pa_cons (pv 3) (pa_cons (pv 2) pa_nil))))
      (pss_cons (ps_set (i := 5) sc_law_wide_right.nd rfl (by wtm_at "oi") pe_dnewK)
      (pss_cons (ps_for (passes_of rfl) rfl (pi_any (pe_call F_law_begins.F (hr.mono (by decide)) (by rfl) F_law_begins.m F_law_begins.k F_law_begins.B .nil (by wtm_at "pk") (pa_cons (pv 1) (pa_cons (pe_op op_sub (pv 4) (pv 2)) (pa_cons (pe_op op_addA (pe_op op_sub (pv 4) (pv 2)) (pe_op op_mulA (pe_callB (cr_sum rfl) (by rfl) n_sum (by decide +kernel) (pa_cons (pv 0) pa_nil)) (pe_callB (cr_sum rfl) (by rfl) n_sum (by decide +kernel) (pa_cons (pv 1) pa_nil)))) pa_nil))))) (pg_name (i := 6) sc_law_wide_right.nd rfl (by wtm_at "oi")) (pss_one (ps_dput (hu_of hr) (pv 5) (pe_op op_addA (pv 2) (pv 6)) pe_bl rfl)))
      (pss_cons (by first | exact ps_setLc (i := 7) (own := [("_law_number", 6)]) (g := (gName 6)) (tt := (tB (tDIn (tVar 6) (tVar 5)))) (te := (tVar 6)) (by rfl) sc_law_wide_right.nd rfl rfl (sw_true rfl rfl rfl (by decide +kernel)) (pi_any (pe_call F_law_begins.F (hr.mono (by decide)) (by rfl) F_law_begins.m F_law_begins.k F_law_begins.B .nil (by wtm_at "pk") (pa_cons (pv 0) (pa_cons (pv 4) (pa_cons (pe_op op_addA (pv 4) (pe_op op_mulA (pe_callB (cr_sum rfl) (by rfl) n_sum (by decide +kernel) (pa_cons (pv 0) pa_nil)) (pe_callB (cr_sum rfl) (by rfl) n_sum (by decide +kernel) (pa_cons (pv 1) pa_nil)))) pa_nil))))) (blkOk_by (own := [("_law_number", 6)]) (N := N_law_wide_right) (sc := defScope s_law_wide_right) (by decide +kernel)) (fun _ _ _ _ _ => by exact (pg_name (i := 6) sc_law_wide_right.nd rfl (by wtm_at "oi"))) (fun _ _ _ _ _ => by exact (pts_one (pt_cmp (pc_din (hu_of hr) (pv 6) (pv 5)) rfl))) (fun _ _ _ _ _ => by exact (pv 6)) | exact ps_set (i := 7) sc_law_wide_right.nd rfl (by wtm_at "oi") (pe_lc (own := [("_law_number", 6)]) (g := (gName 6)) (tt := (tB (tDIn (tVar 6) (tVar 5)))) (te := (tVar 6)) (by rfl) sc_law_wide_right.nd (pi_any (pe_call F_law_begins.F (hr.mono (by decide)) (by rfl) F_law_begins.m F_law_begins.k F_law_begins.B .nil (by wtm_at "pk") (pa_cons (pv 0) (pa_cons (pv 4) (pa_cons (pe_op op_addA (pv 4) (pe_op op_mulA (pe_callB (cr_sum rfl) (by rfl) n_sum (by decide +kernel) (pa_cons (pv 0) pa_nil)) (pe_callB (cr_sum rfl) (by rfl) n_sum (by decide +kernel) (pa_cons (pv 1) pa_nil)))) pa_nil))))) (blkOk_by (own := [("_law_number", 6)]) (N := N_law_wide_right) (sc := defScope s_law_wide_right) (by decide +kernel)) (fun _ _ _ _ _ => by exact (pg_name (i := 6) sc_law_wide_right.nd rfl (by wtm_at "oi"))) (fun _ _ _ _ _ => by exact (pts_one (pt_cmp (pc_din (hu_of hr) (pv 6) (pv 5)) rfl))) (fun _ _ _ _ _ => by exact (pv 6))))
      (pss_cons (ps_set (i := 8) sc_law_wide_right.nd rfl (by wtm_at "oi") (pe_call F_meeting.F (hr.mono (by decide)) (by rfl) F_meeting.m F_meeting.k F_meeting.B .nil (by wtm_at "pk") (pa_cons (pe_make M_Calendar F_Calendar_init.F (hr.mono (by decide)) (by rfl) g_Calendar F_Calendar_init.B .nil (by wtm_at "pk") (pa_cons (pe_callTy call_list_of (by rfl) n_list (by decide +kernel) (pa_cons (pv 0) pa_nil)) pa_nil)) (pa_cons (pe_make M_Calendar F_Calendar_init.F (hr.mono (by decide)) (by rfl) g_Calendar F_Calendar_init.B .nil (by wtm_at "pk") (pa_cons (pe_callTy call_list_of (by rfl) n_list (by decide +kernel) (pa_cons (pv 1) pa_nil)) pa_nil)) (pa_cons (pv 2) (pa_cons (pv 3) pa_nil))))))
      (pss_one (ps_ret (pe_ifExp (pt_cmpR (op_eqD hr.units) (pv 7) (pe_lst pa_nil) (nomark _)) (pe_cmp (pc_isN (pv 8)) rfl) (pe_call F_law_is.F (hr.mono (by decide)) (by rfl) F_law_is.m F_law_is.k F_law_is.B .nil (by wtm_at "pk") (pa_cons (pv 8) (pa_cons (pe_ix ix_seq (pv 7) pe_int (fun _ _ => rfl)) pa_nil))))))))))))
    (d_law_wide_right)
abbrev N_law_one_way : List Str := ["_law_hold", "_law_times", "_law_most", "_law_many", "_law_less", "_law_lengths_here", "_law_k", "_law_spot", "_law_more"]
theorem sc_law_one_way : FnScope N_law_one_way ["_law_hold", "_law_times"] (defScope s_law_one_way) := by wtm_at "sn"
theorem ok_law_one_way {f : Addr} {fd : FuncData} {f_law_draw : Addr} {fd_law_draw : FuncData} (F : GD K "_law_one_way" "_law_one_way" s_law_one_way f fd) (F_law_draw : FG P w K mg base 1 f_law_draw fd_law_draw ["_law_hold", "_law_many"] (c_law_draw K) "_law_draw") (n_range : mg "range" = none) (n_sum : mg "sum" = none) :
    FnOk P w K mg base (L2.CX P w) 2 f fd ["_law_hold", "_law_times"] (spD K (c_law_one_way K)) :=
  fn_DD (t := t_law_one_way K) F sc_law_one_way (by wtm_at "ln") (by decide)
    (fun cdv A outer s H E hr => by exact
      (pss_cons (ps_set (i := 2) sc_law_one_way.nd rfl (by wtm_at "oi") (pe_op op_sub (pe_op op_fdivA pe_int (pv 1)) pe_int))
      (pss_cons (ps_set (i := 3) sc_law_one_way.nd rfl (by wtm_at "oi") (pe_ix ix_seq (pe_lst (pa_cons pe_int (pa_cons pe_int (pa_cons (pe_op op_addA pe_int (pe_call F_law_draw.F (hr.mono (by decide)) (by rfl) F_law_draw.m F_law_draw.k F_law_draw.B .nil (by wtm_at "pk") (pa_cons (pv 0) (pa_cons pe_int pa_nil)))) pa_nil)))) (pe_call F_law_draw.F (hr.mono (by decide)) (by rfl) F_law_draw.m F_law_draw.k F_law_draw.B .nil (by wtm_at "pk") (pa_cons (pv 0) (pa_cons pe_int pa_nil))) (fun _ _ => rfl)))
      (pss_cons (ps_set (i := 4) sc_law_one_way.nd rfl (by wtm_at "oi") (pe_ix ix_seq (pe_lst (pa_cons pe_int (pa_cons pe_int (pa_cons (pv 2) pa_nil)))) (pe_call F_law_draw.F (hr.mono (by decide)) (by rfl) F_law_draw.m F_law_draw.k F_law_draw.B .nil (by wtm_at "pk") (pa_cons (pv 0) (pa_cons pe_int pa_nil))) (fun _ _ => rfl)))
      (pss_cons (by first | exact ps_setLc (i := 5) (own := [("_law_k", 6)]) (g := (gName 6)) (tt := tYes) (te := (tOp rMulA (tVar 1) (tOp (rI0 fun i j => .int (i - j)) (tVar 2) (tCall (spD K (c_law_draw K)) [] E0 (tCons (tVar 0) (tCons (tVar 4) tNil)))))) (by rfl) sc_law_one_way.nd rfl rfl (sw_true rfl rfl rfl (by decide +kernel)) (pi_range1 (by rfl) n_range (pa_cons (pv 3) pa_nil)) (blkOk_by (own := [("_law_k", 6)]) (N := N_law_one_way) (sc := defScope s_law_one_way) (by decide +kernel)) (fun _ _ _ _ _ => by exact (pg_name (i := 6) sc_law_one_way.nd rfl (by wtm_at "oi"))) (fun _ _ _ _ _ => by exact pts_nil) (fun _ _ _ _ _ => by exact (pe_op op_mulA (pv 1) (pe_op op_sub (pv 2) (pe_call F_law_draw.F (hr.mono (by decide)) (by rfl) F_law_draw.m F_law_draw.k F_law_draw.B .nil passL (pa_cons (pv 0) (pa_cons (pv 4) pa_nil)))))) | exact ps_set (i := 5) sc_law_one_way.nd rfl (by wtm_at "oi") (pe_lc (own := [("_law_k", 6)]) (g := (gName 6)) (tt := tYes) (te := (tOp rMulA (tVar 1) (tOp (rI0 fun i j => .int (i - j)) (tVar 2) (tCall (spD K (c_law_draw K)) [] E0 (tCons (tVar 0) (tCons (tVar 4) tNil)))))) (by rfl) sc_law_one_way.nd (pi_range1 (by rfl) n_range (pa_cons (pv 3) pa_nil)) (blkOk_by (own := [("_law_k", 6)]) (N := N_law_one_way) (sc := defScope s_law_one_way) (by decide +kernel)) (fun _ _ _ _ _ => by exact (pg_name (i := 6) sc_law_one_way.nd rfl (by wtm_at "oi"))) (fun _ _ _ _ _ => by exact pts_nil) (fun _ _ _ _ _ => by exact (pe_op op_mulA (pv 1) (pe_op op_sub (pv 2) (pe_call F_law_draw.F (hr.mono (by decide)) (by rfl) F_law_draw.m F_law_draw.k F_law_draw.B .nil passL (pa_cons (pv 0) (pa_cons (pv 4) pa_nil))))))))
      (pss_cons (ps_set (i := 7) sc_law_one_way.nd rfl (by wtm_at "oi") (pe_call F_law_draw.F (hr.mono (by decide)) (by rfl) F_law_draw.m F_law_draw.k F_law_draw.B .nil (by wtm_at "pk") (pa_cons (pv 0) (pa_cons (pe_op op_sub (pv 3) pe_int) pa_nil))))
      (pss_cons (ps_set (i := 8) sc_law_one_way.nd rfl (by wtm_at "oi") (pe_op op_addA pe_int (pe_call F_law_draw.F (hr.mono (by decide)) (by rfl) F_law_draw.m F_law_draw.k F_law_draw.B .nil (by wtm_at "pk") (pa_cons (pv 0) (pa_cons (pe_op op_sub (pv 1) pe_int) pa_nil)))))
      (pss_cons (ps_augS (pv 5) (pv 7) get_list (pv 8) ip_add set_list)
      (pss_cons (ps_augS (pv 5) (pe_op op_addA (pv 7) pe_int) get_list (pe_op op_sub (pv 1) (pv 8)) ip_add set_list)
      (pss_one (ps_ret (pe_tup (pa_cons (pv 5) (pa_cons (pv 8) (pa_cons (pe_callB (cr_sum rfl) (by rfl) n_sum (by decide +kernel) (pa_cons (pe_slice sl_any (pv 5) po_none (po_some (pe_op op_addA (pv 7) pe_int))) pa_nil)) pa_nil)))))))))))))))
    (d_law_one_way)
abbrev N_law_lone_right : List Str := ["_law_hold", "_law_times", "_law_way", "_law_other", "_law_more", "_law_mark", "_law_days", "_law_later", "_law_day", "_law_begin", "_law_due_here", "_law_k", "_law_found"]
theorem sc_law_lone_right : FnScope N_law_lone_right ["_law_hold"] (defScope s_law_lone_right) := by wtm_at "sn"
theorem ok_law_lone_right {f : Addr} {fd : FuncData} {f_law_draw f_law_one_way f_law_far f_meeting f_Calendar_init f_law_is : Addr} {fd_law_draw fd_law_one_way fd_law_far fd_meeting fd_Calendar_init fd_law_is : FuncData} (F : GD K "_law_lone_right" "_law_lone_right" s_law_lone_right f fd) (F_law_draw : FG P w K mg base 1 f_law_draw fd_law_draw ["_law_hold", "_law_many"] (c_law_draw K) "_law_draw") (F_law_one_way : FG P w K mg base 2 f_law_one_way fd_law_one_way ["_law_hold", "_law_times"] (c_law_one_way K) "_law_one_way") (F_law_far : FG P w K mg base 2 f_law_far fd_law_far ["_law_hold"] (c_law_far K) "_law_far") (F_meeting : FG P w K mg base 3 f_meeting fd_meeting ["one", "other", "later", "day"] (c_meeting K) "meeting") (F_Calendar_init : FQ P w K mg base 3 f_Calendar_init fd_Calendar_init ["self", "years"] (c_Calendar_init K)) (M_Calendar : Mk K (He.ga K "Calendar") f_Calendar_init) (F_law_is : FG P w K mg base 1 f_law_is fd_law_is ["_law_found", "_law_due_here"] (c_law_is K) "_law_is") (n_sum : mg "sum" = none) (n_range : mg "range" = none) (n_list : mg "list" = none) (g_Calendar : mg "Calendar" = some (.ref (He.ga K "Calendar"))) (kc : KCal K) :
    FnOk P w K mg base (L2.CX P w) 5 f fd ["_law_hold"] (spD K (c_law_lone_right K)) :=
  fn_DD (t := t_law_lone_right K) F sc_law_lone_right (by wtm_at "ln") (by decide)
    (fun cdv A outer s H E hr => by exact
      (pss_cons (ps_set (i := 1) sc_law_lone_right.nd rfl (by wtm_at "oi") (pe_op op_addA pe_int (pe_call F_law_draw.F (hr.mono (by decide)) (by rfl) F_law_draw.m F_law_draw.k F_law_draw.B .nil (by wtm_at "pk") (pa_cons (pv 0) (pa_cons pe_int pa_nil)))))
      (pss_cons (ps_set (i := 2) sc_law_lone_right.nd rfl (by wtm_at "oi") (pe_call F_law_draw.F (hr.mono (by decide)) (by rfl) F_law_draw.m F_law_draw.k F_law_draw.B .nil (by wtm_at "pk") (pa_cons (pv 0) (pa_cons pe_int pa_nil))))
      (pss_cons (ps_asg (pe_call F_law_one_way.F (hr.mono (by decide)) (by rfl) F_law_one_way.m F_law_one_way.k F_law_one_way.B .nil (by wtm_at "pk") (pa_cons (pv 0) (pa_cons (pv 1) pa_nil))) (pg_tup rfl (pgs_cons (pg_name (i := 3) sc_law_lone_right.nd rfl (by wtm_at "oi")) (pgs_cons (pg_name (i := 4) sc_law_lone_right.nd rfl (by wtm_at "oi")) (pgs_cons (pg_name (i := 5) sc_law_lone_right.nd rfl (by wtm_at "oi")) pgs_nil)))))
      (pss_cons (ps_set (i := 6) sc_law_lone_right.nd rfl (by wtm_at "oi") (pe_op op_mulA (pv 1) (pe_op op_sub (pe_op op_fdivA pe_int (pv 1)) (pe_op op_mulA (pv 2) (pe_call F_law_draw.F (hr.mono (by decide)) (by rfl) F_law_draw.m F_law_draw.k F_law_draw.B .nil (by wtm_at "pk") (pa_cons (pv 0) (pa_cons (pe_op op_fdivA pe_int (pv 1)) pa_nil)))))))
      (pss_cons (ps_set (i := 7) sc_law_lone_right.nd rfl (by wtm_at "oi") (pe_op op_sub (pe_op op_addA (pe_op op_mulA (pv 1) (pe_call F_law_far.F (hr.mono (by decide)) (by rfl) F_law_far.m F_law_far.k F_law_far.B .nil (by wtm_at "pk") (pa_cons (pv 0) pa_nil))) (pv 1)) (pv 4)))
      (pss_cons (ps_set (i := 8) sc_law_lone_right.nd rfl (by wtm_at "oi") (pe_call F_law_far.F (hr.mono (by decide)) (by rfl) F_law_far.m F_law_far.k F_law_far.B .nil (by wtm_at "pk") (pa_cons (pv 0) pa_nil)))
      (pss_cons (ps_set (i := 9) sc_law_lone_right.nd rfl (by wtm_at "oi") (pe_op op_addA (pv 7) (pv 5)))
      (pss_cons (ps_if (pt_cmpR op_lt (pv 9) (pv 8) (nomark _)) (pss_one (ps_aug (i := 9) sc_law_lone_right.nd rfl (by wtm_at "oi") (pe_op op_mulA (pe_op op_fdivA (pe_op op_sub (pe_op op_addA (pe_op op_sub (pv 8) (pv 9)) (pe_callB (cr_sum rfl) (by rfl) n_sum (by decide +kernel) (pa_cons (pv 3) pa_nil))) pe_int) (pe_callB (cr_sum rfl) (by rfl) n_sum (by decide +kernel) (pa_cons (pv 3) pa_nil))) (pe_callB (cr_sum rfl) (by rfl) n_sum (by decide +kernel) (pa_cons (pv 3) pa_nil))) ip_add)) pss_nil)
      (pss_cons (by first | exact ps_setLc (i := 10) (own := [("_law_k", 11)]) (g := (gName 11)) (tt := (tTest (tOp (rEqD K) (tOp rModA (tOp (rAddA K) (tVar 9) (tOp rMulA (tVar 11) (tCB (rSum K) (tCons (tVar 3) tNil)))) (tVar 6)) (tC (.int 0))))) (te := (tOp (rAddA K) (tVar 9) (tOp rMulA (tVar 11) (tCB (rSum K) (tCons (tVar 3) tNil))))) (by rfl) sc_law_lone_right.nd rfl rfl (sw_true rfl rfl rfl (by decide +kernel)) (pi_range1 (by rfl) n_range (pa_cons (pv 6) pa_nil)) (blkOk_by (own := [("_law_k", 11)]) (N := N_law_lone_right) (sc := defScope s_law_lone_right) (by decide +kernel)) (fun _ _ _ _ _ => by exact (pg_name (i := 11) sc_law_lone_right.nd rfl (by wtm_at "oi"))) (fun _ _ _ _ _ => by exact (pts_one (pt_cmpR (op_eqD hr.units) (pe_op op_modA (pe_op op_addA (pv 9) (pe_op op_mulA (pv 11) (pe_callB (cr_sum rfl) (by rfl) n_sum (by decide +kernel) (pa_cons (pv 3) pa_nil)))) (pv 6)) pe_int (nomark _)))) (fun _ _ _ _ _ => by exact (pe_op op_addA (pv 9) (pe_op op_mulA (pv 11) (pe_callB (cr_sum rfl) (by rfl) n_sum (by decide +kernel) (pa_cons (pv 3) pa_nil))))) | exact ps_set (i := 10) sc_law_lone_right.nd rfl (by wtm_at "oi") (pe_lc (own := [("_law_k", 11)]) (g := (gName 11)) (tt := (tTest (tOp (rEqD K) (tOp rModA (tOp (rAddA K) (tVar 9) (tOp rMulA (tVar 11) (tCB (rSum K) (tCons (tVar 3) tNil)))) (tVar 6)) (tC (.int 0))))) (te := (tOp (rAddA K) (tVar 9) (tOp rMulA (tVar 11) (tCB (rSum K) (tCons (tVar 3) tNil))))) (by rfl) sc_law_lone_right.nd (pi_range1 (by rfl) n_range (pa_cons (pv 6) pa_nil)) (blkOk_by (own := [("_law_k", 11)]) (N := N_law_lone_right) (sc := defScope s_law_lone_right) (by decide +kernel)) (fun _ _ _ _ _ => by exact (pg_name (i := 11) sc_law_lone_right.nd rfl (by wtm_at "oi"))) (fun _ _ _ _ _ => by exact (pts_one (pt_cmpR (op_eqD hr.units) (pe_op op_modA (pe_op op_addA (pv 9) (pe_op op_mulA (pv 11) (pe_callB (cr_sum rfl) (by rfl) n_sum (by decide +kernel) (pa_cons (pv 3) pa_nil)))) (pv 6)) pe_int (nomark _)))) (fun _ _ _ _ _ => by exact (pe_op op_addA (pv 9) (pe_op op_mulA (pv 11) (pe_callB (cr_sum rfl) (by rfl) n_sum (by decide +kernel) (pa_cons (pv 3) pa_nil)))))))
      (pss_cons (ps_set (i := 12) sc_law_lone_right.nd rfl (by wtm_at "oi") (pe_call F_meeting.F (hr.mono (by decide)) (by rfl) F_meeting.m F_meeting.k F_meeting.B .nil (by wtm_at "pk") (pa_cons (pe_make M_Calendar F_Calendar_init.F (hr.mono (by decide)) (by rfl) g_Calendar F_Calendar_init.B .nil (by wtm_at "pk") (pa_cons (pe_lst (pa_cons (pv 6) pa_nil)) pa_nil)) (pa_cons (pe_make M_Calendar F_Calendar_init.F (hr.mono (by decide)) (by rfl) g_Calendar F_Calendar_init.B .nil (by wtm_at "pk") (pa_cons (pe_callTy call_list_of (by rfl) n_list (by decide +kernel) (pa_cons (pv 3) pa_nil)) pa_nil)) (pa_cons (pv 7) (pa_cons (pv 8) pa_nil))))))
      (pss_one (ps_ret (pe_ifExp (pt_cmpR (op_eqD hr.units) (pv 10) (pe_lst pa_nil) (nomark _)) (pe_cmp (pc_isN (pv 12)) rfl) (pe_call F_law_is.F (hr.mono (by decide)) (by rfl) F_law_is.m F_law_is.k F_law_is.B .nil (by wtm_at "pk") (pa_cons (pv 12) (pa_cons (pe_ix ix_seq (pv 10) pe_int (fun _ _ => rfl)) pa_nil)))))))))))))))))
    (d_law_lone_right kc)
abbrev N_law : List Str := ["_law_script", "_law_hold", "_law_k", "_law_one", "_law_other", "_law_times", "_law_later", "_law_days"]
theorem sc_law : FnScope N_law ["_law_script"] (defScope s_law) := by wtm_at "sn"
theorem ok_law {f : Addr} {fd : FuncData} {f_law_lengths f_law_round_right f_law_wide_right f_law_far f_law_lone_right f_law_draw f_meeting f_Calendar_init : Addr} {fd_law_lengths fd_law_round_right fd_law_wide_right fd_law_far fd_law_lone_right fd_law_draw fd_meeting fd_Calendar_init : FuncData} (F : GD K "law" "law" s_law f fd) (F_law_lengths : FG P w K mg base 2 f_law_lengths fd_law_lengths ["_law_hold", "_law_most", "_law_many"] (c_law_lengths K) "_law_lengths") (F_law_round_right : FG P w K mg base 5 f_law_round_right fd_law_round_right ["_law_one", "_law_other", "_law_hold"] (c_law_round_right K) "_law_round_right") (F_law_wide_right : FG P w K mg base 5 f_law_wide_right fd_law_wide_right ["_law_one", "_law_other", "_law_later", "_law_day"] (c_law_wide_right K) "_law_wide_right") (F_law_far : FG P w K mg base 2 f_law_far fd_law_far ["_law_hold"] (c_law_far K) "_law_far") (F_law_lone_right : FG P w K mg base 5 f_law_lone_right fd_law_lone_right ["_law_hold"] (c_law_lone_right K) "_law_lone_right") (F_law_draw : FG P w K mg base 1 f_law_draw fd_law_draw ["_law_hold", "_law_many"] (c_law_draw K) "_law_draw") (F_meeting : FG P w K mg base 3 f_meeting fd_meeting ["one", "other", "later", "day"] (c_meeting K) "meeting") (F_Calendar_init : FQ P w K mg base 3 f_Calendar_init fd_Calendar_init ["self", "years"] (c_Calendar_init K)) (M_Calendar : Mk K (He.ga K "Calendar") f_Calendar_init) (n_list : mg "list" = none) (n_len : mg "len" = none) (n_min : mg "min" = none) (n_max : mg "max" = none) (n_range : mg "range" = none) (g_Calendar : mg "Calendar" = some (.ref (He.ga K "Calendar"))) (kc : KCal K) :
    FnOk P w K mg base (L2.CX P w) 6 f fd ["_law_script"] (spD K (c_law K)) :=
  fn_DD (t := t_law K) F sc_law (by wtm_at "ln") (by decide)
    (fun cdv A outer s H E hr => by exact
      (pss_cons (ps_set (i := 1) sc_law.nd rfl (by wtm_at "oi") (pe_lst (pa_cons pe_int (pa_cons (pe_ifExp (pt_cmpR (op_neD hr.units) (pv 0) (pe_lst pa_nil) (nomark _)) (pe_callTy call_list_of (by rfl) n_list (by decide +kernel) (pa_cons (pv 0) pa_nil)) (pe_lst (pa_cons pe_int pa_nil))) pa_nil))))
      (pss_cons (ps_for (passes_of rfl) rfl (pi_range1 (by rfl) n_range (pa_cons (pe_callB (call_maxA rfl) (by rfl) n_max (by decide +kernel) (pa_cons pe_int (pa_cons (pe_callB (call_minA rfl) (by rfl) n_min (by decide +kernel) (pa_cons pe_int (pa_cons (pe_callB call_len (by rfl) n_len (by decide +kernel) (pa_cons (pv 0) pa_nil)) pa_nil))) pa_nil))) pa_nil)) (pg_name (i := 2) sc_law.nd rfl (by wtm_at "oi")) (pss_cons (ps_par (i := 3) (j := 4) (by rfl) sc_law.nd rfl rfl (by decide) rfl rfl (pa_cons (pe_call F_law_lengths.F (hr.mono (by decide)) (by rfl) F_law_lengths.m F_law_lengths.k F_law_lengths.B .nil (by wtm_at "pk") (pa_cons (pv 1) (pa_cons pe_int (pa_cons pe_int pa_nil)))) (pa_cons (pe_call F_law_lengths.F (hr.mono (by decide)) (by rfl) F_law_lengths.m F_law_lengths.k F_law_lengths.B .nil (by wtm_at "pk") (pa_cons (pv 1) (pa_cons pe_int (pa_cons pe_int pa_nil)))) pa_nil)) (by rfl))
      (pss_one (ps_if (pt_not (pt_truth (pe_call F_law_round_right.F (hr.mono (by decide)) (by rfl) F_law_round_right.m F_law_round_right.k F_law_round_right.B .nil (by wtm_at "pk") (pa_cons (pv 3) (pa_cons (pv 4) (pa_cons (pv 1) pa_nil)))) (by intro _; rfl))) (pss_one (ps_ret pe_bl)) pss_nil))))
      (pss_cons (ps_par (i := 3) (j := 4) (by rfl) sc_law.nd rfl rfl (by decide) rfl rfl (pa_cons (pe_call F_law_lengths.F (hr.mono (by decide)) (by rfl) F_law_lengths.m F_law_lengths.k F_law_lengths.B .nil (by wtm_at "pk") (pa_cons (pv 1) (pa_cons pe_int (pa_cons pe_int pa_nil)))) (pa_cons (pe_call F_law_lengths.F (hr.mono (by decide)) (by rfl) F_law_lengths.m F_law_lengths.k F_law_lengths.B .nil (by wtm_at "pk") (pa_cons (pv 1) (pa_cons pe_int (pa_cons pe_int pa_nil)))) pa_nil)) (by rfl))
      (pss_cons (ps_if (pt_not (pt_truth (pe_call F_law_wide_right.F (hr.mono (by decide)) (by rfl) F_law_wide_right.m F_law_wide_right.k F_law_wide_right.B .nil (by wtm_at "pk") (pa_cons (pv 3) (pa_cons (pv 4) (pa_cons (pe_call F_law_far.F (hr.mono (by decide)) (by rfl) F_law_far.m F_law_far.k F_law_far.B .nil (by wtm_at "pk") (pa_cons (pv 1) pa_nil)) (pa_cons (pe_call F_law_far.F (hr.mono (by decide)) (by rfl) F_law_far.m F_law_far.k F_law_far.B .nil (by wtm_at "pk") (pa_cons (pv 1) pa_nil)) pa_nil))))) (by intro _; rfl))) (pss_one (ps_ret pe_bl)) pss_nil)
      (pss_cons (ps_if (pt_not (pt_truth (pe_call F_law_lone_right.F (hr.mono (by decide)) (by rfl) F_law_lone_right.m F_law_lone_right.k F_law_lone_right.B .nil (by wtm_at "pk") (pa_cons (pv 1) pa_nil)) (by intro _; rfl))) (pss_one (ps_ret pe_bl)) pss_nil)
      (pss_cons (ps_set (i := 5) sc_law.nd rfl (by wtm_at "oi") (pe_op op_addA pe_int (pe_call F_law_draw.F (hr.mono (by decide)) (by rfl) F_law_draw.m F_law_draw.k F_law_draw.B .nil (by wtm_at "pk") (pa_cons (pv 1) (pa_cons pe_int pa_nil)))))
      (pss_cons (ps_set (i := 6) sc_law.nd rfl (by wtm_at "oi") (pe_op op_addA (pe_op op_addA (pe_op op_mulA (pv 5) (pe_call F_law_far.F (hr.mono (by decide)) (by rfl) F_law_far.m F_law_far.k F_law_far.B .nil (by wtm_at "pk") (pa_cons (pv 1) pa_nil))) pe_int) (pe_call F_law_draw.F (hr.mono (by decide)) (by rfl) F_law_draw.m F_law_draw.k F_law_draw.B .nil (by wtm_at "pk") (pa_cons (pv 1) (pa_cons (pe_op op_sub (pv 5) pe_int) pa_nil)))))
      (pss_cons (by first | exact ps_setLc (i := 3) (own := [("_law_days", 7)]) (g := (gName 7)) (tt := tYes) (te := (tOp rMulA (tVar 5) (tVar 7))) (by rfl) sc_law.nd rfl rfl (sw_true rfl rfl rfl (by decide +kernel)) (pi_any (pe_call F_law_lengths.F (hr.mono (by decide)) (by rfl) F_law_lengths.m F_law_lengths.k F_law_lengths.B .nil (by wtm_at "pk") (pa_cons (pv 1) (pa_cons (pe_op op_fdivA pe_int (pv 5)) (pa_cons pe_int pa_nil))))) (blkOk_by (own := [("_law_days", 7)]) (N := N_law) (sc := defScope s_law) (by decide +kernel)) (fun _ _ _ _ _ => by exact (pg_name (i := 7) sc_law.nd rfl (by wtm_at "oi"))) (fun _ _ _ _ _ => by exact pts_nil) (fun _ _ _ _ _ => by exact (pe_op op_mulA (pv 5) (pv 7))) | exact ps_set (i := 3) sc_law.nd rfl (by wtm_at "oi") (pe_lc (own := [("_law_days", 7)]) (g := (gName 7)) (tt := tYes) (te := (tOp rMulA (tVar 5) (tVar 7))) (by rfl) sc_law.nd (pi_any (pe_call F_law_lengths.F (hr.mono (by decide)) (by rfl) F_law_lengths.m F_law_lengths.k F_law_lengths.B .nil (by wtm_at "pk") (pa_cons (pv 1) (pa_cons (pe_op op_fdivA pe_int (pv 5)) (pa_cons pe_int pa_nil))))) (blkOk_by (own := [("_law_days", 7)]) (N := N_law) (sc := defScope s_law) (by decide +kernel)) (fun _ _ _ _ _ => by exact (pg_name (i := 7) sc_law.nd rfl (by wtm_at "oi"))) (fun _ _ _ _ _ => by exact pts_nil) (fun _ _ _ _ _ => by exact (pe_op op_mulA (pv 5) (pv 7)))))
      (pss_cons (by first | exact ps_setLc (i := 4) (own := [("_law_days", 7)]) (g := (gName 7)) (tt := tYes) (te := (tOp rMulA (tVar 5) (tVar 7))) (by rfl) sc_law.nd rfl rfl (sw_true rfl rfl rfl (by decide +kernel)) (pi_any (pe_call F_law_lengths.F (hr.mono (by decide)) (by rfl) F_law_lengths.m F_law_lengths.k F_law_lengths.B .nil (by wtm_at "pk") (pa_cons (pv 1) (pa_cons (pe_op op_fdivA pe_int (pv 5)) (pa_cons pe_int pa_nil))))) (blkOk_by (own := [("_law_days", 7)]) (N := N_law) (sc := defScope s_law) (by decide +kernel)) (fun _ _ _ _ _ => by exact (pg_name (i := 7) sc_law.nd rfl (by wtm_at "oi"))) (fun _ _ _ _ _ => by exact pts_nil) (fun _ _ _ _ _ => by exact (pe_op op_mulA (pv 5) (pv 7))) | exact ps_set (i := 4) sc_law.nd rfl (by wtm_at "oi") (pe_lc (own := [("_law_days", 7)]) (g := (gName 7)) (tt := tYes) (te := (tOp rMulA (tVar 5) (tVar 7))) (by rfl) sc_law.nd (pi_any (pe_call F_law_lengths.F (hr.mono (by decide)) (by rfl) F_law_lengths.m F_law_lengths.k F_law_lengths.B .nil (by wtm_at "pk") (pa_cons (pv 1) (pa_cons (pe_op op_fdivA pe_int (pv 5)) (pa_cons pe_int pa_nil))))) (blkOk_by (own := [("_law_days", 7)]) (N := N_law) (sc := defScope s_law) (by decide +kernel)) (fun _ _ _ _ _ => by exact (pg_name (i := 7) sc_law.nd rfl (by wtm_at "oi"))) (fun _ _ _ _ _ => by exact pts_nil) (fun _ _ _ _ _ => by exact (pe_op op_mulA (pv 5) (pv 7)))))
      (pss_one (ps_ret (pe_cmp (pc_isN (pe_call F_meeting.F (hr.mono (by decide)) (by rfl) F_meeting.m F_meeting.k F_meeting.B .nil (by wtm_at "pk") (pa_cons (pe_make M_Calendar F_Calendar_init.F (hr.mono (by decide)) (by rfl) g_Calendar F_Calendar_init.B .nil (by wtm_at "pk") (pa_cons (pv 3) pa_nil)) (pa_cons (pe_make M_Calendar F_Calendar_init.F (hr.mono (by decide)) (by rfl) g_Calendar F_Calendar_init.B .nil (by wtm_at "pk") (pa_cons (pv 4) pa_nil)) (pa_cons (pv 6) (pa_cons (pe_call F_law_far.F (hr.mono (by decide)) (by rfl) F_law_far.m F_law_far.k F_law_far.B .nil (by wtm_at "pk") (pa_cons (pv 1) pa_nil)) pa_nil)))))) rfl)))))))))))))
    (d_law kc)
end
/-! ### the end -/
set_option maxHeartbeats 0 in
theorem facts {P : Program} {w : World} {K : PySem.W.Frag} {h : Heap} {mg : Str → Option Value} {f : Addr} (X : K.In h) (G : h.Ns mainGlobals mg) (hfa : mg ("law" : Str) = some (.ref f)) (c : He.SaysD fas fns K) (cx : exAll exs K = true) :
    ∃ fd : FuncData, (∀ (s : Shared) (v : Value), BindsTo s fd ⟨[v], []⟩ [("_law_script", v)]) ∧ ∀ base : Heap, K.In base → base.Ns mainGlobals mg → FnOk P w K mg base (L2.CX P w) 6 f fd ["_law_script"] (spD K (c_law K)) := by
  have e := hfa.symm.trans (He.glo_ok X G (c.fact 40 (f := .glo "law") rfl))
  cases e
  have q0 := He.free_ok X G (c.fact 0 (f := .free "len") rfl)
  have q1 := He.glo_ok X G (c.fact 1 (f := .glo "_law_draw") rfl)
  have q2 := He.free_ok X G (c.fact 2 (f := .free "range") rfl)
  have q3 := He.free_ok X G (c.fact 3 (f := .free "divmod") rfl)
  have q4 := He.free_ok X G (c.fact 4 (f := .free "sum") rfl)
  have q5 := He.free_ok X G (c.fact 5 (f := .free "int") rfl)
  have q6 := He.free_ok X G (c.fact 6 (f := .free "isinstance") rfl)
  have q7 := He.free_ok X G (c.fact 7 (f := .free "bool") rfl)
  have q8 := He.free_ok X G (c.fact 9 (f := .free "list") rfl)
  have q9 := He.exc_ok (c.fact 12 (f := .exc "BadCalendar") rfl)
  have q10 := He.cls_ok (c.fact 14 (f := .cls "Calendar") rfl)
  have q11 := He.noat_ok (c.fact 15 (f := .noat "Calendar" "lengths") rfl)
  have q12 := He.noat_ok (c.fact 16 (f := .noat "Calendar" "begins") rfl)
  have q13 := He.noat_ok (c.fact 17 (f := .noat "Calendar" "whole") rfl)
  have q14 := He.glo_ok X G (c.fact 18 (f := .glo "_law_begins") rfl)
  have q15 := He.free_ok X G (c.fact 19 (f := .free "max") rfl)
  have q16 := He.exc_ok (c.fact 20 (f := .exc "NoDay") rfl)
  have q17 := He.glo_ok X G (c.fact 22 (f := .glo "need_day") rfl)
  have q18 := He.free_ok X G (c.fact 27 (f := .free "min") rfl)
  have q19 := He.glo_ok X G (c.fact 28 (f := .glo "_law_far") rfl)
  have q20 := He.mkr_ok (c.fact 30 (f := .mkr "Calendar") rfl)
  have q21 := He.glo_ok X G (c.fact 32 (f := .glo "_law_is") rfl)
  have q22 := He.glo_ok X G (c.fact 33 (f := .glo "meeting") rfl)
  have q23 := He.glo_ok X G (c.fact 34 (f := .glo "Calendar") rfl)
  obtain ⟨fd_law_draw, G0_law_draw⟩ := c.def_ 0 (d := dd_law_draw) rfl
  have G_law_draw : GD K "_law_draw" "_law_draw" s_law_draw (He.ga K "_law_draw") fd_law_draw := G0_law_draw
  have B_law_draw : Binds K fd_law_draw ["_law_hold", "_law_many"] [] := G_law_draw.bindsN fun _ _ _ _ _ _ us hl => match us, hl with | [_, _], _ => rfl
  obtain ⟨fd_law_lengths, G0_law_lengths⟩ := c.def_ 1 (d := dd_law_lengths) rfl
  have G_law_lengths : GD K "_law_lengths" "_law_lengths" s_law_lengths (He.ga K "_law_lengths") fd_law_lengths := G0_law_lengths
  have B_law_lengths : Binds K fd_law_lengths ["_law_hold", "_law_most", "_law_many"] [] := G_law_lengths.bindsN fun _ _ _ _ _ _ us hl => match us, hl with | [_, _, _], _ => rfl
  obtain ⟨fd_law_far, G0_law_far⟩ := c.def_ 2 (d := dd_law_far) rfl
  have G_law_far : GD K "_law_far" "_law_far" s_law_far (He.ga K "_law_far") fd_law_far := G0_law_far
  have B_law_far : Binds K fd_law_far ["_law_hold"] [] := G_law_far.bindsN fun _ _ _ _ _ _ us hl => match us, hl with | [_], _ => rfl
  obtain ⟨fd_law_first, G0_law_first⟩ := c.def_ 3 (d := dd_law_first) rfl
  have G_law_first : GD K "_law_first" "_law_first" s_law_first (He.ga K "_law_first") fd_law_first := G0_law_first
  have B_law_first : Binds K fd_law_first ["_law_lengths_here", "_law_year"] [] := G_law_first.bindsN fun _ _ _ _ _ _ us hl => match us, hl with | [_, _], _ => rfl
  obtain ⟨fd_is_number, G0_is_number⟩ := c.def_ 4 (d := dd_is_number) rfl
  have G_is_number : GD K "is_number" "is_number" s_is_number (He.ga K "is_number") fd_is_number := G0_is_number
  have B_is_number : Binds K fd_is_number ["thing", "least", "most"] [] := G_is_number.bindsN fun _ _ _ _ _ _ us hl => match us, hl with | [_, _, _], _ => rfl
  obtain ⟨fd_are_numbers, G0_are_numbers⟩ := c.def_ 5 (d := dd_are_numbers) rfl
  have G_are_numbers : GD K "are_numbers" "are_numbers" s_are_numbers (He.ga K "are_numbers") fd_are_numbers := G0_are_numbers
  have B_are_numbers : Binds K fd_are_numbers ["thing", "long", "least", "most"] [] := G_are_numbers.bindsN fun _ _ _ _ _ _ us hl => match us, hl with | [_, _, _, _], _ => rfl
  obtain ⟨fd_Calendar_init, G0_Calendar_init⟩ := c.def_ 6 (d := dd_Calendar_init) rfl
  have G_Calendar_init : GD K "__init__" "Calendar.__init__" s_Calendar_init (He.ma K (He.ga K "Calendar") "__init__") fd_Calendar_init := G0_Calendar_init
  have B_Calendar_init : Binds K fd_Calendar_init ["self", "years"] [] := G_Calendar_init.bindsN fun _ _ _ _ _ _ us hl => match us, hl with | [_, _], _ => rfl
  obtain ⟨fd_law_begins, G0_law_begins⟩ := c.def_ 7 (d := dd_law_begins) rfl
  have G_law_begins : GD K "_law_begins" "_law_begins" s_law_begins (He.ga K "_law_begins") fd_law_begins := G0_law_begins
  have B_law_begins : Binds K fd_law_begins ["_law_lengths_here", "_law_low", "_law_high"] [] := G_law_begins.bindsN fun _ _ _ _ _ _ us hl => match us, hl with | [_, _, _], _ => rfl
  obtain ⟨fd_law_due, G0_law_due⟩ := c.def_ 8 (d := dd_law_due) rfl
  have G_law_due : GD K "_law_due" "_law_due" s_law_due (He.ga K "_law_due") fd_law_due := G0_law_due
  have B_law_due : Binds K fd_law_due ["_law_one", "_law_other", "_law_later", "_law_low", "_law_high"] [] := G_law_due.bindsN fun _ _ _ _ _ _ us hl => match us, hl with | [_, _, _, _, _], _ => rfl
  obtain ⟨fd_law_is, G0_law_is⟩ := c.def_ 9 (d := dd_law_is) rfl
  have G_law_is : GD K "_law_is" "_law_is" s_law_is (He.ga K "_law_is") fd_law_is := G0_law_is
  have B_law_is : Binds K fd_law_is ["_law_found", "_law_due_here"] [] := G_law_is.bindsN fun _ _ _ _ _ _ us hl => match us, hl with | [_, _], _ => rfl
  obtain ⟨fd_need_day, G0_need_day⟩ := c.def_ 10 (d := dd_need_day) rfl
  have G_need_day : GD K "need_day" "need_day" s_need_day (He.ga K "need_day") fd_need_day := G0_need_day
  have B_need_day : Binds K fd_need_day ["number"] [] := G_need_day.bindsN fun _ _ _ _ _ _ us hl => match us, hl with | [_], _ => rfl
  obtain ⟨fd_Calendar_turn, G0_Calendar_turn⟩ := c.def_ 11 (d := dd_Calendar_turn) rfl
  have G_Calendar_turn : GD K "turn" "Calendar.turn" s_Calendar_turn (He.ma K (He.ga K "Calendar") "turn") fd_Calendar_turn := G0_Calendar_turn
  have B_Calendar_turn : Binds K fd_Calendar_turn ["self"] [] := G_Calendar_turn.bindsN fun _ _ _ _ _ _ us hl => match us, hl with | [_], _ => rfl
  obtain ⟨fd_common_by, G0_common_by⟩ := c.def_ 12 (d := dd_common_by) rfl
  have G_common_by : GD K "common_by" "common_by" s_common_by (He.ga K "common_by") fd_common_by := G0_common_by
  have B_common_by : Binds K fd_common_by ["one", "other"] [] := G_common_by.bindsN fun _ _ _ _ _ _ us hl => match us, hl with | [_, _], _ => rfl
  obtain ⟨fd_Calendar_years, G0_Calendar_years⟩ := c.def_ 13 (d := dd_Calendar_years) rfl
  have G_Calendar_years : GD K "years" "Calendar.years" s_Calendar_years (He.ma K (He.ga K "Calendar") "years") fd_Calendar_years := G0_Calendar_years
  have B_Calendar_years : Binds K fd_Calendar_years ["self"] [] := G_Calendar_years.bindsN fun _ _ _ _ _ _ us hl => match us, hl with | [_], _ => rfl
  obtain ⟨fd_Calendar_first, G0_Calendar_first⟩ := c.def_ 14 (d := dd_Calendar_first) rfl
  have G_Calendar_first : GD K "first" "Calendar.first" s_Calendar_first (He.ma K (He.ga K "Calendar") "first") fd_Calendar_first := G0_Calendar_first
  have B_Calendar_first : Binds K fd_Calendar_first ["self", "year"] [] := G_Calendar_first.bindsN fun _ _ _ _ _ _ us hl => match us, hl with | [_, _], _ => rfl
  obtain ⟨fd_meeting, G0_meeting⟩ := c.def_ 15 (d := dd_meeting) rfl
  have G_meeting : GD K "meeting" "meeting" s_meeting (He.ga K "meeting") fd_meeting := G0_meeting
  have B_meeting : Binds K fd_meeting ["one", "other", "later", "day"] [] := G_meeting.bindsN fun _ _ _ _ _ _ us hl => match us, hl with | [_, _, _, _], _ => rfl
  obtain ⟨fd_law_round_right, G0_law_round_right⟩ := c.def_ 16 (d := dd_law_round_right) rfl
  have G_law_round_right : GD K "_law_round_right" "_law_round_right" s_law_round_right (He.ga K "_law_round_right") fd_law_round_right := G0_law_round_right
  have B_law_round_right : Binds K fd_law_round_right ["_law_one", "_law_other", "_law_hold"] [] := G_law_round_right.bindsN fun _ _ _ _ _ _ us hl => match us, hl with | [_, _, _], _ => rfl
  obtain ⟨fd_law_wide_right, G0_law_wide_right⟩ := c.def_ 17 (d := dd_law_wide_right) rfl
  have G_law_wide_right : GD K "_law_wide_right" "_law_wide_right" s_law_wide_right (He.ga K "_law_wide_right") fd_law_wide_right := G0_law_wide_right
  have B_law_wide_right : Binds K fd_law_wide_right ["_law_one", "_law_other", "_law_later", "_law_day"] [] := G_law_wide_right.bindsN fun _ _ _ _ _ _ us hl => match us, hl with | [_, _, _, _], _ => rfl
  obtain ⟨fd_law_one_way, G0_law_one_way⟩ := c.def_ 18 (d := dd_law_one_way) rfl
  have G_law_one_way : GD K "_law_one_way" "_law_one_way" s_law_one_way (He.ga K "_law_one_way") fd_law_one_way := G0_law_one_way
  have B_law_one_way : Binds K fd_law_one_way ["_law_hold", "_law_times"] [] := G_law_one_way.bindsN fun _ _ _ _ _ _ us hl => match us, hl with | [_, _], _ => rfl
  obtain ⟨fd_law_lone_right, G0_law_lone_right⟩ := c.def_ 19 (d := dd_law_lone_right) rfl
  have G_law_lone_right : GD K "_law_lone_right" "_law_lone_right" s_law_lone_right (He.ga K "_law_lone_right") fd_law_lone_right := G0_law_lone_right
  have B_law_lone_right : Binds K fd_law_lone_right ["_law_hold"] [] := G_law_lone_right.bindsN fun _ _ _ _ _ _ us hl => match us, hl with | [_], _ => rfl
  obtain ⟨fd_law, G0_law⟩ := c.def_ 20 (d := dd_law) rfl
  have G_law : GD K "law" "law" s_law (He.ga K "law") fd_law := G0_law
  have b := FunD.bindsA (ps := ["_law_script"]) G_law fun _ _ _ _ _ _ us hl => match us, hl with | [_], _ => rfl
  refine ⟨fd_law, fun s v => b s [v] rfl, fun base _ _ => ?_⟩
  have F_law_draw : FnOk P w K mg base (L2.CX P w) 1 _ fd_law_draw ["_law_hold", "_law_many"] (spD K (c_law_draw K)) := ok_law_draw G_law_draw q0
  have F_law_lengths : FnOk P w K mg base (L2.CX P w) 2 _ fd_law_lengths ["_law_hold", "_law_most", "_law_many"] (spD K (c_law_lengths K)) := ok_law_lengths G_law_lengths ⟨⟨F_law_draw, B_law_draw⟩, q1, G_law_draw.kp⟩ q2
  have F_law_far : FnOk P w K mg base (L2.CX P w) 2 _ fd_law_far ["_law_hold"] (spD K (c_law_far K)) := ok_law_far G_law_far ⟨⟨F_law_draw, B_law_draw⟩, q1, G_law_draw.kp⟩ q2
  have F_law_first : FnOk P w K mg base (L2.CX P w) 1 _ fd_law_first ["_law_lengths_here", "_law_year"] (spD K (c_law_first K)) := ok_law_first G_law_first q0 q3 q4
  have F_is_number : FnOk P w K mg base (L2.CX P w) 1 _ fd_is_number ["thing", "least", "most"] (spD K (c_is_number K)) := ok_is_number G_is_number q5 q6 q7
  have F_are_numbers : FnOk P w K mg base (L2.CX P w) 2 _ fd_are_numbers ["thing", "long", "least", "most"] (spD K (c_are_numbers K)) := ok_are_numbers G_are_numbers ⟨⟨F_is_number, B_is_number⟩, (He.glo_ok X G (c.fact 8 (f := .glo "is_number") rfl)), G_is_number.kp⟩ q8 q6 q0 (He.free_ok X G (c.fact 10 (f := .free "all") rfl))
  have F_Calendar_init : FnOk P w K mg base (L2.CX P w) 3 _ fd_Calendar_init ["self", "years"] (spD K (c_Calendar_init K)) := ok_Calendar_init G_Calendar_init ⟨⟨F_are_numbers, B_are_numbers⟩, (He.glo_ok X G (c.fact 11 (f := .glo "are_numbers") rfl)), G_are_numbers.kp⟩ ⟨q9.1, He.glo_ok X G (c.fact 13 (f := .glo "BadCalendar") rfl), q9.2.1, q9.2.2.1, q9.2.2.2⟩ q8 (⟨q10, q11, q12, q13⟩)
  have F_law_begins : FnOk P w K mg base (L2.CX P w) 1 _ fd_law_begins ["_law_lengths_here", "_law_low", "_law_high"] (spD K (c_law_begins K)) := ok_law_begins G_law_begins q4
  have F_law_due : FnOk P w K mg base (L2.CX P w) 2 _ fd_law_due ["_law_one", "_law_other", "_law_later", "_law_low", "_law_high"] (spD K (c_law_due K)) := ok_law_due G_law_due ⟨⟨F_law_begins, B_law_begins⟩, q14, G_law_begins.kp⟩ q4 q15
  have F_law_is : FnOk P w K mg base (L2.CX P w) 1 _ fd_law_is ["_law_found", "_law_due_here"] (spD K (c_law_is K)) := ok_law_is G_law_is q5 q6 q7
  have F_need_day : FnOk P w K mg base (L2.CX P w) 1 _ fd_need_day ["number"] (spD K (c_need_day K)) := ok_need_day G_need_day ⟨q16.1, He.glo_ok X G (c.fact 21 (f := .glo "NoDay") rfl), q16.2.1, q16.2.2.1, q16.2.2.2⟩
  have F_Calendar_turn : FnOk P w K mg base (L2.CX P w) 1 _ fd_Calendar_turn ["self"] (spD K (c_Calendar_turn K)) := ok_Calendar_turn G_Calendar_turn (⟨q10, q11, q12, q13⟩)
  have F_common_by : FnOk P w K mg base (L2.CX P w) 1 _ fd_common_by ["one", "other"] (spD K (c_common_by K)) := ok_common_by G_common_by 
  have F_Calendar_years : FnOk P w K mg base (L2.CX P w) 1 _ fd_Calendar_years ["self"] (spD K (c_Calendar_years K)) := ok_Calendar_years G_Calendar_years q8 (⟨q10, q11, q12, q13⟩)
  have F_Calendar_first : FnOk P w K mg base (L2.CX P w) 2 _ fd_Calendar_first ["self", "year"] (spD K (c_Calendar_first K)) := ok_Calendar_first G_Calendar_first ⟨⟨F_need_day, B_need_day⟩, q17, G_need_day.kp⟩ q0 q3 (⟨q10, q11, q12, q13⟩)
  have F_meeting : FnOk P w K mg base (L2.CX P w) 3 _ fd_meeting ["one", "other", "later", "day"] (spD K (c_meeting K)) := ok_meeting G_meeting ⟨⟨F_need_day, B_need_day⟩, q17, G_need_day.kp⟩ ⟨F_Calendar_turn, B_Calendar_turn⟩ ⟨⟨F_common_by, B_common_by⟩, (He.glo_ok X G (c.fact 23 (f := .glo "common_by") rfl)), G_common_by.kp⟩ ⟨F_Calendar_years, B_Calendar_years⟩ ⟨F_Calendar_first, B_Calendar_first⟩ q10 (He.meth_ok (c.fact 24 (f := .meth "Calendar" "turn") rfl)) (He.meth_ok (c.fact 25 (f := .meth "Calendar" "years") rfl)) q0 q2 (He.meth_ok (c.fact 26 (f := .meth "Calendar" "first") rfl)) q15 q18
  have F_law_round_right : FnOk P w K mg base (L2.CX P w) 5 _ fd_law_round_right ["_law_one", "_law_other", "_law_hold"] (spD K (c_law_round_right K)) := ok_law_round_right G_law_round_right ⟨⟨F_law_far, B_law_far⟩, q19, G_law_far.kp⟩ ⟨⟨F_law_first, B_law_first⟩, (He.glo_ok X G (c.fact 29 (f := .glo "_law_first") rfl)), G_law_first.kp⟩ ⟨⟨F_law_draw, B_law_draw⟩, q1, G_law_draw.kp⟩ ⟨F_Calendar_init, B_Calendar_init⟩ q20 ⟨⟨F_law_due, B_law_due⟩, (He.glo_ok X G (c.fact 31 (f := .glo "_law_due") rfl)), G_law_due.kp⟩ ⟨⟨F_law_is, B_law_is⟩, q21, G_law_is.kp⟩ ⟨⟨F_meeting, B_meeting⟩, q22, G_meeting.kp⟩ q4 q0 q15 q8 q23
  have F_law_wide_right : FnOk P w K mg base (L2.CX P w) 5 _ fd_law_wide_right ["_law_one", "_law_other", "_law_later", "_law_day"] (spD K (c_law_wide_right K)) := ok_law_wide_right G_law_wide_right ⟨⟨F_law_begins, B_law_begins⟩, q14, G_law_begins.kp⟩ ⟨⟨F_meeting, B_meeting⟩, q22, G_meeting.kp⟩ ⟨F_Calendar_init, B_Calendar_init⟩ q20 ⟨⟨F_law_is, B_law_is⟩, q21, G_law_is.kp⟩ q15 q4 q8 q23
  have F_law_one_way : FnOk P w K mg base (L2.CX P w) 2 _ fd_law_one_way ["_law_hold", "_law_times"] (spD K (c_law_one_way K)) := ok_law_one_way G_law_one_way ⟨⟨F_law_draw, B_law_draw⟩, q1, G_law_draw.kp⟩ q2 q4
  have F_law_lone_right : FnOk P w K mg base (L2.CX P w) 5 _ fd_law_lone_right ["_law_hold"] (spD K (c_law_lone_right K)) := ok_law_lone_right G_law_lone_right ⟨⟨F_law_draw, B_law_draw⟩, q1, G_law_draw.kp⟩ ⟨⟨F_law_one_way, B_law_one_way⟩, (He.glo_ok X G (c.fact 35 (f := .glo "_law_one_way") rfl)), G_law_one_way.kp⟩ ⟨⟨F_law_far, B_law_far⟩, q19, G_law_far.kp⟩ ⟨⟨F_meeting, B_meeting⟩, q22, G_meeting.kp⟩ ⟨F_Calendar_init, B_Calendar_init⟩ q20 ⟨⟨F_law_is, B_law_is⟩, q21, G_law_is.kp⟩ q4 q2 q8 q23 (⟨q10, q11, q12, q13⟩)
  exact ok_law (base := base) G_law ⟨⟨F_law_lengths, B_law_lengths⟩, (He.glo_ok X G (c.fact 36 (f := .glo "_law_lengths") rfl)), G_law_lengths.kp⟩ ⟨⟨F_law_round_right, B_law_round_right⟩, (He.glo_ok X G (c.fact 37 (f := .glo "_law_round_right") rfl)), G_law_round_right.kp⟩ ⟨⟨F_law_wide_right, B_law_wide_right⟩, (He.glo_ok X G (c.fact 38 (f := .glo "_law_wide_right") rfl)), G_law_wide_right.kp⟩ ⟨⟨F_law_far, B_law_far⟩, q19, G_law_far.kp⟩ ⟨⟨F_law_lone_right, B_law_lone_right⟩, (He.glo_ok X G (c.fact 39 (f := .glo "_law_lone_right") rfl)), G_law_lone_right.kp⟩ ⟨⟨F_law_draw, B_law_draw⟩, q1, G_law_draw.kp⟩ ⟨⟨F_meeting, B_meeting⟩, q22, G_meeting.kp⟩ ⟨F_Calendar_init, B_Calendar_init⟩ q20 q8 q0 q18 q15 q2 q23 (⟨q10, q11, q12, q13⟩)
end Dl
open PySem PySem.W PySem.Calls PyProof.Rows
set_option maxRecDepth 100000
set_option maxHeartbeats 0
theorem PySem.Challenge.cw_readround_k16_far_meetings_holds : PySem.Challenge.rw_readround_k16_far_meetings.Holds := by
  refine Dl.lawOf ?hc
  case hc =>
    refine Dl.walk_ofW (l := PySem.Challenge.rw_readround_k16_far_meetings) (n := 63) (k := 6) (x := "_law_script") rfl (by decide) Dl.law_dflt ⟨rfl, by decide, by decide⟩ ?F
    intro w mg fa h Y G hmg0
    obtain ⟨K, KX, c, cx⟩ := Y
    have hmg : mg ("law" : PySem.Str) = some (.ref fa) := by
      rw [← Dl.law_name]
      exact hmg0
    obtain ⟨fd, hb, hF⟩ := Dl.facts (P := (PySem.Challenge.rw_readround_k16_far_meetings).prog) (w := w) KX G hmg c cx
    exact ⟨K, fd, _, KX, hb, fun H a ns hl hO hS => Dl.law_sp hS ⟨ns, rfl, hl, fun _ => rfl⟩, hF⟩
