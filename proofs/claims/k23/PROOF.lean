import PyProof.Rows.All
import Wide.All
import OpenK.AllK
import Wide.FinOn
import HandS.ForMost
import HandS.ForExc
import HandS.Lambda
import HandS.IsInst
import HandS.Wide
import HandS.Defaults
import HandS.Zip
import HandS.Strs
import HandS.Style
import HandS.HeadHook2
import HandS.Ends
import HandS.HeadEnd
import HandS.Head2
import PyProof.Rows.SetListFold
import HandS.Conv
import HandS.Text
import HandS.NoneIn
import HandS.Codes
import PyProof.LongRange
import HandS.SortKw
import KE.DataMinMax
import PyProof.ListRange
import HandS.SetFor
import HandS.ExcIs
import HandS.ExcInit
import HandS.ExcField
import HandS.CallSlots
import HandS.Iter
import HandS.HeadHook4
import HandS.HeadWalk
import HandS.Deep
import HandS.DictComp
import HandS.SortInts
import HandS.More
import PyProof.InstEq
import HandS.DictTup
import HandS.TupLen
import KE.KeyNested
import KE.SortData
import HandS.TryMany
import KE.KDictSum
import HandS.RevRange
import HandS.RaiseMore
import KE.KIntText
import PyProof.InstSpecial
import HandS.MakeKw
import HandS.MakeKwOnly
import PySem.Challenge.RW_readround_k23_rows_known
set_option Elab.async false
set_option linter.all false
set_option maxRecDepth 100000
/-! Dl: a layer of data over the hand layer's readings: what is frozen is told as data (D), what may still change stands in a list (Mu) -/
namespace Dl
open PySem L2
/-- data -/
inductive D where
  | non | bl (b : Bool) | int (i : Int) | str (x : Str) | ty (n : String)
  | tup (xs : List D) | lst (xs : List D)
  /-- a list, a tuple that is read alone (the script, a written one) -/
  | rdl (xs : List D) | rdt (xs : List D)
  | obj (C : Addr) (fs : List (Str × D))
  | dct (kvs : List (Key × D))
  /-- the k-th thing that may change -/
  | own (k : Nat)
  /-- an object of the written part -/
  | loc (a : Addr)
  /-- a caught exception: its class, its fields -/
  | exc (C : Addr) (fs : List (Str × D))
deriving Inhabited
/-- a caught exception in the heap: its class, its own dict -/
def ExV (cls : Value) (d : Option Addr) (a : Addr) : HO := .ext fun h => ∃ (oe : Obj) (vs : Array Value), h.get? a = some oe ∧ Zc cls d oe ∧ oe.data = .fields vs
/-- the own dict of an exception -/
def ExD (G : Hp) (d : Option Addr) (fs : List (Str × V)) : Prop := (d = none ∧ fs = []) ∨ ∃ dx, d = some dx ∧ G dx = some (.xd fs)
theorem ExD.mono {G G' : Hp} (s : Same G G') {d : Option Addr} {fs : List (Str × V)} (h : ExD G d fs) : ExD G' d fs := h.imp id fun ⟨dx, e, g⟩ => ⟨dx, e, s _ _ g⟩
/-- what a thing that may change is now -/
inductive MO where
  | dead
  | lst (xs : List D)
  | ins (C : Addr) (fs : List (Str × D))
  | dK (kvs : List (Key × D))
  | dT (kvs : List (List Key × D))
  /-- the table at p of code objects of the name q -/
  | tab (p : Addr) (q : Str)
deriving Inhabited
abbrev Mu := List MO
abbrev En := List (Option D)
section
variable (K : PySem.W.Frag) (G : Hp) (al : List Addr)
mutual
inductive Rp : V → D → Prop
  | non : Rp .non .non
  | bl (b : Bool) : Rp (.bl b) (.bl b)
  | int (i : Int) : Rp (.int i) (.int i)
  | str (x : Str) : Rp (.str x) (.str x)
  | ty (n : String) : Rp (.ty n) (.ty n)
  | tup {a : Addr} {vs : List V} {ds : List D} : G a = some (.tup vs) → Rps vs ds → Rp (.ref a) (.tup ds)
  | lst {a : Addr} {vs : List V} {ds : List D} : G a = some (.lst vs) → Rps vs ds → Rp (.ref a) (.lst ds)
  | rdl {a : Addr} {vs : List V} {ds : List D} : SqL K G a vs → Rps vs ds → Rp (.ref a) (.rdl ds)
  | rdt {a : Addr} {vs : List V} {ds : List D} : SqT K G a vs → Rps vs ds → Rp (.ref a) (.rdt ds)
  | obj {a C dx : Addr} {fs : List (Str × V)} {gs : List (Str × D)} : G a = some (.ins C dx fs) → Rpf fs gs → Rp (.ref a) (.obj C gs)
  | dct {a : Addr} {kvs : List (Key × V)} {gs : List (Key × D)} : Rd G a (.dK kvs) → Rpk kvs gs → Rp (.ref a) (.dct gs)
  | own {a : Addr} {k : Nat} : al[k]? = some a → Rp (.ref a) (.own k)
  | loc (a : Addr) : Rp (.ref a) (.loc a)
  | exc {a C : Addr} {dd : Option Addr} {fs : List (Str × V)} {gs : List (Str × D)} : G a = some (ExV (.ref C) dd a) → ExD G dd fs → Rpf fs gs → Rp (.ref a) (.exc C gs)
inductive Rps : List V → List D → Prop
  | nil : Rps [] []
  | cons {v : V} {vs : List V} {d : D} {ds : List D} : Rp v d → Rps vs ds → Rps (v :: vs) (d :: ds)
inductive Rpf : List (Str × V) → List (Str × D) → Prop
  | nil : Rpf [] []
  | cons {f : Str} {v : V} {vs : List (Str × V)} {d : D} {ds : List (Str × D)} : Rp v d → Rpf vs ds → Rpf ((f, v) :: vs) ((f, d) :: ds)
inductive Rpk : List (Key × V) → List (Key × D) → Prop
  | nil : Rpk [] []
  | cons {f : Key} {v : V} {vs : List (Key × V)} {d : D} {ds : List (Key × D)} : Rp v d → Rpk vs ds → Rpk ((f, v) :: vs) ((f, d) :: ds)
end
end
theorem rd_mono {H H' : Hp} {a : Addr} {u : HO} (s : Same H H') (h : Rd H a u) : Rd H' a u := by
  rcases h with h | ⟨o, h⟩
  · exact .inl (s _ _ h)
  · exact .inr ⟨o, s _ _ h⟩
theorem sql_mono {K : PySem.W.Frag} {H H' : Hp} {a : Addr} {xs : List V} (e : Same H H') (h : SqL K H a xs) : SqL K H' a xs := e.seq h
theorem sqt_mono {K : PySem.W.Frag} {H H' : Hp} {a : Addr} {xs : List V} (e : Same H H') (h : SqT K H a xs) : SqT K H' a xs := by
  rcases h with (h | ⟨o, h⟩) | h
  · exact .inl (.inl (e _ _ h))
  · exact .inl (.inr ⟨o, e _ _ h⟩)
  · exact .inr h
/-- al' goes on from al -/
def Pre (al al' : List Addr) : Prop := ∃ be, al' = al ++ be
theorem Pre.refl (al : List Addr) : Pre al al := ⟨[], by simp⟩
theorem Pre.trans {a b c : List Addr} (h : Pre a b) (h' : Pre b c) : Pre a c := by
  obtain ⟨x, rfl⟩ := h
  obtain ⟨y, rfl⟩ := h'
  exact ⟨x ++ y, by simp⟩
theorem Pre.get {al al' : List Addr} (h : Pre al al') {k : Nat} {a : Addr} (e : al[k]? = some a) : al'[k]? = some a := by
  obtain ⟨x, rfl⟩ := h
  rw [List.getElem?_append_left (List.getElem?_eq_some_iff.mp e).1]
  exact e
theorem Pre.mem {al al' : List Addr} (h : Pre al al') {a : Addr} (e : a ∈ al) : a ∈ al' := by
  obtain ⟨x, rfl⟩ := h
  exact List.mem_append_left _ e
section
variable {K : PySem.W.Frag} {G G' : Hp} {al al' : List Addr}
mutual
theorem Rp.mono (s : Same G G') (p : Pre al al') : ∀ {v : V} {d : D}, Rp K G al v d → Rp K G' al' v d
  | _, _, .non => .non
  | _, _, .bl b => .bl b
  | _, _, .int i => .int i
  | _, _, .str x => .str x
  | _, _, .ty x => .ty x
  | _, _, .tup h r => .tup (s _ _ h) (Rps.mono s p r)
  | _, _, .lst h r => .lst (s _ _ h) (Rps.mono s p r)
  | _, _, .rdl h r => .rdl (sql_mono s h) (Rps.mono s p r)
  | _, _, .rdt h r => .rdt (sqt_mono s h) (Rps.mono s p r)
  | _, _, .obj h r => .obj (s _ _ h) (Rpf.mono s p r)
  | _, _, .dct h r => .dct (rd_mono s h) (Rpk.mono s p r)
  | _, _, .own h => .own (p.get h)
  | _, _, .loc a => .loc a
  | _, _, .exc h hd r => .exc (s _ _ h) (hd.mono s) (Rpf.mono s p r)
theorem Rps.mono (s : Same G G') (p : Pre al al') : ∀ {v : List V} {d : List D}, Rps K G al v d → Rps K G' al' v d
  | _, _, .nil => .nil
  | _, _, .cons h r => .cons (Rp.mono s p h) (Rps.mono s p r)
theorem Rpf.mono (s : Same G G') (p : Pre al al') : ∀ {v : List (Str × V)} {d : List (Str × D)}, Rpf K G al v d → Rpf K G' al' v d
  | _, _, .nil => .nil
  | _, _, .cons h r => .cons (Rp.mono s p h) (Rpf.mono s p r)
theorem Rpk.mono (s : Same G G') (p : Pre al al') : ∀ {v : List (Key × V)} {d : List (Key × D)}, Rpk K G al v d → Rpk K G' al' v d
  | _, _, .nil => .nil
  | _, _, .cons h r => .cons (Rp.mono s p h) (Rpk.mono s p r)
end
theorem Rps.length {vs : List V} {ds : List D} (h : Rps K G al vs ds) : vs.length = ds.length := by
  induction ds generalizing vs with
  | nil => cases h; rfl
  | cons d ds ih => cases h with | cons _ r => simp [ih r]
theorem Rps.get {vs : List V} {ds : List D} (h : Rps K G al vs ds) : ∀ {i : Nat} {d : D}, ds[i]? = some d → ∃ v, vs[i]? = some v ∧ Rp K G al v d := by
  induction ds generalizing vs with
  | nil => intro i d e; simp at e
  | cons x xs ih =>
    intro i d e
    cases h with
    | cons r t =>
      cases i with
      | zero => simp at e; subst e; exact ⟨_, rfl, r⟩
      | succ i => simp at e; simpa using ih t e
theorem Rps.getV {vs : List V} {ds : List D} (h : Rps K G al vs ds) {i : Nat} {v : V} (e : vs[i]? = some v) : ∃ d, ds[i]? = some d ∧ Rp K G al v d := by
  have hi : i < ds.length := by rw [← h.length]; exact (List.getElem?_eq_some_iff.mp e).1
  obtain ⟨w, e2, r⟩ := h.get (List.getElem?_eq_getElem hi)
  rw [e] at e2; cases e2
  exact ⟨_, List.getElem?_eq_getElem hi, r⟩
theorem Rps.append {vs ws : List V} {ds es : List D} (h : Rps K G al vs ds) (h' : Rps K G al ws es) : Rps K G al (vs ++ ws) (ds ++ es) := by
  induction ds generalizing vs with
  | nil => cases h; exact h'
  | cons d ds ih => cases h with | cons r t => exact .cons r (ih t)
theorem Rps.take {vs : List V} {ds : List D} (h : Rps K G al vs ds) (n : Nat) : Rps K G al (vs.take n) (ds.take n) := by
  induction n generalizing vs ds with
  | zero => simp; exact .nil
  | succ n ih => cases h with
    | nil => simp; exact .nil
    | cons r t => simpa using .cons r (ih t)
theorem Rps.drop {vs : List V} {ds : List D} (h : Rps K G al vs ds) (n : Nat) : Rps K G al (vs.drop n) (ds.drop n) := by
  induction n generalizing vs ds with
  | zero => simpa using h
  | succ n ih => cases h with
    | nil => simp; exact .nil
    | cons r t => simpa using ih t
theorem Rps.reverse {vs : List V} {ds : List D} (h : Rps K G al vs ds) : Rps K G al vs.reverse ds.reverse := by
  induction ds generalizing vs with
  | nil => cases h; exact .nil
  | cons d ds ih => cases h with | cons r t => simpa using (ih t).append (.cons r .nil)
theorem Rps.set {vs : List V} {ds : List D} (h : Rps K G al vs ds) (i : Nat) {v : V} {d : D} (r : Rp K G al v d) : Rps K G al (vs.set i v) (ds.set i d) := by
  induction ds generalizing vs i with
  | nil => cases h; simp; exact .nil
  | cons x xs ih => cases h with
    | cons r' t => cases i with
      | zero => exact .cons r t
      | succ i => exact .cons r' (ih t i)
theorem Rps.of_ints : ∀ (ns : List Int), Rps K G al (ns.map V.int) (ns.map D.int)
  | [] => .nil
  | n :: ns => .cons (.int n) (Rps.of_ints ns)
theorem Rps.bools : ∀ {vs : List V} {ns : List Bool}, Rps K G al vs (ns.map D.bl) → vs = ns.map V.bl
  | _, [], h => by cases h; rfl
  | _, n :: ns, h => by
    cases h with
    | cons r t => cases r; rw [Rps.bools (ns := ns) t]; rfl
theorem Rps.strs : ∀ {vs : List V} {ns : List Str}, Rps K G al vs (ns.map D.str) → vs = ns.map V.str
  | _, [], h => by cases h; rfl
  | _, n :: ns, h => by
    cases h with
    | cons r t => cases r; rw [Rps.strs (ns := ns) t]; rfl
theorem Rpf.look {fs : List (Str × V)} {gs : List (Str × D)} (h : Rpf K G al fs gs) {f : Str} {d : D} (e : gs.lookup f = some d) : ∃ v, fs.lookup f = some v ∧ Rp K G al v d := by
  induction gs generalizing fs with
  | nil => simp at e
  | cons x xs ih =>
    cases h with
    | cons r t =>
      rw [List.lookup_cons] at e ⊢
      split at e
      · cases e; exact ⟨_, rfl, r⟩
      · exact ih t e
theorem Rpf.none {fs : List (Str × V)} {gs : List (Str × D)} (h : Rpf K G al fs gs) {f : Str} (e : gs.lookup f = Option.none) : fs.lookup f = Option.none := by
  induction gs generalizing fs with
  | nil => cases h; rfl
  | cons x xs ih =>
    cases h with
    | cons r t =>
      rw [List.lookup_cons] at e ⊢
      split at e
      · cases e
      · exact ih t e
theorem Rpf.length {fs : List (Str × V)} {gs : List (Str × D)} (h : Rpf K G al fs gs) : fs.length = gs.length := by
  induction gs generalizing fs with
  | nil => cases h; rfl
  | cons d ds ih => cases h with | cons _ r => simp [ih r]
end
/-- a field put -/
def putD (f : Str) (v : D) : List (Str × D) → List (Str × D)
  | [] => [(f, v)]
  | (g, x) :: r => if g = f then (g, v) :: r else (g, x) :: putD f v r
theorem Rpf.put {K : PySem.W.Frag} {G : Hp} {al : List Addr} {fs : List (Str × V)} {gs : List (Str × D)} (h : Rpf K G al fs gs) (f : Str) {v : V} {d : D} (r : Rp K G al v d) : Rpf K G al (putF f v fs) (putD f d gs) := by
  induction gs generalizing fs with
  | nil => cases h; exact .cons r .nil
  | cons x xs ih =>
    cases h with
    | cons r' t =>
      unfold putF putD
      split
      · exact .cons r t
      · exact .cons r' (ih t)
/-! ### the slots -/
def RpS (K : PySem.W.Frag) (G : Hp) (al : List Addr) (σ : St) (ρ : En) : Prop := σ.length = ρ.length ∧ ∀ (i : Nat) (d : D), ρ[i]? = some (some d) → ∃ v, σ[i]? = some (some v) ∧ Rp K G al v d
section
variable {K : PySem.W.Frag} {G G' : Hp} {al al' : List Addr} {σ : St} {ρ : En}
theorem RpS.mono (s : Same G G') (p : Pre al al') (h : RpS K G al σ ρ) : RpS K G' al' σ ρ := ⟨h.1, fun i d e => by
  obtain ⟨v, e1, r⟩ := h.2 i d e
  exact ⟨v, e1, r.mono s p⟩⟩
theorem RpS.set (h : RpS K G al σ ρ) (i : Nat) {v : V} {d : D} (r : Rp K G al v d) : RpS K G al (σ.set i (some v)) (ρ.set i (some d)) := by
  refine ⟨by simp [h.1], fun j e hj => ?_⟩
  rw [List.getElem?_set] at hj ⊢
  by_cases hij : i = j
  · subst hij
    rw [if_pos rfl] at hj ⊢
    by_cases hl : i < ρ.length
    · rw [if_pos hl] at hj
      have hl2 : i < σ.length := by rw [h.1]; exact hl
      rw [if_pos hl2]
      cases hj
      exact ⟨v, rfl, r⟩
    · rw [if_neg hl] at hj; cases hj
  · rw [if_neg hij] at hj ⊢
    exact h.2 j e hj
/-- a slot's value forgotten -/
theorem RpS.forget (h : RpS K G al σ ρ) (i : Nat) (x : Option V) : RpS K G al (σ.set i x) (ρ.set i none) := by
  refine ⟨by simp [h.1], fun j e hj => ?_⟩
  rw [List.getElem?_set] at hj ⊢
  by_cases hij : i = j
  · subst hij
    rw [if_pos rfl] at hj
    by_cases hl : i < ρ.length
    · rw [if_pos hl] at hj; cases hj
    · rw [if_neg hl] at hj; cases hj
  · rw [if_neg hij] at hj ⊢
    exact h.2 j e hj
end
/-! ### what may change -/
def OkO (K : PySem.W.Frag) (G H : Hp) (al : List Addr) (a : Addr) : MO → Prop
  | .dead => True
  | .lst ds => G a = none ∧ ∃ vs, H a = some (.lst vs) ∧ Rps K G al vs ds
  | .ins C gs => G a = none ∧ ∃ dx fs, H a = some (.ins C dx fs) ∧ Rpf K G al fs gs
  | .dK gs => G a = none ∧ ∃ kvs, H a = some (.dK kvs) ∧ Rpk K G al kvs gs
  | .dT gs => G a = none ∧ ∃ kvs : List (List Key × V), H a = some (.dT kvs) ∧ kvs.map (·.1) = gs.map (·.1) ∧ Rps K G al (kvs.map (·.2)) (gs.map (·.2))
  | .tab p q => G a = none ∧ a = p ∧ ∃ ps : Array Value, H a = some (.tbl ps) ∧ TriplesOk ps.toList ∧ ∀ (pos : Pos) (cv : Value), codeAmong pos ps.toList = some cv → ∃ c, cv = .ref c ∧ G c = some (LamX.CodeO c q)
structure As (K : PySem.W.Frag) (G H : Hp) (al : List Addr) (μ : Mu) : Prop where
  sub : Same G H
  nd : al.Nodup
  len : al.length = μ.length
  here : ∀ a ∈ al, H a ≠ none
  ok : ∀ (k : Nat) (a : Addr) (o : MO), al[k]? = some a → μ[k]? = some o → OkO K G H al a o
/-- a later state -/
structure Nx (G H : Hp) (al : List Addr) (G' H' : Hp) (al' : List Addr) : Prop where
  g : Same G G'
  p : Pre al al'
  keep : ∀ a o, H a = some o → a ∉ al → H' a = some o
  out : ∀ a, H a ≠ none → (∀ vs, H a ≠ some (.tup vs)) → a ∉ al → G a = none → G' a = none
  new : ∀ a ∈ al', a ∈ al ∨ H a = none
section
variable {K : PySem.W.Frag} {G G1 G2 H H1 H2 : Hp} {al al1 al2 : List Addr} {μ : Mu}
theorem Nx.refl : Nx G H al G H al := ⟨Same.refl _, Pre.refl _, fun _ _ h _ => h, fun _ _ _ _ h => h, fun _ h => .inl h⟩
theorem Nx.trans (a : Nx G H al G1 H1 al1) (b : Nx G1 H1 al1 G2 H2 al2) : Nx G H al G2 H2 al2 := by
  have nin : ∀ x o, H x = some o → x ∉ al → x ∉ al1 := fun x o h n m => by
    rcases a.new x m with z | z
    · exact n z
    · rw [h] at z; cases z
  refine ⟨a.g.trans b.g, a.p.trans b.p, fun x o h n => b.keep x o (a.keep x o h n) (nin x o h n), fun x h t n g => ?_, fun x m => ?_⟩
  · cases q : H x with
    | none => exact absurd q h
    | some o =>
      have h1 := a.keep x o q n
      exact b.out x (by rw [h1]; simp) (fun vs e => t vs (by rw [q, ← h1, e])) (nin x o q n) (a.out x h t n g)
  · rcases b.new x m with z | z
    · exact a.new x z
    · by_cases hx : x ∈ al
      · exact .inl hx
      · refine .inr ?_
        cases q : H x with
        | none => rfl
        | some o => rw [a.keep x o q hx] at z; cases z
theorem Rp.nx (n : Nx G H al G1 H1 al1) {v : V} {d : D} (h : Rp K G al v d) : Rp K G1 al1 v d := h.mono n.g n.p
theorem Rps.nx (n : Nx G H al G1 H1 al1) {v : List V} {d : List D} (h : Rps K G al v d) : Rps K G1 al1 v d := h.mono n.g n.p
theorem RpS.nx (n : Nx G H al G1 H1 al1) {σ : St} {ρ : En} (h : RpS K G al σ ρ) : RpS K G1 al1 σ ρ := h.mono n.g n.p
theorem OkO.mono {a : Addr} {o : MO} (s : Same G G1) (p : Pre al al1) (hg : o ≠ .dead → G a = none → G1 a = none) (hh : H1 a = H a) (h : OkO K G H al a o) : OkO K G1 H1 al1 a o := by
  cases o with
  | dead => trivial
  | lst ds => obtain ⟨g, vs, e, r⟩ := h; exact ⟨hg (by simp) g, vs, hh.trans e, r.mono s p⟩
  | ins C gs => obtain ⟨g, dx, vs, e, r⟩ := h; exact ⟨hg (by simp) g, dx, vs, hh.trans e, r.mono s p⟩
  | dK gs => obtain ⟨g, vs, e, r⟩ := h; exact ⟨hg (by simp) g, vs, hh.trans e, r.mono s p⟩
  | dT gs => obtain ⟨g, vs, e, k, r⟩ := h; exact ⟨hg (by simp) g, vs, hh.trans e, k, r.mono s p⟩
  | tab p q => obtain ⟨g, ep, ps, e, k, r⟩ := h; exact ⟨hg (by simp) g, ep, ps, hh.trans e, k, fun pos cv hc => let ⟨c, e1, e2⟩ := r pos cv hc; ⟨c, e1, s _ _ e2⟩⟩
/-- a new frozen thing -/
theorem As.frz {p : Addr} {o : HO} (A : As K G H al μ) (hp : H p = none) : As K (upd G p o) (upd H p o) al μ ∧ Nx G H al (upd G p o) (upd H p o) al := by
  have gp : G p = none := A.sub.free hp
  have s1 : Same G (upd G p o) := fun b u e => by rw [upd_ne (ne_of_none e gp)]; exact e
  have npal : p ∉ al := fun m => A.here p m hp
  refine ⟨⟨fun b u e => ?_, A.nd, A.len, fun a m => ?_, fun k a ob e1 e2 => ?_⟩, ⟨s1, Pre.refl _, fun a u h _ => ?_, fun a h _ n g => ?_, fun a m => .inl m⟩⟩
  · by_cases hb : b = p
    · subst hb; rw [upd_same] at e ⊢; exact e
    · rw [upd_ne hb] at e ⊢; exact A.sub _ _ e
  · have : a ≠ p := fun z => npal (z ▸ m)
    rw [upd_ne this]; exact A.here a m
  · have : a ≠ p := fun z => npal (z ▸ List.mem_of_getElem? e1)
    exact OkO.mono s1 (Pre.refl _) (fun _ g => by rw [upd_ne this]; exact g) (by rw [upd_ne this]) (A.ok k a ob e1 e2)
  · rw [upd_ne (ne_of_none h hp)]; exact h
  · have z : a ≠ p := fun z => h (by rw [z]; exact hp)
    rw [upd_ne z]; exact g
/-- a new thing that may change -/
theorem As.own {p : Addr} {o : HO} {m : MO} (A : As K G H al μ) (hp : H p = none) (ok : OkO K G (upd H p o) (al ++ [p]) p m) : As K G (upd H p o) (al ++ [p]) (μ ++ [m]) ∧ Nx G H al G (upd H p o) (al ++ [p]) := by
  have npal : p ∉ al := fun m => A.here p m hp
  have gp : G p = none := A.sub.free hp
  refine ⟨⟨fun b u e => ?_, ?_, by simp [A.len], fun a m => ?_, fun k a ob e1 e2 => ?_⟩, ⟨Same.refl _, ⟨[p], rfl⟩, fun a u h _ => ?_, fun a h _ n g => g, fun a m => ?_⟩⟩
  · rw [upd_ne (ne_of_none e gp)]; exact A.sub _ _ e
  · rw [List.nodup_append]
    exact ⟨A.nd, by simp, fun a ha b hb => by simp at hb; subst hb; exact fun z => npal (z ▸ ha)⟩
  · rcases List.mem_append.mp m with m | m
    · have : a ≠ p := fun z => npal (z ▸ m)
      rw [upd_ne this]; exact A.here a m
    · simp at m; subst m; rw [upd_same]; simp
  · by_cases hk : k < al.length
    · rw [List.getElem?_append_left hk] at e1
      rw [List.getElem?_append_left (by rw [← A.len]; exact hk)] at e2
      have : a ≠ p := fun z => npal (z ▸ List.mem_of_getElem? e1)
      exact OkO.mono (Same.refl _) ⟨[p], rfl⟩ (fun _ g => g) (by rw [upd_ne this]) (A.ok k a ob e1 e2)
    · have hk1 := (List.getElem?_eq_some_iff.mp e1).1
      have hk' : k = al.length := by simp at hk1; omega
      subst hk'
      simp at e1
      rw [A.len] at e2
      simp at e2
      subst e1 e2
      exact ok
  · rw [upd_ne (ne_of_none h hp)]; exact h
  · rcases List.mem_append.mp m with m | m
    · exact .inl m
    · simp at m; subst m; exact .inr hp
/-- a thing that may change is changed -/
theorem As.put {k : Nat} {a : Addr} {o : HO} {m m' : MO} (A : As K G H al μ) (hk : al[k]? = some a) (hm : μ[k]? = some m) (hd : m ≠ .dead) (ok : OkO K G (upd H a o) al a m') : As K G (upd H a o) al (μ.set k m') ∧ Nx G H al G (upd H a o) al := by
  have ga : G a = none := by
    have := A.ok k a m hk hm
    cases m with
    | dead => exact absurd rfl hd
    | lst _ => exact this.1
    | ins _ _ => exact this.1
    | dK _ => exact this.1
    | dT _ => exact this.1
    | tab _ _ => exact this.1
  have ma : a ∈ al := List.mem_of_getElem? hk
  refine ⟨⟨fun b u e => ?_, A.nd, by simp [A.len], fun b m => ?_, fun j b ob e1 e2 => ?_⟩, ⟨Same.refl _, Pre.refl _, fun b u h n => ?_, fun _ _ _ _ g => g, fun _ m => .inl m⟩⟩
  · rw [upd_ne (ne_of_none e ga)]; exact A.sub _ _ e
  · by_cases hb : b = a
    · subst hb; rw [upd_same]; simp
    · rw [upd_ne hb]; exact A.here b m
  · rw [List.getElem?_set] at e2
    by_cases hj : k = j
    · subst hj
      rw [if_pos rfl] at e2
      split at e2
      · cases e2; rw [hk] at e1; cases e1; exact ok
      · cases e2
    · rw [if_neg hj] at e2
      have hne : b ≠ a := fun z => by
        subst z
        exact hj (nd_ix A.nd hk e1)
      exact OkO.mono (Same.refl _) (Pre.refl _) (fun _ g => g) (by rw [upd_ne hne]) (A.ok j b ob e1 e2)
  · have z : b ≠ a := fun z => n (by rw [z]; exact ma)
    rw [upd_ne z]; exact h
/-- .. it is frozen -/
theorem As.freeze {k : Nat} {a : Addr} {o : HO} (A : As K G H al μ) (hk : al[k]? = some a) (ha : H a = some o) (ga : G a = none) : As K (upd G a o) H al (μ.set k .dead) ∧ Nx G H al (upd G a o) H al := by
  have ma : a ∈ al := List.mem_of_getElem? hk
  have s1 : Same G (upd G a o) := fun b u e => by rw [upd_ne (ne_of_none e ga)]; exact e
  refine ⟨⟨fun b u e => ?_, A.nd, by simp [A.len], A.here, fun j b ob e1 e2 => ?_⟩, ⟨s1, Pre.refl _, fun b u h n => h, fun b h _ n g => ?_, fun _ m => .inl m⟩⟩
  · by_cases hb : b = a
    · subst hb; rw [upd_same] at e; rw [← e]; exact ha
    · rw [upd_ne hb] at e; exact A.sub _ _ e
  · rw [List.getElem?_set] at e2
    by_cases hj : k = j
    · subst hj
      rw [if_pos rfl] at e2
      split at e2
      · cases e2; trivial
      · cases e2
    · rw [if_neg hj] at e2
      have hne : b ≠ a := fun z => by
        subst z
        exact hj (nd_ix A.nd hk e1)
      exact OkO.mono s1 (Pre.refl _) (fun _ g => by rw [upd_ne hne]; exact g) rfl (A.ok j b ob e1 e2)
  · have z : b ≠ a := fun z => n (by rw [z]; exact ma)
    rw [upd_ne z]; exact g
theorem As.get {k : Nat} {m : MO} (A : As K G H al μ) (hm : μ[k]? = some m) : ∃ a, al[k]? = some a ∧ OkO K G H al a m := by
  have hk : k < al.length := by rw [A.len]; exact (List.getElem?_eq_some_iff.mp hm).1
  exact ⟨al[k], List.getElem?_eq_getElem hk, A.ok k _ m (List.getElem?_eq_getElem hk) hm⟩
end
end Dl
set_option Elab.async false
set_option linter.all false
set_option maxRecDepth 100000
namespace Dl
open PySem L2
/-! ### judgements over data -/
structure Bs where
  G : Hp
  H : Hp
  al : List Addr
abbrev Bs.le (B : Bs) (G H : Hp) (al : List Addr) : Prop := Nx B.G B.H B.al G H al
section
variable (K : PySem.W.Frag)
def KV (G H : Hp) (al : List Addr) (P : D → Mu → Prop) (Q : VK) : Prop := ∀ v d μ' G' H' al', Nx G H al G' H' al' → As K G' H' al' μ' → Rp K G' al' v d → P d μ' → Q v H'
def KT (G H : Hp) (al : List Addr) (P : Bool → Mu → Prop) (Q : Bool → Hp → Prop) : Prop := ∀ b μ' G' H' al', Nx G H al G' H' al' → As K G' H' al' μ' → P b μ' → Q b H'
def KA (G H : Hp) (al : List Addr) (P : List D → Mu → Prop) (Q : List V → Hp → Prop) : Prop := ∀ vs ds μ' G' H' al', Nx G H al G' H' al' → As K G' H' al' μ' → Rps K G' al' vs ds → P ds μ' → Q vs H'
def KS (G H : Hp) (al : List Addr) (P : En → Mu → Prop) (Q : St → Hp → Prop) : Prop := ∀ σ' ρ' μ' G' H' al', Nx G H al G' H' al' → RpS K G' al' σ' ρ' → As K G' H' al' μ' → P ρ' μ' → Q σ' H'
def DE (B : Bs) (te : TE) (ρ : En) (μ : Mu) (P : D → Mu → Prop) : Prop := ∀ σ G H al, B.le G H al → RpS K G al σ ρ → As K G H al μ → ∀ Q, KV K G H al P Q → te σ H Q
def DT (B : Bs) (tt : TT) (ρ : En) (μ : Mu) (P : Bool → Mu → Prop) : Prop := ∀ σ G H al, B.le G H al → RpS K G al σ ρ → As K G H al μ → ∀ Q, KT K G H al P Q → tt σ H Q
def DA (B : Bs) (ta : TA) (ρ : En) (μ : Mu) (P : List D → Mu → Prop) : Prop := ∀ σ G H al, B.le G H al → RpS K G al σ ρ → As K G H al μ → ∀ Q, KA K G H al P Q → ta σ H Q
/-- a part of a slice -/
def DO (B : Bs) (to : TO) (ρ : En) (μ : Mu) (P : Option Int → Mu → Prop) : Prop := ∀ σ G H al, B.le G H al → RpS K G al σ ρ → As K G H al μ → ∀ Q : Option Int → Hp → Prop, (∀ o μ' G' H' al', Nx G H al G' H' al' → As K G' H' al' μ' → P o μ' → Q o H') → to σ H Q
def DG (B : Bs) (g : TG) (d : D) (ρ : En) (μ : Mu) (P : En → Mu → Prop) : Prop := ∀ σ G H al v, B.le G H al → RpS K G al σ ρ → As K G H al μ → Rp K G al v d → ∀ Q, KS K G H al P Q → g v σ H Q
def DGs (B : Bs) (g : TGs) (ds : List D) (ρ : En) (μ : Mu) (P : En → Mu → Prop) : Prop := ∀ σ G H al vs, B.le G H al → RpS K G al σ ρ → As K G H al μ → Rps K G al vs ds → ∀ Q, KS K G H al P Q → g vs σ H Q
/-- operations on values -/
def RO (r : R2) (x y : D) (μ : Mu) (P : D → Mu → Prop) : Prop := ∀ G H al v w, As K G H al μ → Rp K G al v x → Rp K G al w y → ∀ Q, KV K G H al P Q → r v w H Q
def RU (r : V → Hp → VK → Prop) (x : D) (μ : Mu) (P : D → Mu → Prop) : Prop := ∀ G H al v, As K G H al μ → Rp K G al v x → ∀ Q, KV K G H al P Q → r v H Q
def RC (r : List V → Hp → VK → Prop) (xs : List D) (μ : Mu) (P : D → Mu → Prop) : Prop := ∀ G H al vs, As K G H al μ → Rps K G al vs xs → ∀ Q, KV K G H al P Q → r vs H Q
def RM (r : V → List V → Hp → VK → Prop) (x : D) (xs : List D) (μ : Mu) (P : D → Mu → Prop) : Prop := ∀ G H al v vs, As K G H al μ → Rp K G al v x → Rps K G al vs xs → ∀ Q, KV K G H al P Q → r v vs H Q
def RS (r : V → Option Int → Option Int → Hp → VK → Prop) (x : D) (lo hi : Option Int) (μ : Mu) (P : D → Mu → Prop) : Prop := ∀ G H al v, As K G H al μ → Rp K G al v x → ∀ Q, KV K G H al P Q → r v lo hi H Q
def RSet (r : V → V → V → Hp → (Hp → Prop) → Prop) (o i d : D) (μ : Mu) (P : Mu → Prop) : Prop := ∀ G H al v w u, As K G H al μ → Rp K G al v o → Rp K G al w i → Rp K G al u d → ∀ Q : Hp → Prop, (∀ μ' G' H' al', Nx G H al G' H' al' → As K G' H' al' μ' → P μ' → Q H') → r v w u H Q
end
structure DEnds where
  nx : En → Mu → Prop
  rt : D → Mu → Prop
  bk : En → Mu → Prop := fun _ _ => False
  ct : En → Mu → Prop := fun _ _ => False
structure Ag (K : PySem.W.Frag) (G H : Hp) (al : List Addr) (P : DEnds) (De : Ends) : Prop where
  nx : KS K G H al P.nx De.nx
  rt : KV K G H al P.rt De.rt
  bk : KS K G H al P.bk De.bk
  ct : KS K G H al P.ct De.ct
def DS (K : PySem.W.Frag) (B : Bs) (t : TS) (ρ : En) (μ : Mu) (P : DEnds) : Prop := ∀ σ G H al, B.le G H al → RpS K G al σ ρ → As K G H al μ → ∀ De, Ag K G H al P De → t De σ H
section
variable {K : PySem.W.Frag} {B : Bs} {G H G1 H1 : Hp} {al al1 : List Addr}
theorem KV.nx {P : D → Mu → Prop} {Q : VK} (n : Nx G H al G1 H1 al1) (h : KV K G H al P Q) : KV K G1 H1 al1 P Q := fun v d μ' G' H' al' n' A r p => h v d μ' G' H' al' (n.trans n') A r p
theorem KT.nx {P : Bool → Mu → Prop} {Q : Bool → Hp → Prop} (n : Nx G H al G1 H1 al1) (h : KT K G H al P Q) : KT K G1 H1 al1 P Q := fun v μ' G' H' al' n' A p => h v μ' G' H' al' (n.trans n') A p
theorem KA.nx {P : List D → Mu → Prop} {Q : List V → Hp → Prop} (n : Nx G H al G1 H1 al1) (h : KA K G H al P Q) : KA K G1 H1 al1 P Q := fun v d μ' G' H' al' n' A r p => h v d μ' G' H' al' (n.trans n') A r p
theorem KS.nx {P : En → Mu → Prop} {Q : St → Hp → Prop} (n : Nx G H al G1 H1 al1) (h : KS K G H al P Q) : KS K G1 H1 al1 P Q := fun v d μ' G' H' al' n' A r p => h v d μ' G' H' al' (n.trans n') A r p
theorem Ag.nx' {P : DEnds} {De : Ends} (n : Nx G H al G1 H1 al1) (h : Ag K G H al P De) : Ag K G1 H1 al1 P De := ⟨h.nx.nx n, h.rt.nx n, h.bk.nx n, h.ct.nx n⟩
theorem KV.now {P : D → Mu → Prop} {Q : VK} {v : V} {d : D} {μ : Mu} (h : KV K G H al P Q) (A : As K G H al μ) (r : Rp K G al v d) (p : P d μ) : Q v H := h v d μ G H al .refl A r p
variable {ρ : En} {μ : Mu} {P : D → Mu → Prop} {ta tb te tc : TE}
/-! ### expressions -/
theorem DE.imp {P' : D → Mu → Prop} (h : DE K B te ρ μ P') (i : ∀ d μ', P' d μ' → P d μ') : DE K B te ρ μ P := fun σ G H al hB hσ hA Q hQ => h σ G H al hB hσ hA Q fun v d μ' G' H' al' n A r p => hQ v d μ' G' H' al' n A r (i d μ' p)
theorem de_var {i : Nat} {d : D} (e : ρ[i]? = some (some d)) (h : P d μ) : DE K B (tVar i) ρ μ P := fun σ G H al hB hσ hA Q hQ => by
  obtain ⟨v, e1, r⟩ := hσ.2 i d e
  exact ⟨v, e1, hQ.now hA r h⟩
theorem de_int {i : Int} (h : P (.int i) μ) : DE K B (tC (.int i)) ρ μ P := fun σ G H al hB hσ hA Q hQ => hQ.now hA (.int i) h
theorem de_bl {i : Bool} (h : P (.bl i) μ) : DE K B (tC (.bl i)) ρ μ P := fun σ G H al hB hσ hA Q hQ => hQ.now hA (.bl i) h
theorem de_non (h : P .non μ) : DE K B (tC .non) ρ μ P := fun σ G H al hB hσ hA Q hQ => hQ.now hA .non h
theorem de_str {x : Str} (h : P (.str x) μ) : DE K B (tC (.str x)) ρ μ P := fun σ G H al hB hσ hA Q hQ => hQ.now hA (.str x) h
theorem de_ty {x : String} (h : P (.ty x) μ) : DE K B (tC (.ty x)) ρ μ P := fun σ G H al hB hσ hA Q hQ => hQ.now hA (.ty x) h
theorem de_loc {x : Addr} (h : P (.loc x) μ) : DE K B (tC (.ref x)) ρ μ P := fun σ G H al hB hσ hA Q hQ => hQ.now hA (.loc x) h
theorem de_op {r : R2} (h : DE K B ta ρ μ fun x μ1 => DE K B tb ρ μ1 fun y μ2 => RO K r x y μ2 P) : DE K B (tOp r ta tb) ρ μ P := fun σ G H al hB hσ hA Q hQ =>
  h σ G H al hB hσ hA _ fun v d μ1 G1 H1 al1 n1 A1 r1 p1 => p1 σ G1 H1 al1 (hB.trans n1) (hσ.nx n1) A1 _ fun w e μ2 G2 H2 al2 n2 A2 r2 p2 => p2 G2 H2 al2 v w A2 (r1.nx n2) r2 Q (hQ.nx (n1.trans n2))
theorem de_un {r : V → Hp → VK → Prop} (h : DE K B ta ρ μ fun x μ1 => RU K r x μ1 P) : DE K B (tUn r ta) ρ μ P := fun σ G H al hB hσ hA Q hQ =>
  h σ G H al hB hσ hA _ fun v d μ1 G1 H1 al1 n1 A1 r1 p1 => p1 G1 H1 al1 v A1 r1 Q (hQ.nx n1)
theorem de_chain {r r' : R2} (h : DE K B ta ρ μ fun x μ1 => DE K B tb ρ μ1 fun y μ2 => RO K r x y μ2 fun z μ3 => ∃ b, z = .bl b ∧ (b = true → DE K B tc ρ μ3 fun w μ4 => RO K r' y w μ4 P) ∧ (b = false → P (.bl false) μ3)) :
    DE K B (tChain r r' ta tb tc) ρ μ P := fun σ G H al hB hσ hA Q hQ =>
  h σ G H al hB hσ hA _ fun v d μ1 G1 H1 al1 n1 A1 r1 p1 => p1 σ G1 H1 al1 (hB.trans n1) (hσ.nx n1) A1 _ fun w e μ2 G2 H2 al2 n2 A2 r2 p2 =>
    p2 G2 H2 al2 v w A2 (r1.nx n2) r2 _ fun z dz μ3 G3 H3 al3 n3 A3 r3 p3 => by
      obtain ⟨b, rfl, pt, pf⟩ := p3
      cases r3
      refine ⟨b, rfl, ?_⟩
      cases b with
      | true =>
        rw [if_pos rfl]
        exact pt rfl σ G3 H3 al3 ((hB.trans n1).trans (n2.trans n3)) (((hσ.nx n1).nx n2).nx n3) A3 _ fun u du μ4 G4 H4 al4 n4 A4 r4 p4 => p4 G4 H4 al4 w u A4 ((r2.nx n3).nx n4) r4 Q (hQ.nx (((n1.trans n2).trans n3).trans n4))
      | false =>
        rw [if_neg (by simp)]
        exact hQ (.bl false) _ μ3 G3 H3 al3 ((n1.trans n2).trans n3) A3 (.bl _) (pf rfl)
theorem de_andV (h : DE K B ta ρ μ fun x μ1 => ∃ b, x = .bl b ∧ (b = true → DE K B tb ρ μ1 P) ∧ (b = false → P (.bl false) μ1)) : DE K B (tAndV ta tb) ρ μ P := fun σ G H al hB hσ hA Q hQ =>
  h σ G H al hB hσ hA _ fun v d μ1 G1 H1 al1 n1 A1 r1 p1 => by
    obtain ⟨b, rfl, pt, pf⟩ := p1
    cases r1
    refine ⟨b, rfl, ?_⟩
    cases b with
    | true => rw [if_pos rfl]; exact pt rfl σ G1 H1 al1 (hB.trans n1) (hσ.nx n1) A1 Q (hQ.nx n1)
    | false => rw [if_neg (by simp)]; exact hQ (.bl false) _ μ1 G1 H1 al1 n1 A1 (.bl _) (pf rfl)
theorem de_orV (h : DE K B ta ρ μ fun x μ1 => ∃ b, x = .bl b ∧ (b = false → DE K B tb ρ μ1 P) ∧ (b = true → P (.bl true) μ1)) : DE K B (tOrV ta tb) ρ μ P := fun σ G H al hB hσ hA Q hQ =>
  h σ G H al hB hσ hA _ fun v d μ1 G1 H1 al1 n1 A1 r1 p1 => by
    obtain ⟨b, rfl, pt, pf⟩ := p1
    cases r1
    refine ⟨b, rfl, ?_⟩
    cases b with
    | false => rw [if_neg (by simp)]; exact pt rfl σ G1 H1 al1 (hB.trans n1) (hσ.nx n1) A1 Q (hQ.nx n1)
    | true => rw [if_pos rfl]; exact hQ (.bl true) _ μ1 G1 H1 al1 n1 A1 (.bl _) (pf rfl)
theorem de_notV (h : DE K B ta ρ μ fun x μ1 => ∃ b, x = .bl b ∧ P (.bl (!b)) μ1) : DE K B (tNotV ta) ρ μ P := fun σ G H al hB hσ hA Q hQ =>
  h σ G H al hB hσ hA _ fun v d μ1 G1 H1 al1 n1 A1 r1 p1 => by
    obtain ⟨b, rfl, pt⟩ := p1
    cases r1
    exact ⟨b, rfl, hQ _ _ μ1 G1 H1 al1 n1 A1 (.bl _) pt⟩
theorem de_if {t : TT} (h : DT K B t ρ μ fun b μ1 => (b = true → DE K B ta ρ μ1 P) ∧ (b = false → DE K B tb ρ μ1 P)) : DE K B (tIf t ta tb) ρ μ P := fun σ G H al hB hσ hA Q hQ =>
  h σ G H al hB hσ hA _ fun b μ1 G1 H1 al1 n1 A1 p1 => by
    cases b with
    | true => rw [if_pos rfl]; exact p1.1 rfl σ G1 H1 al1 (hB.trans n1) (hσ.nx n1) A1 Q (hQ.nx n1)
    | false => rw [if_neg (by simp)]; exact p1.2 rfl σ G1 H1 al1 (hB.trans n1) (hσ.nx n1) A1 Q (hQ.nx n1)
theorem de_isN (h : DE K B ta ρ μ fun x μ1 => ∃ b, (b = true ↔ x = .non) ∧ P (.bl b) μ1) : DE K B (tIsN ta) ρ μ P := fun σ G H al hB hσ hA Q hQ =>
  h σ G H al hB hσ hA _ fun v d μ1 G1 H1 al1 n1 A1 r1 p1 => by
    obtain ⟨b, hb, p⟩ := p1
    have e : decide (v = .non) = b := by
      cases d with
      | non => cases r1; simp at hb; simp [hb]
      | _ => cases r1 <;> simp at hb <;> simp [hb]
    rw [e]
    exact hQ _ _ μ1 G1 H1 al1 n1 A1 (.bl _) p
theorem de_notN (h : DE K B ta ρ μ fun x μ1 => ∃ b, (b = true ↔ x = .non) ∧ P (.bl (!b)) μ1) : DE K B (tNotN ta) ρ μ P := fun σ G H al hB hσ hA Q hQ =>
  h σ G H al hB hσ hA _ fun v d μ1 G1 H1 al1 n1 A1 r1 p1 => by
    obtain ⟨b, hb, p⟩ := p1
    have e : decide (v = .non) = b := by
      cases d with
      | non => cases r1; simp at hb; simp [hb]
      | _ => cases r1 <;> simp at hb <;> simp [hb]
    rw [e]
    exact hQ _ _ μ1 G1 H1 al1 n1 A1 (.bl _) p
/-! tests -/
variable {PT' : Bool → Mu → Prop} {t u : TT}
theorem dt_test (h : DE K B te ρ μ fun x μ1 => ∃ b, x = .bl b ∧ PT' b μ1) : DT K B (tTest te) ρ μ PT' := fun σ G H al hB hσ hA Q hQ =>
  h σ G H al hB hσ hA _ fun v d μ1 G1 H1 al1 n1 A1 r1 p1 => by
    obtain ⟨b, rfl, p⟩ := p1
    cases r1
    exact ⟨b, rfl, hQ b μ1 G1 H1 al1 n1 A1 p⟩
theorem dt_B (h : DE K B te ρ μ fun x μ1 => ∃ b, x = .bl b ∧ PT' b μ1) : DT K B (tB te) ρ μ PT' := dt_test h
theorem dt_and (h : DT K B t ρ μ fun b μ1 => (b = true → DT K B u ρ μ1 PT') ∧ (b = false → PT' false μ1)) : DT K B (tAnd t u) ρ μ PT' := fun σ G H al hB hσ hA Q hQ =>
  h σ G H al hB hσ hA _ fun b μ1 G1 H1 al1 n1 A1 p1 => by
    cases b with
    | true => rw [if_pos rfl]; exact p1.1 rfl σ G1 H1 al1 (hB.trans n1) (hσ.nx n1) A1 Q (hQ.nx n1)
    | false => rw [if_neg (by simp)]; exact hQ false μ1 G1 H1 al1 n1 A1 (p1.2 rfl)
theorem dt_or (h : DT K B t ρ μ fun b μ1 => (b = false → DT K B u ρ μ1 PT') ∧ (b = true → PT' true μ1)) : DT K B (tOr t u) ρ μ PT' := fun σ G H al hB hσ hA Q hQ =>
  h σ G H al hB hσ hA _ fun b μ1 G1 H1 al1 n1 A1 p1 => by
    cases b with
    | false => rw [if_neg (by simp)]; exact p1.1 rfl σ G1 H1 al1 (hB.trans n1) (hσ.nx n1) A1 Q (hQ.nx n1)
    | true => rw [if_pos rfl]; exact hQ true μ1 G1 H1 al1 n1 A1 (p1.2 rfl)
theorem dt_not (h : DT K B t ρ μ fun b μ1 => PT' (!b) μ1) : DT K B (tNot t) ρ μ PT' := fun σ G H al hB hσ hA Q hQ =>
  h σ G H al hB hσ hA _ fun b μ1 G1 H1 al1 n1 A1 p1 => hQ (!b) μ1 G1 H1 al1 n1 A1 p1
/-! arguments -/
variable {PA' : List D → Mu → Prop} {tr : TA}
theorem da_nil (h : PA' [] μ) : DA K B tNil ρ μ PA' := fun σ G H al hB hσ hA Q hQ => hQ [] [] μ G H al .refl hA .nil h
theorem da_cons (h : DE K B ta ρ μ fun x μ1 => DA K B tr ρ μ1 fun xs μ2 => PA' (x :: xs) μ2) : DA K B (tCons ta tr) ρ μ PA' := fun σ G H al hB hσ hA Q hQ =>
  h σ G H al hB hσ hA _ fun v d μ1 G1 H1 al1 n1 A1 r1 p1 => p1 σ G1 H1 al1 (hB.trans n1) (hσ.nx n1) A1 _ fun vs ds μ2 G2 H2 al2 n2 A2 r2 p2 => hQ (v :: vs) (d :: ds) μ2 G2 H2 al2 (n1.trans n2) A2 (.cons (r1.nx n2) r2) p2
theorem de_tup {ts : TA} (h : DA K B ts ρ μ fun xs μ1 => xs.length ≤ 100000 ∧ P (.tup xs) μ1) : DE K B (tTup ts) ρ μ P := fun σ G H al hB hσ hA Q hQ =>
  h σ G H al hB hσ hA _ fun vs ds μ1 G1 H1 al1 n1 A1 r1 p1 => by
    refine ⟨by rw [r1.length]; exact Nat.le_trans p1.1 (by decide), fun p hp => ?_⟩
    obtain ⟨A2, n2⟩ := A1.frz (o := .tup vs) hp
    exact hQ _ _ μ1 _ _ al1 (n1.trans n2) A2 (.tup upd_same (r1.nx n2)) p1.2
/-- a list, frozen at once -/
theorem de_lst {ts : TA} (h : DA K B ts ρ μ fun xs μ1 => xs.length ≤ 100000 ∧ P (.lst xs) μ1) : DE K B (tLst ts) ρ μ P := fun σ G H al hB hσ hA Q hQ =>
  h σ G H al hB hσ hA _ fun vs ds μ1 G1 H1 al1 n1 A1 r1 p1 => by
    refine ⟨by rw [r1.length]; exact Nat.le_trans p1.1 (by decide), fun p hp => ?_⟩
    obtain ⟨A2, n2⟩ := A1.frz (o := .lst vs) hp
    exact hQ _ _ μ1 _ _ al1 (n1.trans n2) A2 (.lst upd_same (r1.nx n2)) p1.2
/-- a list that will change -/
theorem de_lstO {ts : TA} (h : DA K B ts ρ μ fun xs μ1 => xs.length ≤ 100000 ∧ P (.own μ1.length) (μ1 ++ [.lst xs])) : DE K B (tLst ts) ρ μ P := fun σ G H al hB hσ hA Q hQ =>
  h σ G H al hB hσ hA _ fun vs ds μ1 G1 H1 al1 n1 A1 r1 p1 => by
    refine ⟨by rw [r1.length]; exact Nat.le_trans p1.1 (by decide), fun p hp => ?_⟩
    obtain ⟨A2, n2⟩ := A1.own (o := .lst vs) (m := .lst ds) hp ⟨A1.sub.free hp, vs, upd_same, r1.mono (Same.refl _) ⟨[p], rfl⟩⟩
    exact hQ _ _ _ _ _ _ (n1.trans n2) A2 (.own (by rw [← A1.len]; simp)) p1.2
theorem de_cb {r : List V → Hp → VK → Prop} {ts : TA} (h : DA K B ts ρ μ fun xs μ1 => RC K r xs μ1 P) : DE K B (tCB r ts) ρ μ P := fun σ G H al hB hσ hA Q hQ =>
  h σ G H al hB hσ hA _ fun vs ds μ1 G1 H1 al1 n1 A1 r1 p1 => p1 G1 H1 al1 vs A1 r1 Q (hQ.nx n1)
theorem do_no {PO : Option Int → Mu → Prop} (h : PO none μ) : DO K B tNoPart ρ μ PO := fun σ G H al hB hσ hA Q hQ => hQ none μ G H al .refl hA h
theorem do_part {PO : Option Int → Mu → Prop} (h : DE K B te ρ μ fun x μ1 => ∃ i, x = .int i ∧ PO (some i) μ1) : DO K B (tPart te) ρ μ PO := fun σ G H al hB hσ hA Q hQ =>
  h σ G H al hB hσ hA _ fun v d μ1 G1 H1 al1 n1 A1 r1 p1 => by
    obtain ⟨i, rfl, p⟩ := p1
    cases r1
    exact ⟨i, rfl, hQ _ μ1 G1 H1 al1 n1 A1 p⟩
theorem de_sl {r : V → Option Int → Option Int → Hp → VK → Prop} {tl th : TO} (h : DE K B te ρ μ fun x μ1 => DO K B tl ρ μ1 fun lo μ2 => DO K B th ρ μ2 fun hi μ3 => RS K r x lo hi μ3 P) : DE K B (tSl r te tl th) ρ μ P := fun σ G H al hB hσ hA Q hQ =>
  h σ G H al hB hσ hA _ fun v d μ1 G1 H1 al1 n1 A1 r1 p1 => p1 σ G1 H1 al1 (hB.trans n1) (hσ.nx n1) A1 _ fun lo μ2 G2 H2 al2 n2 A2 p2 =>
    p2 σ G2 H2 al2 ((hB.trans n1).trans n2) ((hσ.nx n1).nx n2) A2 _ fun hi μ3 G3 H3 al3 n3 A3 p3 => p3 G3 H3 al3 v A3 ((r1.nx n2).nx n3) Q (hQ.nx ((n1.trans n2).trans n3))
/-! fields, methods of built-in types -/
theorem de_fld {f : Str} (h : DE K B te ρ μ fun x μ1 => ∃ C gs d, (x = .obj C gs ∨ ∃ k, x = .own k ∧ μ1[k]? = some (.ins C gs)) ∧ Cls K C ∧ NoAttr K C f ∧ gs.lookup f = some d ∧ P d μ1) : DE K B (tFld K te f) ρ μ P := fun σ G H al hB hσ hA Q hQ =>
  h σ G H al hB hσ hA _ fun v d μ1 G1 H1 al1 n1 A1 r1 p1 => by
    obtain ⟨C, gs, z, hx, cl, na, lk, p⟩ := p1
    rcases hx with rfl | ⟨k, rfl, hk⟩
    · cases r1 with
      | obj e rf =>
        obtain ⟨w, lw, rw'⟩ := rf.look lk
        exact ⟨_, C, _, _, w, rfl, A1.sub _ _ e, cl, na, lw, hQ _ _ μ1 _ _ _ n1 A1 rw' p⟩
    · obtain ⟨a, ha, ok⟩ := A1.get hk
      cases r1 with
      | own e =>
        rw [ha] at e
        cases e
        obtain ⟨ga, dx, fs, hv, rf⟩ := ok
        obtain ⟨w, lw, rw'⟩ := rf.look lk
        exact ⟨_, C, _, _, w, rfl, hv, cl, na, lw, hQ _ _ μ1 _ _ _ n1 A1 rw' p⟩
theorem de_bm {T : String} {r : V → List V → Hp → VK → Prop} {ts : TA} (h : DE K B te ρ μ fun x μ1 => (∀ G H al v, As K G H al μ1 → Rp K G al v x → tyV K T v H) ∧ DA K B ts ρ μ1 fun xs μ2 => RM K r x xs μ2 P) : DE K B (tBM K T r te ts) ρ μ P := fun σ G H al hB hσ hA Q hQ =>
  h σ G H al hB hσ hA _ fun v d μ1 G1 H1 al1 n1 A1 r1 p1 => ⟨p1.1 G1 H1 al1 v A1 r1, p1.2 σ G1 H1 al1 (hB.trans n1) (hσ.nx n1) A1 _ fun vs ds μ2 G2 H2 al2 n2 A2 r2 p2 => p2 G2 H2 al2 v vs A2 (r1.nx n2) r2 Q (hQ.nx (n1.trans n2))⟩
theorem de_bm0 {T : String} {r : V → List V → Hp → VK → Prop} (h : DE K B te ρ μ fun x μ1 => (∀ G H al v, As K G H al μ1 → Rp K G al v x → tyV K T v H) ∧ RM K r x [] μ1 P) : DE K B (tBM0 K T r te) ρ μ P := fun σ G H al hB hσ hA Q hQ =>
  h σ G H al hB hσ hA _ fun v d μ1 G1 H1 al1 n1 A1 r1 p1 => ⟨p1.1 G1 H1 al1 v A1 r1, p1.2 G1 H1 al1 v [] A1 r1 .nil Q (hQ.nx n1)⟩
end
theorem set_id {α : Type} : ∀ {l : List α} {i : Nat} {x : α}, l[i]? = some x → l.set i x = l
  | [], _, _, h => by simp at h
  | a :: r, 0, x, h => by simp at h; subst h; rfl
  | a :: r, i + 1, x, h => by simp at h; simp [set_id h]
/-! ### targets, statements -/
section
variable {K : PySem.W.Frag} {B : Bs} {ρ : En} {μ : Mu} {P : DEnds} {te ta tb : TE} {t u : TS} {PG' : En → Mu → Prop}
theorem dg_name {i : Nat} {d : D} (h : PG' (ρ.set i (some d)) μ) : DG K B (gName i) d ρ μ PG' := fun σ G H al v hB hσ hA r Q hQ => hQ _ _ μ G H al .refl (hσ.set i r) hA h
theorem dgs_nil (h : PG' ρ μ) : DGs K B gNil [] ρ μ PG' := fun σ G H al vs hB hσ hA r Q hQ => by
  cases r
  exact ⟨rfl, hQ _ _ μ G H al .refl hσ hA h⟩
theorem dgs_cons {g : TG} {gs : TGs} {d : D} {ds : List D} (h : DG K B g d ρ μ fun ρ1 μ1 => DGs K B gs ds ρ1 μ1 PG') : DGs K B (gCons g gs) (d :: ds) ρ μ PG' := fun σ G H al vs hB hσ hA r Q hQ => by
  cases r with
  | cons r1 rs => exact ⟨_, _, rfl, h σ G H al _ hB hσ hA r1 _ fun σ1 ρ1 μ1 G1 H1 al1 n1 hσ1 A1 p1 => p1 σ1 G1 H1 al1 _ (hB.trans n1) hσ1 A1 (rs.nx n1) Q (hQ.nx n1)⟩
theorem dg_tup {n : Nat} {gs : TGs} {ds : List D} (hn : ds.length = n) (h : DGs K B gs ds ρ μ PG') : DG K B (gTup K n gs) (.tup ds) ρ μ PG' := fun σ G H al v hB hσ hA r Q hQ => by
  cases r with
  | tup e rs => exact ⟨_, _, rfl, .inl (.inl (hA.sub _ _ e)), rs.length.trans hn, h σ G H al _ hB hσ hA rs Q hQ⟩
theorem dg_sub {to ti : TE} {r : TSet} {d : D} (h : DE K B to ρ μ fun o μ1 => DE K B ti ρ μ1 fun i μ2 => RSet K r o i d μ2 fun μ3 => PG' ρ μ3) : DG K B (gSub to ti r) d ρ μ PG' := fun σ G H al v hB hσ hA rv Q hQ =>
  h σ G H al hB hσ hA _ fun vo o μ1 G1 H1 al1 n1 A1 r1 p1 => p1 σ G1 H1 al1 (hB.trans n1) (hσ.nx n1) A1 _ fun vi i μ2 G2 H2 al2 n2 A2 r2 p2 =>
    p2 G2 H2 al2 vo vi v A2 (r1.nx n2) r2 ((rv.nx n1).nx n2) _ fun μ3 G3 H3 al3 n3 A3 p3 => hQ _ _ μ3 G3 H3 al3 ((n1.trans n2).trans n3) (((hσ.nx n1).nx n2).nx n3) A3 p3
theorem ds_next (h : P.nx ρ μ) : DS K B tNext ρ μ P := fun σ G H al hB hσ hA De hD => hD.nx _ _ μ G H al .refl hσ hA h
theorem ds_seq (h : DS K B t ρ μ { P with nx := fun ρ1 μ1 => DS K B u ρ1 μ1 P }) : DS K B (tSeq t u) ρ μ P := fun σ G H al hB hσ hA De hD =>
  h σ G H al hB hσ hA _ ⟨fun σ1 ρ1 μ1 G1 H1 al1 n1 hσ1 A1 p1 => p1 σ1 G1 H1 al1 (hB.trans n1) hσ1 A1 De (hD.nx' n1), hD.rt, hD.bk, hD.ct⟩
/-- a statement behind which the ways meet again -/
theorem ds_cut {M : En → Mu → Prop} (h : DS K B t ρ μ { P with nx := M }) (k : ∀ ρ1 μ1, M ρ1 μ1 → DS K B u ρ1 μ1 P) : DS K B (tSeq t u) ρ μ P := fun σ G H al hB hσ hA De hD =>
  h σ G H al hB hσ hA _ ⟨fun σ1 ρ1 μ1 G1 H1 al1 n1 hσ1 A1 p1 => k ρ1 μ1 p1 σ1 G1 H1 al1 (hB.trans n1) hσ1 A1 De (hD.nx' n1), hD.rt, hD.bk, hD.ct⟩
theorem ds_asg {g : TG} (h : DE K B te ρ μ fun d μ1 => DG K B g d ρ μ1 P.nx) : DS K B (tAsg te g) ρ μ P := fun σ G H al hB hσ hA De hD =>
  h σ G H al hB hσ hA _ fun v d μ1 G1 H1 al1 n1 A1 r1 p1 => p1 σ G1 H1 al1 v (hB.trans n1) (hσ.nx n1) A1 r1 _ (hD.nx.nx n1)
theorem ds_set {i : Nat} (h : DE K B te ρ μ fun d μ1 => P.nx (ρ.set i (some d)) μ1) : DS K B (tAsg te (gName i)) ρ μ P := ds_asg (h.imp fun d μ1 p => dg_name p)
theorem ds_drop (h : DE K B te ρ μ fun d μ1 => P.nx ρ μ1) : DS K B (tDrop te) ρ μ P := fun σ G H al hB hσ hA De hD =>
  h σ G H al hB hσ hA _ fun v d μ1 G1 H1 al1 n1 A1 r1 p1 => hD.nx _ _ μ1 G1 H1 al1 n1 (hσ.nx n1) A1 p1
theorem ds_ret (h : DE K B te ρ μ P.rt) : DS K B (tRet te) ρ μ P := fun σ G H al hB hσ hA De hD => h σ G H al hB hσ hA _ hD.rt
theorem ds_retN (h : P.rt .non μ) : DS K B tRetN ρ μ P := fun σ G H al hB hσ hA De hD => hD.rt _ _ μ G H al .refl hA .non h
theorem ds_if {c : TT} (h : DT K B c ρ μ fun b μ1 => (b = true → DS K B t ρ μ1 P) ∧ (b = false → DS K B u ρ μ1 P)) : DS K B (tIfS c t u) ρ μ P := fun σ G H al hB hσ hA De hD =>
  h σ G H al hB hσ hA _ fun b μ1 G1 H1 al1 n1 A1 p1 => by
    cases b with
    | true => rw [if_pos rfl]; exact p1.1 rfl σ G1 H1 al1 (hB.trans n1) (hσ.nx n1) A1 De (hD.nx' n1)
    | false => rw [if_neg (by simp)]; exact p1.2 rfl σ G1 H1 al1 (hB.trans n1) (hσ.nx n1) A1 De (hD.nx' n1)
theorem ds_par {i j : Nat} {ts : TA} (h : DA K B ts ρ μ fun ds μ1 => ∃ x y, ds = [x, y] ∧ P.nx ((ρ.set i (some x)).set j (some y)) μ1) : DS K B (tPar i j ts) ρ μ P := fun σ G H al hB hσ hA De hD =>
  h σ G H al hB hσ hA _ fun vs ds μ1 G1 H1 al1 n1 A1 r1 p1 => by
    obtain ⟨x, y, rfl, p⟩ := p1
    cases r1 with
    | cons rx r2 => cases r2 with
      | cons ry r3 =>
        cases r3
        exact ⟨_, _, rfl, hD.nx _ _ μ1 G1 H1 al1 n1 (((hσ.nx n1).set i rx).set j ry) A1 p⟩
theorem ds_fld {f : Str} (h : DE K B tb ρ μ fun y μ1 => DE K B ta ρ μ1 fun x μ2 => ∃ k C gs, x = .own k ∧ μ2[k]? = some (.ins C gs) ∧ Cls K C ∧ NoAttr K C f ∧ gs.length < 1000 ∧ P.nx ρ (μ2.set k (.ins C (putD f y gs)))) : DS K B (sFld K ta tb f) ρ μ P := fun σ G H al hB hσ hA De hD =>
  h σ G H al hB hσ hA _ fun vy y μ1 G1 H1 al1 n1 A1 r1 p1 => p1 σ G1 H1 al1 (hB.trans n1) (hσ.nx n1) A1 _ fun vx x μ2 G2 H2 al2 n2 A2 r2 p2 => by
    obtain ⟨k, C, gs, rfl, hk, cl, na, hl, p⟩ := p2
    obtain ⟨a, ha, ok⟩ := A2.get hk
    cases r2 with
    | own e =>
      rw [ha] at e
      cases e
      obtain ⟨ga, dx, fs, hv, rf⟩ := ok
      obtain ⟨A3, n3⟩ := A2.put (o := .ins C dx (putF f vy fs)) (m' := .ins C (putD f y gs)) ha hk (by simp) ⟨ga, dx, _, upd_same, rf.put f (r1.nx n2)⟩
      exact ⟨_, C, dx, fs, rfl, hv, cl, na, by rw [rf.length]; exact hl, hD.nx _ _ _ _ _ _ ((n1.trans n2).trans n3) (((hσ.nx n1).nx n2).nx n3) A3 p⟩
theorem ds_fldAug {f : Str} {r : V → V → Hp → VK → Prop} (h : DE K B ta ρ μ fun x μ1 => ∃ k C gs d, x = .own k ∧ μ1[k]? = some (.ins C gs) ∧ Cls K C ∧ NoAttr K C f ∧ gs.lookup f = some d ∧
      DE K B tb ρ μ1 fun y μ2 => RO K r d y μ2 fun z μ3 => ∃ gs', μ3[k]? = some (.ins C gs') ∧ gs'.length < 1000 ∧ P.nx ρ (μ3.set k (.ins C (putD f z gs')))) : DS K B (sFldAug K ta tb r f) ρ μ P := fun σ G H al hB hσ hA De hD =>
  h σ G H al hB hσ hA _ fun vx x μ1 G1 H1 al1 n1 A1 r1 p1 => by
    obtain ⟨k, C, gs, d, rfl, hk, cl, na, lk, p⟩ := p1
    obtain ⟨a, ha, ok⟩ := A1.get hk
    cases r1 with
    | own e =>
      rw [ha] at e
      cases e
      obtain ⟨ga, dx, fs, hv, rf⟩ := ok
      obtain ⟨w, lw, rw'⟩ := rf.look lk
      refine ⟨_, C, dx, fs, w, rfl, hv, cl, na, lw, p σ G1 H1 al1 (hB.trans n1) (hσ.nx n1) A1 _ fun vy y μ2 G2 H2 al2 n2 A2 r2 p2 => p2 G2 H2 al2 w vy A2 (rw'.nx n2) r2 _ fun vz z μ3 G3 H3 al3 n3 A3 r3 p3 => ?_⟩
      obtain ⟨gs', hk3, hl, p⟩ := p3
      obtain ⟨a3, ha3, ok3⟩ := A3.get hk3
      have ea : a3 = _ := Option.some.inj (ha3.symm.trans (n3.p.get (n2.p.get ha)))
      subst ea
      obtain ⟨ga3, dx3, fs3, hv3, rf3⟩ := ok3
      obtain ⟨A4, n4⟩ := A3.put (o := .ins C dx3 (putF f vz fs3)) (m' := .ins C (putD f z gs')) ha3 hk3 (by simp) ⟨ga3, dx3, _, upd_same, rf3.put f r3⟩
      exact ⟨dx3, fs3, hv3, by rw [rf3.length]; exact hl, hD.nx _ _ _ _ _ _ (((n1.trans n2).trans n3).trans n4) ((((hσ.nx n1).nx n2).nx n3).nx n4) A4 p⟩
/-- a list that a slot holds is frozen -/
theorem ds_freeze {i k : Nat} {ds : List D} (hi : ρ[i]? = some (some (.own k))) (hk : μ[k]? = some (.lst ds)) (h : DS K B t (ρ.set i (some (.lst ds))) (μ.set k .dead) P) : DS K B t ρ μ P := fun σ G H al hB hσ hA De hD => by
  obtain ⟨v, e1, r1⟩ := hσ.2 i _ hi
  obtain ⟨a, ha, ok⟩ := hA.get hk
  cases r1 with
  | own e =>
    rw [ha] at e
    cases e
    obtain ⟨ga, vs, hv, rv⟩ := ok
    obtain ⟨A2, n2⟩ := hA.freeze ha hv ga
    refine h σ _ _ _ (hB.trans n2) ?_ A2 De (hD.nx' n2)
    rw [← set_id e1]
    exact (hσ.nx n2).set i (.lst upd_same (rv.nx n2))
end
end Dl
set_option Elab.async false
set_option linter.all false
set_option maxRecDepth 100000
namespace Dl
open PySem L2
/-! ### lists that are read -/
inductive Ls (μ : Mu) : D → List D → Prop
  | lst (ds : List D) : Ls μ (.lst ds) ds
  | rdl (ds : List D) : Ls μ (.rdl ds) ds
  | own {k : Nat} {ds : List D} (h : μ[k]? = some (.lst ds)) : Ls μ (.own k) ds
/-- .. and stand in the heap itself -/
inductive Lt (μ : Mu) : D → List D → Prop
  | lst (ds : List D) : Lt μ (.lst ds) ds
  | own {k : Nat} {ds : List D} (h : μ[k]? = some (.lst ds)) : Lt μ (.own k) ds
inductive Ts : D → List D → Prop
  | tup (ds : List D) : Ts (.tup ds) ds
  | rdt (ds : List D) : Ts (.rdt ds) ds
section
variable {K : PySem.W.Frag} {G H : Hp} {al : List Addr} {μ : Mu} {v : V} {d : D} {ds : List D}
theorem Lt.get (h : Lt μ d ds) (A : As K G H al μ) (r : Rp K G al v d) : ∃ a vs, v = .ref a ∧ H a = some (.lst vs) ∧ Rps K G al vs ds := by
  cases h with
  | lst => cases r with | lst e rs => exact ⟨_, _, rfl, A.sub _ _ e, rs⟩
  | own hk =>
    obtain ⟨a, ha, ga, vs, hv, rs⟩ := A.get hk
    cases r with
    | own e => rw [ha] at e; cases e; exact ⟨_, vs, rfl, hv, rs⟩
theorem Ls.get (h : Ls μ d ds) (A : As K G H al μ) (r : Rp K G al v d) : ∃ a vs, v = .ref a ∧ SqL K H a vs ∧ Rps K G al vs ds := by
  cases h with
  | lst => cases r with | lst e rs => exact ⟨_, _, rfl, .inl (.inl (A.sub _ _ e)), rs⟩
  | rdl => cases r with | rdl e rs => exact ⟨_, _, rfl, sql_mono A.sub e, rs⟩
  | own hk =>
    obtain ⟨a, ha, ga, vs, hv, rs⟩ := A.get hk
    cases r with
    | own e => rw [ha] at e; cases e; exact ⟨_, vs, rfl, .inl (.inl hv), rs⟩
theorem Ts.get (h : Ts d ds) (A : As K G H al μ) (r : Rp K G al v d) : ∃ a vs, v = .ref a ∧ SqT K H a vs ∧ Rps K G al vs ds := by
  cases h with
  | tup => cases r with | tup e rs => exact ⟨_, _, rfl, .inl (.inl (A.sub _ _ e)), rs⟩
  | rdt => cases r with | rdt e rs => exact ⟨_, _, rfl, sqt_mono A.sub e, rs⟩
end
theorem rps_cons {K : PySem.W.Frag} {G : Hp} {al : List Addr} {vs : List V} {d : D} {ds : List D} (h : Rps K G al vs (d :: ds)) : ∃ v ws, vs = v :: ws ∧ Rp K G al v d ∧ Rps K G al ws ds := by
  cases h with | cons r t => exact ⟨_, _, rfl, r, t⟩
theorem rps1 {K : PySem.W.Frag} {G : Hp} {al : List Addr} {vs : List V} {d : D} (h : Rps K G al vs [d]) : ∃ v, vs = [v] ∧ Rp K G al v d := by
  obtain ⟨v, ws, rfl, r, t⟩ := rps_cons h
  cases t; exact ⟨v, rfl, r⟩
theorem rps2 {K : PySem.W.Frag} {G : Hp} {al : List Addr} {vs : List V} {d e : D} (h : Rps K G al vs [d, e]) : ∃ v w, vs = [v, w] ∧ Rp K G al v d ∧ Rp K G al w e := by
  obtain ⟨v, ws, rfl, r, t⟩ := rps_cons h
  obtain ⟨w, rfl, q⟩ := rps1 t
  exact ⟨v, w, rfl, r, q⟩
/-- an item by an index of any sign -/
theorem atI_rps {K : PySem.W.Frag} {G : Hp} {al : List Addr} {vs : List V} {ds : List D} {i : Int} {d : D} (h : Rps K G al vs ds) (e : atI ds i = some d) : ∃ v, atI vs i = some v ∧ Rp K G al v d := by
  unfold atI at e ⊢
  rw [h.length]
  cases q : ixN ds.length i with
  | none => rw [q] at e; cases e
  | some j =>
    rw [q] at e
    exact h.get e
def cutD (xs : List D) (lo hi : Option Int) : List D := (xs.drop (HT.sIx xs.length 0 lo)).take (HT.sIx xs.length xs.length hi - HT.sIx xs.length 0 lo)
theorem cut_rps {K : PySem.W.Frag} {G : Hp} {al : List Addr} {vs : List V} {ds : List D} (h : Rps K G al vs ds) (lo hi : Option Int) : Rps K G al (cutV vs lo hi) (cutD ds lo hi) := by
  unfold cutV cutD
  rw [h.length]
  exact (h.drop _).take _
section
variable {K : PySem.W.Frag} {μ : Mu} {P : D → Mu → Prop} {i j : Int} {x y d : D} {ds es : List D}
/-! ### numbers -/
theorem ro_i {f : Int → Int → Int} (h : P (.int (f i j)) μ) : RO K (rI0 fun i j => .int (f i j)) (.int i) (.int j) μ P := fun G H al v w A r1 r2 Q hQ => by
  cases r1; cases r2
  exact ⟨i, j, rfl, rfl, hQ.now A (.int _) h⟩
theorem ro_b {f : Int → Int → Bool} (h : P (.bl (f i j)) μ) : RO K (rI0 fun i j => .bl (f i j)) (.int i) (.int j) μ P := fun G H al v w A r1 r2 Q hQ => by
  cases r1; cases r2
  exact ⟨i, j, rfl, rfl, hQ.now A (.bl _) h⟩
theorem ro_ic {C : Int → Int → Prop} {f : Int → Int → Int} (hc : C i j) (h : P (.int (f i j)) μ) : RO K (rI C fun i j => .int (f i j)) (.int i) (.int j) μ P := fun G H al v w A r1 r2 Q hQ => by
  cases r1; cases r2
  exact ⟨i, j, rfl, rfl, hc, hQ.now A (.int _) h⟩
theorem ro_ip {f : Int → Int → Int} (h : P (.int (f i j)) μ) : RO K (ipI f) (.int i) (.int j) μ P := fun G H al v w A r1 r2 Q hQ => by
  cases r1; cases r2
  exact ⟨i, j, rfl, rfl, hQ.now A (.int _) h⟩
theorem ro_add (h : P (.int (i + j)) μ) : RO K rAdd (.int i) (.int j) μ P := fun G H al v w A r1 r2 Q hQ => by
  cases r1; cases r2
  exact ⟨i, j, rfl, rfl, hQ.now A (.int _) h⟩
theorem ru_i {f : Int → Int} (h : P (.int (f i)) μ) : RU K (rU fun i => .int (f i)) (.int i) μ P := fun G H al v A r1 Q hQ => by
  cases r1
  exact ⟨i, rfl, hQ.now A (.int _) h⟩
theorem rc_max2 (h : P (.int (max i j)) μ) : RC K (fun xs H Q => ∃ i j, xs = [.int i, .int j] ∧ Q (.int (if j > i then j else i)) H) [.int i, .int j] μ P := fun G H al vs A r Q hQ => by
  obtain ⟨v, w, rfl, r1, r2⟩ := rps2 r
  cases r1; cases r2
  refine ⟨i, j, rfl, ?_⟩
  have e : (if j > i then j else i) = max i j := by rw [Int.max_def]; split <;> split <;> omega
  rw [e]
  exact hQ.now A (.int _) h
theorem rc_min2 (h : P (.int (min i j)) μ) : RC K (fun xs H Q => ∃ i j, xs = [.int i, .int j] ∧ Q (.int (if j < i then j else i)) H) [.int i, .int j] μ P := fun G H al vs A r Q hQ => by
  obtain ⟨v, w, rfl, r1, r2⟩ := rps2 r
  cases r1; cases r2
  refine ⟨i, j, rfl, ?_⟩
  have e : (if j < i then j else i) = min i j := by rw [Int.min_def]; split <;> split <;> omega
  rw [e]
  exact hQ.now A (.int _) h
/-! ### lengths, items, slices, joins -/
theorem rc_len (hl : Ls μ x ds) (h : P (.int (ds.length : Int)) μ) : RC K (fun xs H Q => ∃ x n, xs = [x] ∧ LenV K x H n ∧ Q (.int (n : Nat)) H) [x] μ P := fun G H al vs A r Q hQ => by
  obtain ⟨v, rfl, r1⟩ := rps1 r
  obtain ⟨a, ws, rfl, s, rs⟩ := hl.get A r1
  exact ⟨.ref a, ds.length, rfl, .inl ⟨ws, s, rs.length.symm⟩, hQ.now A (.int _) h⟩
theorem rc_lenT (hl : Ts x ds) (h : P (.int (ds.length : Int)) μ) : RC K (fun xs H Q => ∃ x n, xs = [x] ∧ LenV K x H n ∧ Q (.int (n : Nat)) H) [x] μ P := fun G H al vs A r Q hQ => by
  obtain ⟨v, rfl, r1⟩ := rps1 r
  obtain ⟨a, ws, rfl, s, rs⟩ := hl.get A r1
  exact ⟨.ref a, ds.length, rfl, .inr ⟨ws, s, rs.length.symm⟩, hQ.now A (.int _) h⟩
theorem rc_lenS {s : Str} (hs : s.length ≤ 100000) (h : P (.int (s.length : Int)) μ) : RC K (fun xs H Q => ∃ x n, xs = [x] ∧ LenV K x H n ∧ Q (.int (n : Nat)) H) [.str s] μ P := fun G H al vs A r Q hQ => by
  obtain ⟨v, rfl, r1⟩ := rps1 r
  cases r1
  exact ⟨.str s, s.length, rfl, ⟨Nat.le_trans hs (by decide), rfl⟩, hQ.now A (.int _) h⟩
theorem ro_ixL (hl : Ls μ x ds) (e : atI ds i = some d) (h : P d μ) : RO K (rIx K) x (.int i) μ P := fun G H al v w A r1 r2 Q hQ => by
  cases r2
  obtain ⟨a, ws, rfl, s, rs⟩ := hl.get A r1
  obtain ⟨z, ez, rz⟩ := atI_rps rs e
  exact .inl ⟨a, ws, i, z, rfl, rfl, s, ez, hQ.now A rz h⟩
theorem ro_ixT (hl : Ts x ds) (e : atI ds i = some d) (h : P d μ) : RO K (rIx K) x (.int i) μ P := fun G H al v w A r1 r2 Q hQ => by
  cases r2
  obtain ⟨a, ws, rfl, s, rs⟩ := hl.get A r1
  obtain ⟨z, ez, rz⟩ := atI_rps rs e
  exact .inr (.inl ⟨a, ws, i, z, rfl, rfl, s, ez, hQ.now A rz h⟩)
theorem ro_ixS {s : Str} {c : Nat} (hs : s.length ≤ 100000) (e : atI s.cps.toList i = some c) (h : P (.str ⟨#[c]⟩) μ) : RO K (rIx K) (.str s) (.int i) μ P := fun G H al v w A r1 r2 Q hQ => by
  cases r1; cases r2
  exact .inr (.inr ⟨s, i, c, rfl, rfl, Nat.le_trans hs (by decide), e, hQ.now A (.str _) h⟩)
theorem rs_lst {lo hi : Option Int} (hl : Ls μ x ds) (h : P (.lst (cutD ds lo hi)) μ) : RS K (rSlL K) x lo hi μ P := fun G H al v A r Q hQ => by
  obtain ⟨a, ws, rfl, s, rs⟩ := hl.get A r
  refine ⟨a, ws, rfl, s, fun p hp => ?_⟩
  obtain ⟨A2, n2⟩ := A.frz (o := .lst (cutV ws lo hi)) hp
  exact hQ _ _ μ _ _ _ n2 A2 (.lst upd_same ((cut_rps rs lo hi).nx n2)) h
theorem ro_cat (h1 : Lt μ x ds) (h2 : Lt μ y es) (hs : ds.length + es.length ≤ 100000) (h : P (.lst (ds ++ es)) μ) : RO K rCat x y μ P := fun G H al v w A r1 r2 Q hQ => by
  obtain ⟨a, ws, rfl, s1, rs1⟩ := h1.get A r1
  obtain ⟨b, us, rfl, s2, rs2⟩ := h2.get A r2
  refine ⟨a, b, ws, us, rfl, rfl, s1, s2, by rw [rs1.length, rs2.length]; exact Nat.le_trans hs (by decide), fun p hp => ?_⟩
  obtain ⟨A2, n2⟩ := A.frz (o := .lst (ws ++ us)) hp
  exact hQ _ _ μ _ _ _ n2 A2 (.lst upd_same ((rs1.append rs2).nx n2)) h
theorem ro_catO (h1 : Lt μ x ds) (h2 : Lt μ y es) (hs : ds.length + es.length ≤ 100000) (h : P (.own μ.length) (μ ++ [.lst (ds ++ es)])) : RO K rCat x y μ P := fun G H al v w A r1 r2 Q hQ => by
  obtain ⟨a, ws, rfl, s1, rs1⟩ := h1.get A r1
  obtain ⟨b, us, rfl, s2, rs2⟩ := h2.get A r2
  refine ⟨a, b, ws, us, rfl, rfl, s1, s2, by rw [rs1.length, rs2.length]; exact Nat.le_trans hs (by decide), fun p hp => ?_⟩
  obtain ⟨A2, n2⟩ := A.own (o := .lst (ws ++ us)) (m := .lst (ds ++ es)) hp ⟨A.sub.free hp, _, upd_same, (rs1.append rs2).mono (Same.refl _) ⟨[p], rfl⟩⟩
  exact hQ _ _ _ _ _ _ n2 A2 (.own (by rw [← A.len]; simp)) h
/-! ### lists that change -/
theorem ty_list (hl : Ls μ x ds) : ∀ G H al v, As K G H al μ → Rp K G al v x → tyV K "list" v H := fun G H al v A r => by
  obtain ⟨a, ws, rfl, s, rs⟩ := hl.get A r
  exact .inl ⟨rfl, ws, s⟩
theorem rm_app {k : Nat} (hk : μ[k]? = some (.lst ds)) (hs : ds.length < 100000) (h : P .non (μ.set k (.lst (ds ++ [d])))) : RM K rAppend (.own k) [d] μ P := fun G H al v vs A r rs Q hQ => by
  obtain ⟨a, ha, ga, ws, hv, rw'⟩ := A.get hk
  obtain ⟨u, rfl, ru⟩ := rps1 rs
  cases r with
  | own e =>
    rw [ha] at e; cases e
    refine ⟨a, ws, u, rfl, rfl, hv, by rw [rw'.length]; exact Nat.lt_of_lt_of_le hs (by decide), ?_⟩
    obtain ⟨A2, n2⟩ := A.put (o := .lst (ws ++ [u])) (m' := .lst (ds ++ [d])) ha hk (by simp) ⟨ga, _, upd_same, rw'.append (.cons ru .nil)⟩
    exact hQ _ _ _ _ _ _ n2 A2 .non h
theorem rset_lst {k j : Nat} {PM : Mu → Prop} (hk : μ[k]? = some (.lst ds)) (hj : ixN ds.length i = some j) (h : PM (μ.set k (.lst (ds.set j d)))) : RSet K rSetL (.own k) (.int i) d μ PM := fun G H al v w u A r1 r2 r3 Q hQ => by
  obtain ⟨a, ha, ga, ws, hv, rw'⟩ := A.get hk
  cases r2
  cases r1 with
  | own e =>
    rw [ha] at e; cases e
    obtain ⟨A2, n2⟩ := A.put (o := .lst (ws.set j u)) (m' := .lst (ds.set j d)) ha hk (by simp) ⟨ga, _, upd_same, rw'.set j r3⟩
    exact ⟨a, ws, i, j, rfl, rfl, hv, by rw [rw'.length]; exact hj, hQ _ _ _ _ n2 A2 h⟩
/-! ### sums, all, any -/
theorem rc_all {bs : List Bool} (hl : Ls μ x (bs.map D.bl)) (h : P (.bl (bs.all id)) μ) : RC K (rAll K) [x] μ P := fun G H al vs A r Q hQ => by
  obtain ⟨v, rfl, r1⟩ := rps1 r
  obtain ⟨a, ws, rfl, s, rs⟩ := hl.get A r1
  have e := rs.bools
  subst e
  exact ⟨a, bs, rfl, s, hQ.now A (.bl _) h⟩
end
/-! ### isinstance -/
/-- a built-in type's name -/
def tyD (μ : Mu) : D → Option String
  | .non => some "NoneType"
  | .bl _ => some "bool"
  | .int _ => some "int"
  | .str _ => some "str"
  | .tup _ => some "tuple"
  | .lst _ => some "list"
  | .rdl _ => some "list"
  | .rdt _ => some "tuple"
  | .dct _ => some "dict"
  | .own k => match μ[k]? with
    | some (.lst _) => some "list"
    | some (.dK _) => some "dict"
    | some (.dT _) => some "dict"
    | _ => none
  | _ => none
/-- what isinstance asks of an own class -/
structure ObT (K : PySem.W.Frag) (C : Addr) : Prop where
  cl : Cls K C
  ha : PySem.W.findIn K (.ref C) "__class__" = some (some (.builtin "object.__class__"))
  hn : PySem.W.specialIn K (.builtin "object.__class__") "__get__" = some (some (.builtin "getset_descriptor.__get__"))
  htk : PySem.W.takesIn K (.builtin "object.__class__") = some true
  hm : PySem.W.mroIn K C (.type "object") = some true
/-- the type of a datum as the deciders take it -/
inductive TyDV (K : PySem.W.Frag) (μ : Mu) : D → Value → Prop
  | ty {d : D} {n : String} (h : tyD μ d = some n) : TyDV K μ d (.type n)
  | obj {C : Addr} {gs : List (Str × D)} (o : ObT K C) : TyDV K μ (.obj C gs) (.ref C)
  | own {C : Addr} {gs : List (Str × D)} {k : Nat} (h : μ[k]? = some (.ins C gs)) (o : ObT K C) : TyDV K μ (.own k) (.ref C)
inductive ClD : D → Value → Prop
  | ty (n : String) : ClD (.ty n) (.type n)
  | loc (C : Addr) : ClD (.loc C) (.ref C)
theorem TyDV.tyx {K : PySem.W.Frag} {G H : Hp} {al : List Addr} {μ : Mu} {v : V} {d : D} {t : Value} (h : TyDV K μ d t) (A : As K G H al μ) (r : Rp K G al v d) : TyX K H v t := by
  cases h with
  | obj o =>
    cases r with
    | obj e rf => exact .base (.ins (A.sub _ _ e) o.cl o.ha o.hn o.htk o.hm)
  | own hk o =>
    obtain ⟨a, ha, ga, dx, fs, hv, rf⟩ := A.get hk
    cases r with
    | own e => rw [ha] at e; cases e; exact .base (.ins hv o.cl o.ha o.hn o.htk o.hm)
  | ty ht =>
    cases r with
    | non => cases ht; exact .base .non
    | bl b => cases ht; exact .base (.bl b)
    | int i => cases ht; exact .base (.int i)
    | str x => cases ht; exact .base (.str x)
    | ty n => cases ht
    | tup e rs => cases ht; exact .base (.tup (A.sub _ _ e))
    | lst e rs => cases ht; exact .base (.lst (A.sub _ _ e))
    | rdl e rs =>
      cases ht
      rcases e with (e | ⟨o, e⟩) | ⟨o, its, n, hk, hc, hd, hs, hz, _⟩
      · exact .base (.lst (A.sub _ _ e))
      · exact .base (.frz (A.sub _ _ e))
      · exact .kList hk hc
    | rdt e rs =>
      cases ht
      rcases e with (e | ⟨o, e⟩) | ⟨o, its, n, hk, hc, hs, hz, _⟩
      · exact .base (.tup (A.sub _ _ e))
      · exact .fTuple (A.sub _ _ e)
      · exact .kTuple hk hc
    | obj e rf => cases ht
    | dct e rf =>
      cases ht
      rcases e with e | ⟨o, e⟩
      · exact .base (.dK (A.sub _ _ e))
      · exact .fDict (A.sub _ _ e)
    | own e =>
      rename_i a k
      simp only [tyD] at ht
      cases hk : μ[k]? with
      | none => rw [hk] at ht; cases ht
      | some m =>
        rw [hk] at ht
        obtain ⟨a', ha, ok⟩ := A.get hk
        rw [ha] at e; cases e
        cases m with
        | lst ds => cases ht; obtain ⟨ga, vs, hv, _⟩ := ok; exact .base (.lst hv)
        | dK ds => cases ht; obtain ⟨ga, vs, hv, _⟩ := ok; exact .base (.dK hv)
        | dT ds => cases ht; obtain ⟨ga, vs, hv, _⟩ := ok; exact .base (.dT hv)
        | dead => cases ht
        | ins _ _ => cases ht
        | tab _ _ => cases ht
    | loc a => cases ht
    | exc _ _ _ => cases ht
section
variable {K : PySem.W.Frag} {μ : Mu} {P : D → Mu → Prop} {x c : D}
theorem rc_isi {t u : Value} {b : Bool} (ht : TyDV K μ x t) (hc : ClD c u) (hk : PySem.W.kitOne K t u = some b) (h : P (.bl b) μ) : RC K (rIsi K) [x, c] μ P := fun G H al vs A r Q hQ => by
  obtain ⟨v, w, rfl, r1, r2⟩ := rps2 r
  have tx := ht.tyx A r1
  cases hc with
  | ty n => cases r2; exact ⟨v, _, t, _, b, rfl, .ty n, tx, hk, hQ.now A (.bl b) h⟩
  | loc C => cases r2; exact ⟨v, _, t, _, b, rfl, .own C, tx, hk, hQ.now A (.bl b) h⟩
theorem rc_isiB {n m : String} {b : Bool} (ht : tyD μ x = some n) (hk : kitB n m = some b) (h : P (.bl b) μ) : RC K (rIsi K) [x, .ty m] μ P := rc_isi (.ty ht) (.ty m) (kit_ty hk) h
end
/-! ### == of data -/
mutual
def D.py : D → PyData
  | .non => .none
  | .bl b => .bool b
  | .int i => .int i
  | .str x => .str x
  | .ty _ => .none
  | .tup xs => .tuple (pyL xs)
  | .lst xs => .list (pyL xs)
  | .rdl xs => .list (pyL xs)
  | .rdt xs => .tuple (pyL xs)
  | .obj _ _ => .none
  | .dct _ => .none
  | .own _ => .none
  | .loc _ => .none
  | .exc _ _ => .none
def pyL : List D → List PyData
  | [] => []
  | x :: xs => D.py x :: pyL xs
end
mutual
/-- data that == goes through: how deep -/
def D.shp : D → Nat → Bool
  | .non, _ => true
  | .bl _, _ => true
  | .int _, _ => true
  | .str x, _ => PyData.strOk x
  | .tup xs, n => decide (0 < n) && shpL xs (n - 1)
  | .lst xs, n => decide (0 < n) && shpL xs (n - 1)
  | .rdl xs, n => decide (0 < n) && shpL xs (n - 1)
  | .rdt xs, n => decide (0 < n) && shpL xs (n - 1)
  | .ty _, _ => false
  | .obj _ _, _ => false
  | .dct _, _ => false
  | .own _, _ => false
  | .loc _, _ => false
  | .exc _ _, _ => false
def shpL : List D → Nat → Bool
  | [], _ => true
  | x :: xs, n => D.shp x n && shpL xs n
end
section
variable {K : PySem.W.Frag} {G H : Hp} {al : List Addr}
mutual
theorem dp_of (s : Same G H) : ∀ {d : D} {n : Nat} {v : V}, d.shp n = true → Rp K G al v d → Dp K H v d.py
  | .non, _, _, _, .non => by unfold D.py; exact .non
  | .bl _, _, _, _, .bl b => by unfold D.py; exact .bl b
  | .int _, _, _, _, .int i => by unfold D.py; exact .int i
  | .str _, _, _, _, .str x => by unfold D.py; exact .str x
  | .tup xs, n, _, h, .tup e r => by
    unfold D.py; unfold D.shp at h; simp at h
    exact .tup (.inl (.inl (s _ _ e))) (dpAll_of s h.2 r)
  | .lst xs, n, _, h, .lst e r => by
    unfold D.py; unfold D.shp at h; simp at h
    exact .lst (.inl (.inl (s _ _ e))) (dpAll_of s h.2 r)
  | .rdl xs, n, _, h, .rdl e r => by
    unfold D.py; unfold D.shp at h; simp at h
    exact .lst (sql_mono s e) (dpAll_of s h.2 r)
  | .rdt xs, n, _, h, .rdt e r => by
    unfold D.py; unfold D.shp at h; simp at h
    exact .tup (sqt_mono s e) (dpAll_of s h.2 r)
  | .ty _, _, _, h, _ => by unfold D.shp at h; cases h
  | .obj _ _, _, _, h, _ => by unfold D.shp at h; cases h
  | .dct _, _, _, h, _ => by unfold D.shp at h; cases h
  | .own _, _, _, h, _ => by unfold D.shp at h; cases h
  | .loc _, _, _, h, _ => by unfold D.shp at h; cases h
  | .exc _ _, _, _, h, _ => by unfold D.shp at h; cases h
theorem dpAll_of (s : Same G H) : ∀ {ds : List D} {n : Nat} {vs : List V}, shpL ds n = true → Rps K G al vs ds → DpAll K H vs (pyL ds)
  | [], _, _, _, .nil => by unfold pyL; exact .nil
  | d :: ds, n, _, h, .cons r t => by
    unfold pyL; unfold shpL at h; simp at h
    exact .cons (dp_of s h.1 r) (dpAll_of s h.2 t)
end
end
mutual
theorem can_of : ∀ {d : D} {n : Nat}, d.shp n = true → d.py.canLay0 = true ∧ d.py.depth ≤ n
  | .non, n, _ => by simp [D.py, PyData.canLay0, PyData.depth]
  | .bl _, n, _ => by simp [D.py, PyData.canLay0, PyData.depth]
  | .int _, n, _ => by simp [D.py, PyData.canLay0, PyData.depth]
  | .str x, n, h => by
    unfold D.shp at h
    simp [D.py, PyData.canLay0, PyData.depth, h]
  | .tup xs, n, h => by
    unfold D.shp at h; simp at h
    have q := canL_of h.2
    simp [D.py, PyData.canLay0, PyData.depth, q.1]
    omega
  | .lst xs, n, h => by
    unfold D.shp at h; simp at h
    have q := canL_of h.2
    simp [D.py, PyData.canLay0, PyData.depth, q.1]
    omega
  | .rdl xs, n, h => by
    unfold D.shp at h; simp at h
    have q := canL_of h.2
    simp [D.py, PyData.canLay0, PyData.depth, q.1]
    omega
  | .rdt xs, n, h => by
    unfold D.shp at h; simp at h
    have q := canL_of h.2
    simp [D.py, PyData.canLay0, PyData.depth, q.1]
    omega
  | .ty _, _, h => by unfold D.shp at h; cases h
  | .obj _ _, _, h => by unfold D.shp at h; cases h
  | .dct _, _, h => by unfold D.shp at h; cases h
  | .own _, _, h => by unfold D.shp at h; cases h
  | .loc _, _, h => by unfold D.shp at h; cases h
  | .exc _ _, _, h => by unfold D.shp at h; cases h
theorem canL_of : ∀ {ds : List D} {n : Nat}, shpL ds n = true → PyData.canLayAll0 (pyL ds) = true ∧ PyData.depthAll (pyL ds) ≤ n
  | [], n, _ => by simp [pyL, PyData.canLayAll0, PyData.depthAll]
  | d :: ds, n, h => by
    unfold shpL at h; simp at h
    have q1 := can_of h.1
    have q2 := canL_of h.2
    simp [pyL, PyData.canLayAll0, PyData.depthAll, q1.1, q2.1]
    have := q1.2; have := q2.2; omega
end
theorem shaped_of {d : D} {n : Nat} (hn : n ≤ 64) (h : d.shp n = true) : SeqAt.shaped d.py = true := by
  have q := can_of h
  unfold SeqAt.shaped
  simp [q.1]
  omega
theorem beq_dec {α : Type} [BEq α] [LawfulBEq α] [DecidableEq α] (a b : α) : (a == b) = decide (a = b) := by
  rw [Bool.eq_iff_iff, beq_iff_eq, decide_eq_true_eq]
/-- what == says of two data -/
def eqvD (x y : D) : Bool := PyData.eqv x.py y.py
def eqvL (xs ys : List D) : Bool := PyData.eqvAll (pyL xs) (pyL ys)
@[simp] theorem eqvD_int (i j : Int) : eqvD (.int i) (.int j) = decide (i = j) := by
  simp only [eqvD, D.py, PyData.eqv]
  exact beq_dec i j
@[simp] theorem eqvD_bl (i j : Bool) : eqvD (.bl i) (.bl j) = decide (i = j) := by
  simp only [eqvD, D.py, PyData.eqv]
  exact beq_dec i j
@[simp] theorem eqvD_str (i j : Str) : eqvD (.str i) (.str j) = decide (i = j) := by
  simp only [eqvD, D.py, PyData.eqv]
  exact beq_dec i j
@[simp] theorem eqvD_tup (xs ys : List D) : eqvD (.tup xs) (.tup ys) = eqvL xs ys := by simp only [eqvD, eqvL, D.py, PyData.eqv]
@[simp] theorem eqvD_lst (xs ys : List D) : eqvD (.lst xs) (.lst ys) = eqvL xs ys := by simp only [eqvD, eqvL, D.py, PyData.eqv]
@[simp] theorem eqvD_rdl (xs ys : List D) : eqvD (.rdl xs) (.lst ys) = eqvL xs ys := by simp only [eqvD, eqvL, D.py, PyData.eqv]
@[simp] theorem eqvL_nil : eqvL [] [] = true := by simp only [eqvL, pyL, PyData.eqvAll]
@[simp] theorem eqvL_cons (x y : D) (xs ys : List D) : eqvL (x :: xs) (y :: ys) = (eqvD x y && eqvL xs ys) := by simp only [eqvL, eqvD, pyL, PyData.eqvAll]
@[simp] theorem eqvL_nc (y : D) (ys : List D) : eqvL [] (y :: ys) = false := by simp only [eqvL, pyL, PyData.eqvAll]
@[simp] theorem eqvL_cn (y : D) (ys : List D) : eqvL (y :: ys) [] = false := by simp only [eqvL, pyL, PyData.eqvAll]
@[simp] theorem eqvD_nn : eqvD .non .non = true := by simp only [eqvD, D.py, PyData.eqv]
theorem eqvD_refl {d : D} {n : Nat} (h : d.shp n = true) : eqvD d d = true := SeqAt.eqv_refl _ (can_of h).1
theorem shpL_map {α : Type} {f : α → D} {n : Nat} {xs : List α} (h : ∀ x ∈ xs, (f x).shp n = true) : shpL (xs.map f) n = true := by
  induction xs with
  | nil => simp [shpL]
  | cons x xs ih =>
    simp [shpL, h x (by simp)]
    exact ih fun y hy => h y (by simp [hy])
/-- one that may still change is looked at as it is now -/
inductive Fz (μ : Mu) : D → D → Prop
  | id (d : D) : Fz μ d d
  | own {k : Nat} {ds : List D} (h : μ[k]? = some (.lst ds)) : Fz μ (.own k) (.lst ds)
theorem Fz.dp {K : PySem.W.Frag} {G H : Hp} {al : List Addr} {μ : Mu} {v : V} {x d : D} {n : Nat} (h : Fz μ x d) (A : As K G H al μ) (hs : d.shp n = true) (r : Rp K G al v x) : Dp K H v d.py := by
  cases h with
  | id => exact dp_of A.sub hs r
  | own hk =>
    obtain ⟨a, ha, ga, ws, hv, rw'⟩ := A.get hk
    cases r with
    | own e =>
      rw [ha] at e; cases e
      unfold D.py; unfold D.shp at hs; simp at hs
      exact .lst (.inl (.inl hv)) (dpAll_of A.sub hs.2 rw')
section
variable {K : PySem.W.Frag} {μ : Mu} {P : D → Mu → Prop} {x y d e : D}
theorem ro_eqD {n m : Nat} (hx : Fz μ x d) (hy : Fz μ y e) (h1 : d.shp n = true) (h2 : e.shp m = true) (h : P (.bl (eqvD d e)) μ) (hn : n ≤ 64 := by decide) (hm : m ≤ 64 := by decide) : RO K (rEqD K) x y μ P := fun G H al v w A r1 r2 Q hQ =>
  ⟨d.py, e.py, hx.dp A h1 r1, hy.dp A h2 r2, shaped_of hn h1, shaped_of hm h2, hQ.now A (.bl _) h⟩
theorem ro_neD {n m : Nat} (hx : Fz μ x d) (hy : Fz μ y e) (h1 : d.shp n = true) (h2 : e.shp m = true) (h : P (.bl (!eqvD d e)) μ) (hn : n ≤ 64 := by decide) (hm : m ≤ 64 := by decide) : RO K (rNeD K) x y μ P := fun G H al v w A r1 r2 Q hQ =>
  ⟨d.py, e.py, hx.dp A h1 r1, hy.dp A h2 r2, shaped_of hn h1, shaped_of hm h2, hQ.now A (.bl _) h⟩
theorem ro_eqI {i j : Int} (h : P (.bl (decide (i = j))) μ) : RO K (rEqD K) (.int i) (.int j) μ P := ro_eqD (n := 0) (m := 0) (.id _) (.id _) rfl rfl (by rw [eqvD_int]; exact h)
theorem ro_neI {i j : Int} (h : P (.bl (!decide (i = j))) μ) : RO K (rNeD K) (.int i) (.int j) μ P := ro_neD (n := 0) (m := 0) (.id _) (.id _) rfl rfl (by rw [eqvD_int]; exact h)
theorem ro_eqB {i j : Bool} (h : P (.bl (decide (i = j))) μ) : RO K (rEqD K) (.bl i) (.bl j) μ P := ro_eqD (n := 0) (m := 0) (.id _) (.id _) rfl rfl (by rw [eqvD_bl]; exact h)
theorem ro_neB {i j : Bool} (h : P (.bl (!decide (i = j))) μ) : RO K (rNeD K) (.bl i) (.bl j) μ P := ro_neD (n := 0) (m := 0) (.id _) (.id _) rfl rfl (by rw [eqvD_bl]; exact h)
end
end Dl
set_option Elab.async false
set_option linter.all false
set_option maxRecDepth 100000
namespace Dl
open PySem L2
/-! ### what is walked -/
/-- J walks ds, as long as S holds of what may change -/
def ItOk (K : PySem.W.Frag) (J : It) (ds : List D) (S : Mu → Prop) (G H : Hp) (al : List Addr) : Prop := ∀ G2 H2 al2 μ2, Nx G H al G2 H2 al2 → As K G2 H2 al2 μ2 → S μ2 →
  (∀ i, i < ds.length → J.go i H2) ∧ (∀ i, ds.length ≤ i → J.stop i H2) ∧ ∀ i x H3, J.yld i H2 x H3 → ∀ d, ds[i]? = some d → ∃ G3, Nx G2 H2 al2 G3 H3 al2 ∧ As K G3 H3 al2 μ2 ∧ Rp K G3 al2 x d
def DI (K : PySem.W.Frag) (B : Bs) (wi : TI) (ρ : En) (μ : Mu) (P : List D → (Mu → Prop) → Mu → Prop) : Prop := ∀ σ G H al, B.le G H al → RpS K G al σ ρ → As K G H al μ → ∀ R : It → Hp → Prop,
  (∀ J ds S μ' G' H' al', Nx G H al G' H' al' → As K G' H' al' μ' → ItOk K J ds S G' H' al' → P ds S μ' → R J H') → wi σ H R
section
variable {K : PySem.W.Frag} {B : Bs} {ρ : En} {μ : Mu} {te : TE} {ts : TA} {PI' : List D → (Mu → Prop) → Mu → Prop}
theorem itl_ok {G H : Hp} {al : List Addr} {a : Addr} {ds : List D} {S : Mu → Prop} (h : ∀ G2 H2 al2 μ2, Nx G H al G2 H2 al2 → As K G2 H2 al2 μ2 → S μ2 → ∃ vs, SqL K H2 a vs ∧ Rps K G2 al2 vs ds) : ItOk K (Itl K a) ds S G H al := fun G2 H2 al2 μ2 n A s => by
  obtain ⟨vs, sq, r⟩ := h G2 H2 al2 μ2 n A s
  refine ⟨fun i hi => ⟨vs, vs[i]'(by rw [r.length]; exact hi), sq, by simp⟩, fun i hi => ⟨vs, sq, by rw [r.length]; exact hi⟩, fun i x H3 y d hd => ?_⟩
  obtain ⟨rfl, y⟩ := y
  obtain ⟨d', hd', r'⟩ := r.getV (y vs sq)
  rw [hd] at hd'; cases hd'
  exact ⟨G2, .refl, A, r'⟩
/-- lo, lo + 1, .. -/
def rangeD (lo : Int) (n : Nat) : List D := (List.range n).map fun (i : Nat) => D.int (lo + (i : Int))
theorem rangeD_length (lo : Int) (n : Nat) : (rangeD lo n).length = n := by simp [rangeD]
theorem rangeD_get {lo : Int} {n i : Nat} (h : i < n) : (rangeD lo n)[i]? = some (.int (lo + (i : Int))) := by simp [rangeD, h]
theorem rangeD_some {lo : Int} {n i : Nat} {d : D} (h : (rangeD lo n)[i]? = some d) : i < n ∧ d = .int (lo + (i : Int)) := by
  have hi : i < n := by
    have := (List.getElem?_eq_some_iff.mp h).1
    rw [rangeD_length] at this
    exact this
  rw [rangeD_get hi] at h
  exact ⟨hi, (Option.some.inj h).symm⟩
theorem itr_ok {lo : Int} {n : Nat} {G H : Hp} {al : List Addr} : ItOk K (Itr lo n) (rangeD lo n) (fun _ => True) G H al := fun G2 H2 al2 μ2 _ A _ => by
  refine ⟨fun i hi => by rw [rangeD_length] at hi; exact hi, fun i hi => by rw [rangeD_length] at hi; exact hi, fun i x H3 y d hd => ?_⟩
  obtain ⟨rfl, rfl⟩ := y
  obtain ⟨_, rfl⟩ := rangeD_some hd
  exact ⟨G2, .refl, A, .int _⟩
theorem di_range1 (h : DA K B ts ρ μ fun xs μ1 => ∃ n : Int, xs = [.int n] ∧ -(2 ^ 62) ≤ n ∧ n < 2 ^ 62 ∧ PI' (rangeD 0 n.toNat) (fun _ => True) μ1) : DI K B (iRng1 ts) ρ μ PI' := fun σ G H al hB hσ hA R hR =>
  h σ G H al hB hσ hA _ fun vs ds μ1 G1 H1 al1 n1 A1 r1 p1 => by
    obtain ⟨n, rfl, h1, h2, p⟩ := p1
    obtain ⟨v, rfl, r⟩ := rps1 r1
    cases r
    exact ⟨n, rfl, h1, h2, hR _ _ _ μ1 G1 H1 al1 n1 A1 itr_ok p⟩
theorem di_range2 (h : DA K B ts ρ μ fun xs μ1 => ∃ lo n : Int, xs = [.int lo, .int n] ∧ (-(2 ^ 62) ≤ lo ∧ lo < 2 ^ 62 ∧ -(2 ^ 62) ≤ n ∧ n < 2 ^ 62) ∧ PI' (rangeD lo (n - lo).toNat) (fun _ => True) μ1) : DI K B (iRng2 ts) ρ μ PI' := fun σ G H al hB hσ hA R hR =>
  h σ G H al hB hσ hA _ fun vs ds μ1 G1 H1 al1 n1 A1 r1 p1 => by
    obtain ⟨lo, n, rfl, h1, p⟩ := p1
    obtain ⟨v, w, rfl, r, r'⟩ := rps2 r1
    cases r; cases r'
    exact ⟨lo, n, rfl, h1, hR _ _ _ μ1 G1 H1 al1 n1 A1 itr_ok p⟩
/-- enumerate -/
def enumD (ds : List D) : List D := ds.mapIdx fun i d => .tup [.int (i : Int), d]
theorem enumD_length (ds : List D) : (enumD ds).length = ds.length := by simp [enumD]
theorem enumD_some {ds : List D} {i : Nat} {d : D} (h : (enumD ds)[i]? = some d) : ∃ x, ds[i]? = some x ∧ d = .tup [.int (i : Int), x] := by
  simp only [enumD, List.getElem?_mapIdx] at h
  cases q : ds[i]? with
  | none => rw [q] at h; cases h
  | some x => rw [q] at h; exact ⟨x, rfl, (Option.some.inj h).symm⟩
theorem di_enum (h : DA K B ts ρ μ fun xs μ1 => ∃ x ds, xs = [x] ∧ ((x = .lst ds ∧ PI' (enumD ds) (fun _ => True) μ1) ∨ (x = .rdl ds ∧ PI' (enumD ds) (fun _ => True) μ1) ∨ ∃ k, x = .own k ∧ μ1[k]? = some (.lst ds) ∧ PI' (enumD ds) (fun μ' => μ'[k]? = some (.lst ds)) μ1)) : DI K B (iEnum K ts) ρ μ PI' := fun σ G H al hB hσ hA R hR =>
  h σ G H al hB hσ hA _ fun vs ds μ1 G1 H1 al1 n1 A1 r1 p1 => by
    obtain ⟨x, xs, rfl, p1⟩ := p1
    obtain ⟨v, rfl, r⟩ := rps1 r1
    have key : ∃ a S, v = .ref a ∧ PI' (enumD xs) S μ1 ∧ S μ1 ∧ ∀ G2 H2 al2 μ2, Nx G1 H1 al1 G2 H2 al2 → As K G2 H2 al2 μ2 → S μ2 → ∃ vs, SqL K H2 a vs ∧ Rps K G2 al2 vs xs := by
      rcases p1 with ⟨rfl, p⟩ | ⟨rfl, p⟩ | ⟨k, rfl, hk, p⟩
      · cases r with | lst e rs => exact ⟨_, _, rfl, p, trivial, fun G2 H2 al2 μ2 n2 A2 _ => ⟨_, .inl (.inl (A2.sub _ _ (n2.g _ _ e))), rs.nx n2⟩⟩
      · cases r with | rdl e rs => exact ⟨_, _, rfl, p, trivial, fun G2 H2 al2 μ2 n2 A2 _ => ⟨_, sql_mono A2.sub (sql_mono n2.g e), rs.nx n2⟩⟩
      · obtain ⟨a, ha, ga, vs, hv, rs⟩ := A1.get hk
        cases r with
        | own e =>
          rw [ha] at e; cases e
          refine ⟨_, _, rfl, p, hk, fun G2 H2 al2 μ2 n2 A2 s => ?_⟩
          obtain ⟨a2, ha2, ga2, vs2, hv2, rs2⟩ := A2.get s
          rw [n2.p.get ha] at ha2; cases ha2
          exact ⟨vs2, .inl (.inl hv2), rs2⟩
    obtain ⟨a, S, rfl, p, s1, key⟩ := key
    obtain ⟨vs1, sq1, _⟩ := key G1 H1 al1 μ1 .refl A1 s1
    refine ⟨a, vs1, rfl, sq1, hR _ _ S μ1 G1 H1 al1 n1 A1 (fun G2 H2 al2 μ2 n2 A2 s => ?_) p⟩
    obtain ⟨vs, sq, r⟩ := key G2 H2 al2 μ2 n2 A2 s
    rw [enumD_length]
    refine ⟨fun i hi => ⟨vs, vs[i]'(by rw [r.length]; exact hi), sq, by simp⟩, fun i hi => ⟨vs, sq, by rw [r.length]; exact hi⟩, fun i x H3 y d hd => ?_⟩
    obtain ⟨T, z, rfl, hT, rfl, y⟩ := y
    obtain ⟨w, hw, rfl⟩ := enumD_some hd
    obtain ⟨d', hd', r'⟩ := r.getV (y vs sq)
    rw [hw] at hd'; cases hd'
    obtain ⟨A3, n3⟩ := A2.frz (o := .tup [.int (i : Nat), z]) hT
    exact ⟨_, n3, A3, .tup upd_same (.cons (.int _) (.cons (r'.nx n3) .nil))⟩
/-- the signs of a text -/
def signsD (x : Str) : List D := x.cps.toList.map fun c => .str ⟨#[c]⟩
/-! ### for -/
theorem ds_for {wi : TI} {g : TG} {tb : TS} {P : DEnds} (h : DI K B wi ρ μ fun ds S μ1 => ∃ Iv : Nat → En → Mu → Prop, Iv 0 ρ μ1 ∧ (∀ i ρ' μ', i ≤ ds.length → Iv i ρ' μ' → S μ') ∧
      (∀ i d ρ' μ', ds[i]? = some d → Iv i ρ' μ' → DG K B g d ρ' μ' fun ρ2 μ2 => DS K B tb ρ2 μ2 { P with nx := Iv (i + 1), ct := Iv (i + 1), bk := P.nx }) ∧ (∀ ρ' μ', Iv ds.length ρ' μ' → P.nx ρ' μ')) : DS K B (tFor wi g tb) ρ μ P := fun σ G H al hB hσ hA De hD =>
  h σ G H al hB hσ hA _ fun J ds S μ1 G1 H1 al1 n1 A1 ok p1 => by
    obtain ⟨Iv, h0, hS, hs, hd⟩ := p1
    refine ⟨fun i m σ' H' => m = ds.length - i ∧ i ≤ ds.length ∧ ∃ G' al' ρ' μ', Nx G1 H1 al1 G' H' al' ∧ RpS K G' al' σ' ρ' ∧ As K G' H' al' μ' ∧ Iv i ρ' μ', ⟨ds.length, by simp, Nat.zero_le _, G1, al1, ρ, μ1, .refl, hσ.nx n1, A1, h0⟩, ?_⟩
    rintro i m σ' H' ⟨rfl, hi, G', al', ρ', μ', n', hσ', A', iv⟩
    obtain ⟨go, stop, yld⟩ := ok G' H' al' μ' n' A' (hS i ρ' μ' hi iv)
    by_cases hlt : i < ds.length
    · refine .inr ⟨go i hlt, fun σ2 H2 => ∃ G2 al2 ρ2 μ2, Nx G1 H1 al1 G2 H2 al2 ∧ RpS K G2 al2 σ2 ρ2 ∧ As K G2 H2 al2 μ2 ∧ Iv (i + 1) ρ2 μ2, fun σ2 H2 q => ⟨ds.length - (i + 1), by omega, rfl, hlt, q⟩, fun x H3 y => ?_⟩
      obtain ⟨G3, n3, A3, r3⟩ := yld i x H3 y _ (List.getElem?_eq_getElem hlt)
      have q := hs i _ ρ' μ' (List.getElem?_eq_getElem hlt) iv σ' G3 H3 al' x (((hB.trans n1).trans n').trans n3) (hσ'.nx n3) A3 r3
      refine q _ fun σ4 ρ4 μ4 G4 H4 al4 n4 hσ4 A4 p4 => ?_
      have nn : Nx G1 H1 al1 G4 H4 al4 := (n'.trans n3).trans n4
      exact p4 σ4 G4 H4 al4 ((hB.trans n1).trans nn) hσ4 A4 _ ⟨fun σ5 ρ5 μ5 G5 H5 al5 n5 hσ5 A5 p5 => ⟨G5, al5, ρ5, μ5, nn.trans n5, hσ5, A5, p5⟩, hD.rt.nx (n1.trans nn), hD.nx.nx (n1.trans nn), fun σ5 ρ5 μ5 G5 H5 al5 n5 hσ5 A5 p5 => ⟨G5, al5, ρ5, μ5, nn.trans n5, hσ5, A5, p5⟩⟩
    · have e : i = ds.length := by omega
      subst e
      exact .inl ⟨stop _ (Nat.le_refl _), hD.nx _ _ μ' G' H' al' (n1.trans n') hσ' A' (hd ρ' μ' iv)⟩
/-! ### while -/
theorem ds_while {c : TT} {tb : TS} {P : DEnds} (Iv : Nat → En → Mu → Prop) {m0 : Nat} (h0 : Iv m0 ρ μ)
    (hs : ∀ m ρ' μ', Iv m ρ' μ' → DT K B c ρ' μ' fun b μ1 => (b = true → DS K B tb ρ' μ1 { P with nx := fun ρ2 μ2 => ∃ m', m' < m ∧ Iv m' ρ2 μ2, ct := fun ρ2 μ2 => ∃ m', m' < m ∧ Iv m' ρ2 μ2, bk := P.nx }) ∧ (b = false → P.nx ρ' μ1)) : DS K B (tWhile c tb) ρ μ P := fun σ G H al hB hσ hA De hD => by
  refine ⟨fun m σ' H' => ∃ G' al' ρ' μ', Nx G H al G' H' al' ∧ RpS K G' al' σ' ρ' ∧ As K G' H' al' μ' ∧ Iv m ρ' μ', ⟨m0, G, al, ρ, μ, .refl, hσ, hA, h0⟩, ?_⟩
  rintro m σ' H' ⟨G', al', ρ', μ', n', hσ', A', iv⟩
  refine hs m ρ' μ' iv σ' G' H' al' (hB.trans n') hσ' A' _ fun b μ1 G1 H1 al1 n1 A1 p1 => ?_
  have nn := n'.trans n1
  cases b with
  | true =>
    rw [if_pos rfl]
    refine ⟨fun σ2 H2 => ∃ m', m' < m ∧ ∃ G2 al2 ρ2 μ2, Nx G H al G2 H2 al2 ∧ RpS K G2 al2 σ2 ρ2 ∧ As K G2 H2 al2 μ2 ∧ Iv m' ρ2 μ2, fun σ2 H2 q => q, ?_⟩
    exact p1.1 rfl σ' G1 H1 al1 (hB.trans nn) (hσ'.nx n1) A1 _ ⟨fun σ5 ρ5 μ5 G5 H5 al5 n5 hσ5 A5 ⟨m', lt, p5⟩ => ⟨m', lt, G5, al5, ρ5, μ5, nn.trans n5, hσ5, A5, p5⟩, hD.rt.nx nn, hD.nx.nx nn, fun σ5 ρ5 μ5 G5 H5 al5 n5 hσ5 A5 ⟨m', lt, p5⟩ => ⟨m', lt, G5, al5, ρ5, μ5, nn.trans n5, hσ5, A5, p5⟩⟩
  | false =>
    rw [if_neg (by simp)]
    exact hD.nx _ _ μ1 G1 H1 al1 nn (hσ'.nx n1) A1 (p1.2 rfl)
end
/-! ### comprehensions -/
def wipeD (ρ : En) : List Nat → En
  | [] => ρ
  | v :: vs => (wipeD ρ vs).set v none
theorem wipe_rps {K : PySem.W.Frag} {G : Hp} {al : List Addr} {σ : St} {ρ : En} (h : RpS K G al σ ρ) : ∀ vs : List Nat, RpS K G al (wipe σ vs) (wipeD ρ vs)
  | [] => h
  | v :: vs => (wipe_rps h vs).forget v none
theorem wipe_set {σ : St} {j : Nat} {x : Option V} : ∀ {vs : List Nat}, j ∈ vs → wipe (σ.set j x) vs = wipe σ vs
  | [], h => by simp at h
  | v :: vs, h => by
    by_cases hv : j ∈ vs
    · unfold wipe; rw [wipe_set hv]
    · have e : j = v := by simpa [hv] using h
      subst e
      have q : ∀ (ws : List Nat), j ∉ ws → wipe (σ.set j x) ws = (wipe σ ws).set j x := by
        intro ws
        induction ws with
        | nil => intro _; rfl
        | cons w ws ih =>
          intro hn
          simp only [List.mem_cons, not_or] at hn
          unfold wipe
          rw [ih hn.2, List.set_comm _ _ (fun z => hn.1 z)]
      unfold wipe
      rw [q vs hv, List.set_set]
theorem wipe_wipe (σ : St) : ∀ vs ws : List Nat, (∀ w ∈ ws, w ∈ vs) → wipe (wipe σ ws) vs = wipe σ vs
  | vs, [], _ => rfl
  | vs, w :: ws, h => by
    show wipe ((wipe σ ws).set w none) vs = wipe σ vs
    rw [wipe_set (h w (by simp)), wipe_wipe σ vs ws fun x hx => h x (by simp [hx])]
/-- a target that stores in vs alone -/
def GW (g : TG) (vs : List Nat) : Prop := ∀ x σ H (Q : St → Hp → Prop), g x σ H Q → g x σ H fun σ2 H2 => wipe σ2 vs = wipe σ vs ∧ Q σ2 H2
theorem gw_name {i : Nat} {vs : List Nat} (h : i ∈ vs) : GW (gName i) vs := fun x σ H Q q => ⟨wipe_set h, q⟩
section
variable {K : PySem.W.Frag} {B : Bs} {ρ : En} {μ : Mu} {te : TE} {tt : TT} {wi : TI} {g : TG} {vs : List Nat} {P : D → Mu → Prop}
/-- the list that a comprehension makes is frozen at its end -/
theorem de_lc (hg : GW g vs) (h : DI K B wi ρ μ fun ds S μ1 => ds.length ≤ 100000 ∧ ∃ Iv : Nat → List D → Mu → Prop, Iv 0 [] μ1 ∧ (∀ i acc μ', i ≤ ds.length → Iv i acc μ' → S μ') ∧
      (∀ i d acc μ', ds[i]? = some d → Iv i acc μ' → DG K B g d (wipeD ρ vs) μ' fun ρ2 μ2 => DT K B tt ρ2 μ2 fun b μ3 => (b = true → DE K B te ρ2 μ3 fun y μ4 => Iv (i + 1) (acc ++ [y]) μ4) ∧ (b = false → Iv (i + 1) acc μ3)) ∧
      (∀ acc μ', Iv ds.length acc μ' → P (.lst acc) μ')) : DE K B (tLc wi g tt te vs) ρ μ P := fun σ G H al hB hσ hA Q hQ =>
  h σ G H al hB hσ hA _ fun J ds S μ1 G1 H1 al1 n1 A1 ok p1 => by
    obtain ⟨hlen, Iv, h0, hS, hs, hd⟩ := p1
    intro Dl hDl
    have nDl : Dl ∉ al1 := fun m => A1.here Dl m hDl
    have gDl : G1 Dl = none := A1.sub.free hDl
    -- a store to the list that is made
    have store : ∀ {G' H' al' μ' ac}, Nx G1 H1 al1 G' H' al' → As K G' H' al' μ' → G' Dl = none → Dl ∉ al' → As K G' (upd H' Dl (.lst ac)) al' μ' ∧ Nx G1 H1 al1 G' (upd H' Dl (.lst ac)) al' := by
      intro G' H' al' μ' ac n A g' nal
      refine ⟨⟨fun b u e => by rw [upd_ne (ne_of_none e g')]; exact A.sub _ _ e, A.nd, A.len, fun a m => ?_, fun k a o e1 e2 => ?_⟩, ⟨n.g, n.p, fun a u h m => ?_, n.out, n.new⟩⟩
      · have z : a ≠ Dl := fun z => nal (z ▸ m)
        rw [upd_ne z]; exact A.here a m
      · have z : a ≠ Dl := fun z => nal (z ▸ List.mem_of_getElem? e1)
        exact OkO.mono (Same.refl _) (Pre.refl _) (fun _ g => g) (by rw [upd_ne z]) (A.ok k a o e1 e2)
      · rw [upd_ne (ne_of_none h hDl)]; exact n.keep a u h m
    -- Dl stays where it is through a step
    have stay : ∀ {G' H' al' G'' H'' al'' u}, Nx G' H' al' G'' H'' al'' → H' Dl = some (.lst u) → G' Dl = none → Dl ∉ al' → H'' Dl = some (.lst u) ∧ G'' Dl = none ∧ Dl ∉ al'' := by
      intro G' H' al' G'' H'' al'' u n h g' nal
      refine ⟨n.keep Dl (.lst u) h nal, n.out Dl (by rw [h]; simp) (fun vs e => by rw [h] at e; cases e) nal g', fun m => ?_⟩
      rcases n.new Dl m with z | z
      · exact nal z
      · rw [h] at z; cases z
    obtain ⟨A0, N0⟩ := store (ac := []) .refl A1 gDl nDl
    refine ⟨fun i m H' => m = ds.length - i ∧ i ≤ ds.length ∧ ∃ G' al' μ' acc vacc, Nx G1 H1 al1 G' H' al' ∧ As K G' H' al' μ' ∧ H' Dl = some (.lst vacc) ∧ Rps K G' al' vacc acc ∧ G' Dl = none ∧ Dl ∉ al' ∧ acc.length ≤ i ∧ Iv i acc μ',
      ⟨ds.length, by simp, Nat.zero_le _, G1, al1, μ1, [], [], N0, A0, upd_same, .nil, gDl, nDl, Nat.le_refl _, h0⟩, ?_⟩
    rintro i m H' ⟨rfl, hi, G', al', μ', acc, vacc, n', A', hv, rv, g', nal, hacc, iv⟩
    obtain ⟨go, stop, yld⟩ := ok G' H' al' μ' n' A' (hS i acc μ' hi iv)
    by_cases hlt : i < ds.length
    · refine .inr ⟨go i hlt, fun H2 => ∃ G2 al2 μ2 acc vacc, Nx G1 H1 al1 G2 H2 al2 ∧ As K G2 H2 al2 μ2 ∧ H2 Dl = some (.lst vacc) ∧ Rps K G2 al2 vacc acc ∧ G2 Dl = none ∧ Dl ∉ al2 ∧ acc.length ≤ i + 1 ∧ Iv (i + 1) acc μ2, fun H2 q => ⟨ds.length - (i + 1), by omega, rfl, hlt, q⟩, fun x H3 y => ?_⟩
      obtain ⟨G3, n3, A3, r3⟩ := yld i x H3 y _ (List.getElem?_eq_getElem hlt)
      obtain ⟨hv3, g3, nal3⟩ := stay n3 hv g' nal
      have nn3 := n'.trans n3
      have hw : RpS K G3 al' (wipe σ vs) (wipeD ρ vs) := wipe_rps ((hσ.nx n1).nx nn3) vs
      have q := hs i _ acc μ' (List.getElem?_eq_getElem hlt) iv (wipe σ vs) G3 H3 al' x (((hB.trans n1).trans n').trans n3) hw A3 r3
      have q2 := hg x (wipe σ vs) H3 _ (q (fun σ2 H2 => tt σ2 H2 fun b H3 => if b = true then te σ2 H3 fun y H4 => ∃ acc, H4 Dl = some (.lst acc) ∧ acc.length < sizeLine ∧ (∃ G2 al2 μ2 acc' vacc, Nx G1 H1 al1 G2 (upd H4 Dl (.lst (acc ++ [y]))) al2 ∧ As K G2 (upd H4 Dl (.lst (acc ++ [y]))) al2 μ2 ∧ (upd H4 Dl (.lst (acc ++ [y]))) Dl = some (.lst vacc) ∧ Rps K G2 al2 vacc acc' ∧ G2 Dl = none ∧ Dl ∉ al2 ∧ acc'.length ≤ i + 1 ∧ Iv (i + 1) acc' μ2)
          else (∃ G2 al2 μ2 acc' vacc, Nx G1 H1 al1 G2 H3 al2 ∧ As K G2 H3 al2 μ2 ∧ H3 Dl = some (.lst vacc) ∧ Rps K G2 al2 vacc acc' ∧ G2 Dl = none ∧ Dl ∉ al2 ∧ acc'.length ≤ i + 1 ∧ Iv (i + 1) acc' μ2)) fun σ4 ρ4 μ4 G4 H4 al4 n4 hσ4 A4 p4 => ?_)
      · rw [wipe_wipe σ vs vs fun _ h => h] at q2
        exact q2
      · obtain ⟨hv4, g4, nal4⟩ := stay n4 hv3 g3 nal3
        have nn4 := nn3.trans n4
        refine p4 σ4 G4 H4 al4 ((hB.trans n1).trans nn4) hσ4 A4 _ fun b μ5 G5 H5 al5 n5 A5 p5 => ?_
        obtain ⟨hv5, g5, nal5⟩ := stay n5 hv4 g4 nal4
        have nn5 := nn4.trans n5
        cases b with
        | false =>
          rw [if_neg (by simp)]
          exact ⟨G5, al5, μ5, acc, vacc, nn5, A5, hv5, (((rv.nx n3).nx n4).nx n5), g5, nal5, Nat.le_succ_of_le hacc, p5.2 rfl⟩
        | true =>
          rw [if_pos rfl]
          refine p5.1 rfl σ4 G5 H5 al5 ((hB.trans n1).trans nn5) (hσ4.nx n5) A5 _ fun yv y μ6 G6 H6 al6 n6 A6 r6 p6 => ?_
          obtain ⟨hv6, g6, nal6⟩ := stay n6 hv5 g5 nal5
          have rv6 := (((rv.nx n3).nx n4).nx n5).nx n6
          obtain ⟨A7, n7⟩ := store (ac := vacc ++ [yv]) (nn5.trans n6) A6 g6 nal6
          refine ⟨vacc, hv6, ?_, G6, al6, μ6, acc ++ [y], vacc ++ [yv], n7, A7, upd_same, rv6.append (.cons r6 .nil), g6, nal6, by simp; omega, p6⟩
          rw [rv6.length]
          exact Nat.lt_of_lt_of_le (Nat.lt_of_le_of_lt hacc (Nat.lt_of_lt_of_le hlt hlen)) (by decide)
    · have e : i = ds.length := by omega
      subst e
      refine .inl ⟨stop _ (Nat.le_refl _), ?_⟩
      have s1 : Same G' (upd G' Dl (.lst vacc)) := fun b u e => by rw [upd_ne (ne_of_none e g')]; exact e
      have A7 : As K (upd G' Dl (.lst vacc)) H' al' μ' := by
        refine ⟨fun b u e => ?_, A'.nd, A'.len, A'.here, fun k a o e1 e2 => ?_⟩
        · by_cases hb : b = Dl
          · subst hb; rw [upd_same] at e; rw [← e]; exact hv
          · rw [upd_ne hb] at e; exact A'.sub _ _ e
        · have z : a ≠ Dl := fun z => nal (z ▸ List.mem_of_getElem? e1)
          exact OkO.mono s1 (Pre.refl _) (fun _ g => by rw [upd_ne z]; exact g) rfl (A'.ok k a o e1 e2)
      have n7 : Nx G1 H1 al1 (upd G' Dl (.lst vacc)) H' al' := ⟨n'.g.trans s1, n'.p, n'.keep, fun a h t m g => by
        have z : a ≠ Dl := fun z => h (by rw [z]; exact hDl)
        rw [upd_ne z]; exact n'.out a h t m g, n'.new⟩
      exact hQ _ _ _ _ _ _ (n1.trans n7) A7 (.lst upd_same (rv.mono s1 (Pre.refl _))) (hd acc μ' iv)
theorem dt_yes {PT' : Bool → Mu → Prop} (h : PT' true μ) : DT K B tYes ρ μ PT' := fun σ G H al hB hσ hA Q hQ => hQ true μ G H al .refl hA h
end
end Dl
set_option Elab.async false
set_option linter.all false
set_option maxRecDepth 100000
namespace Dl
open PySem L2 PyProof.Rows
/-! ### what names no thing from the n-th on -/
mutual
def D.cl : D → Nat → Bool
  | .tup xs, n => clL xs n
  | .lst xs, n => clL xs n
  | .rdl xs, n => clL xs n
  | .rdt xs, n => clL xs n
  | .obj _ gs, n => clF gs n
  | .exc _ gs, n => clF gs n
  | .dct gs, n => clK gs n
  | .own k, n => decide (k < n)
  | .non, _ => true
  | .bl _, _ => true
  | .int _, _ => true
  | .str _, _ => true
  | .ty _, _ => true
  | .loc _, _ => true
def clL : List D → Nat → Bool
  | [], _ => true
  | x :: xs, n => D.cl x n && clL xs n
def clF : List (Str × D) → Nat → Bool
  | [], _ => true
  | (_, x) :: xs, n => D.cl x n && clF xs n
def clK : List (Key × D) → Nat → Bool
  | [], _ => true
  | (_, x) :: xs, n => D.cl x n && clK xs n
end
def MO.cl : MO → Nat → Bool
  | .dead, _ => true
  | .lst xs, n => clL xs n
  | .ins _ gs, n => clF gs n
  | .dK gs, n => clK gs n
  | .dT gs, n => clL (gs.map (·.2)) n
  | .tab _ _, _ => true
theorem clL_iff {xs : List D} {n : Nat} : clL xs n = true ↔ ∀ x ∈ xs, x.cl n = true := by
  induction xs with
  | nil => simp [clL]
  | cons x xs ih => simp [clL, ih]
theorem clL_map {α : Type} {f : α → D} {xs : List α} {n : Nat} (h : ∀ x ∈ xs, (f x).cl n = true) : clL (xs.map f) n = true := by
  rw [clL_iff]
  intro x hx
  obtain ⟨a, ha, rfl⟩ := List.mem_map.mp hx
  exact h a ha
@[simp] theorem clL_append {xs ys : List D} {n : Nat} : clL (xs ++ ys) n = (clL xs n && clL ys n) := by
  induction xs with
  | nil => simp [clL]
  | cons x xs ih => simp [clL, ih, Bool.and_assoc]
section
variable {K : PySem.W.Frag} {G : Hp} {al be : List Addr}
mutual
theorem Rp.cl : ∀ {v : V} {d : D}, Rp K G al v d → d.cl al.length = true
  | _, _, .non => by simp [D.cl]
  | _, _, .bl _ => by simp [D.cl]
  | _, _, .int _ => by simp [D.cl]
  | _, _, .str _ => by simp [D.cl]
  | _, _, .ty _ => by simp [D.cl]
  | _, _, .tup _ r => by unfold D.cl; exact Rps.cl r
  | _, _, .lst _ r => by unfold D.cl; exact Rps.cl r
  | _, _, .rdl _ r => by unfold D.cl; exact Rps.cl r
  | _, _, .rdt _ r => by unfold D.cl; exact Rps.cl r
  | _, _, .obj _ r => by unfold D.cl; exact Rpf.cl r
  | _, _, .dct _ r => by unfold D.cl; exact Rpk.cl r
  | _, _, .own h => by unfold D.cl; exact decide_eq_true (List.getElem?_eq_some_iff.mp h).1
  | _, _, .loc _ => by simp [D.cl]
  | _, _, .exc _ _ r => by unfold D.cl; exact Rpf.cl r
theorem Rps.cl : ∀ {v : List V} {d : List D}, Rps K G al v d → clL d al.length = true
  | _, _, .nil => by simp [clL]
  | _, _, .cons h r => by unfold clL; rw [Rp.cl h, Rps.cl r]; rfl
theorem Rpf.cl : ∀ {v : List (Str × V)} {d : List (Str × D)}, Rpf K G al v d → clF d al.length = true
  | _, _, .nil => by simp [clF]
  | _, _, .cons h r => by unfold clF; rw [Rp.cl h, Rpf.cl r]; rfl
theorem Rpk.cl : ∀ {v : List (Key × V)} {d : List (Key × D)}, Rpk K G al v d → clK d al.length = true
  | _, _, .nil => by simp [clK]
  | _, _, .cons h r => by unfold clK; rw [Rp.cl h, Rpk.cl r]; rfl
end
mutual
theorem Rp.shrink : ∀ {v : V} {d : D}, Rp K G (al ++ be) v d → d.cl al.length = true → Rp K G al v d
  | _, _, .non, _ => .non
  | _, _, .bl b, _ => .bl b
  | _, _, .int i, _ => .int i
  | _, _, .str x, _ => .str x
  | _, _, .ty x, _ => .ty x
  | _, _, .tup e r, h => .tup e (Rps.shrink r (by unfold D.cl at h; exact h))
  | _, _, .lst e r, h => .lst e (Rps.shrink r (by unfold D.cl at h; exact h))
  | _, _, .rdl e r, h => .rdl e (Rps.shrink r (by unfold D.cl at h; exact h))
  | _, _, .rdt e r, h => .rdt e (Rps.shrink r (by unfold D.cl at h; exact h))
  | _, _, .obj e r, h => .obj e (Rpf.shrink r (by unfold D.cl at h; exact h))
  | _, _, .dct e r, h => .dct e (Rpk.shrink r (by unfold D.cl at h; exact h))
  | _, _, .own e, h => .own (by
      unfold D.cl at h
      rw [List.getElem?_append_left (of_decide_eq_true h)] at e
      exact e)
  | _, _, .loc a, _ => .loc a
  | _, _, .exc e d r, h => .exc e d (Rpf.shrink r (by unfold D.cl at h; exact h))
theorem Rps.shrink : ∀ {v : List V} {d : List D}, Rps K G (al ++ be) v d → clL d al.length = true → Rps K G al v d
  | _, _, .nil, _ => .nil
  | _, _, .cons r t, h => by
    unfold clL at h; simp at h
    exact .cons (Rp.shrink r h.1) (Rps.shrink t h.2)
theorem Rpf.shrink : ∀ {v : List (Str × V)} {d : List (Str × D)}, Rpf K G (al ++ be) v d → clF d al.length = true → Rpf K G al v d
  | _, _, .nil, _ => .nil
  | _, _, .cons r t, h => by
    unfold clF at h; simp at h
    exact .cons (Rp.shrink r h.1) (Rpf.shrink t h.2)
theorem Rpk.shrink : ∀ {v : List (Key × V)} {d : List (Key × D)}, Rpk K G (al ++ be) v d → clK d al.length = true → Rpk K G al v d
  | _, _, .nil, _ => .nil
  | _, _, .cons r t, h => by
    unfold clK at h; simp at h
    exact .cons (Rp.shrink r h.1) (Rpk.shrink t h.2)
end
end
def MuCl (μ : Mu) (n : Nat) : Prop := ∀ o ∈ μ, o.cl n = true
section
variable {K : PySem.W.Frag} {G H : Hp} {al be : List Addr} {μ ext : Mu}
theorem As.cl (A : As K G H al μ) : MuCl μ μ.length := fun o ho => by
  obtain ⟨k, hk⟩ := List.getElem?_of_mem ho
  obtain ⟨a, ha, ok⟩ := A.get hk
  rw [← A.len]
  cases o with
  | dead => rfl
  | lst ds => obtain ⟨_, _, _, r⟩ := ok; exact r.cl
  | ins C gs => obtain ⟨_, _, _, _, r⟩ := ok; exact r.cl
  | dK gs => obtain ⟨_, _, _, r⟩ := ok; exact r.cl
  | dT gs => obtain ⟨_, _, _, _, r⟩ := ok; exact r.cl
  | tab _ _ => rfl
theorem As.shrink (A : As K G H (al ++ be) (μ ++ ext)) (hl : al.length = μ.length) (hc : MuCl μ μ.length) : As K G H al μ := by
  refine ⟨A.sub, (List.nodup_append.mp A.nd).1, hl, fun a m => A.here a (List.mem_append_left _ m), fun k a o e1 e2 => ?_⟩
  have hk : k < al.length := (List.getElem?_eq_some_iff.mp e1).1
  have ok := A.ok k a o (by rw [List.getElem?_append_left hk]; exact e1) (by rw [List.getElem?_append_left (by rw [← hl]; exact hk)]; exact e2)
  have c := hc o (List.mem_of_getElem? e2)
  rw [← hl] at c
  cases o with
  | dead => trivial
  | lst ds => obtain ⟨g, vs, e, r⟩ := ok; exact ⟨g, vs, e, r.shrink c⟩
  | ins C gs => obtain ⟨g, dx, vs, e, r⟩ := ok; exact ⟨g, dx, vs, e, r.shrink c⟩
  | dK gs => obtain ⟨g, vs, e, r⟩ := ok; exact ⟨g, vs, e, r.shrink c⟩
  | dT gs => obtain ⟨g, vs, e, q, r⟩ := ok; exact ⟨g, vs, e, q, r.shrink c⟩
  | tab _ _ => exact ok
theorem Nx.shrink {G' H' : Hp} {al' : List Addr} (n : Nx G H al G' H' (al ++ al')) : Nx G H al G' H' al := ⟨n.g, Pre.refl _, n.keep, n.out, fun a m => .inl m⟩
end
/-! ### exceptions -/
abbrev PXT := Addr → List (Str × D) → Mu → Prop
/-- the own dict of an exception, frozen -/
def XRep (K : PySem.W.Frag) (G : Hp) (al : List Addr) (dd : Option Addr) (fs : List (Str × D)) : Prop := (dd = none ∧ fs = []) ∨ ∃ d vs, dd = some d ∧ G d = some (.xd vs) ∧ Rpf K G al vs fs
def XAg (K : PySem.W.Frag) (B : Bs) (PX : PXT) (E : XK) : Prop := ∀ C fs dd μ' G' H' al', B.le G' H' al' → As K G' H' al' μ' → XRep K G' al' dd fs → PX C fs μ' → E (.ref C) dd H'
theorem XAg.nx {K : PySem.W.Frag} {B : Bs} {PX : PXT} {E : XK} {G H : Hp} {al : List Addr} (n : B.le G H al) (h : XAg K B PX E) : XAg K ⟨G, H, al⟩ PX E := fun C fs dd μ' G' H' al' n' A r p => h C fs dd μ' G' H' al' (n.trans n') A r p
theorem XAg.none {K : PySem.W.Frag} {B : Bs} {E : XK} : XAg K B (fun _ _ _ => False) E := fun _ _ _ _ _ _ _ _ _ _ p => p.elim
theorem Rpf.nx {K : PySem.W.Frag} {G H G1 H1 : Hp} {al al1 : List Addr} (n : Nx G H al G1 H1 al1) {v : List (Str × V)} {d : List (Str × D)} (h : Rpf K G al v d) : Rpf K G1 al1 v d := h.mono n.g n.p
/-! ### contracts -/
abbrev CT := List D → Mu → (D → Mu → Prop) → PXT → Prop
def spD (K : PySem.W.Frag) (C : CT) : Sp := fun vs H Q E => ∃ G al ds μ P PX, As K G H al μ ∧ Rps K G al vs ds ∧ C ds μ P PX ∧ KV K G H al P Q ∧ XAg K ⟨G, H, al⟩ PX E
/-- behind a call: the callee's own things are forgotten, but those that are handed on -/
def Ret (n : Nat) (P : D → Mu → Prop) (d : D) (μ' : Mu) : Prop := ∃ μ1 ext, μ' = μ1 ++ ext ∧ n ≤ μ1.length ∧ MuCl μ1 μ1.length ∧ d.cl μ1.length = true ∧ P d μ1
def RetX (n : Nat) (PX : PXT) : PXT := fun C fs μ' => ∃ μ1 ext, μ' = μ1 ++ ext ∧ μ1.length = n ∧ MuCl μ1 n ∧ clF fs n = true ∧ PX C fs μ1
theorem XAg.ret {K : PySem.W.Frag} {G1 H1 G2 H2 : Hp} {al1 al2 : List Addr} {PX : PXT} {E : XK} (h : XAg K ⟨G1, H1, al1⟩ PX E) (n2 : Nx G1 H1 al1 G2 H2 al2) : XAg K ⟨G2, H2, al2⟩ (RetX al1.length PX) E := by
  intro C fs dd μ' G' H' al' n A' xr ⟨μ1, ext, e, hl, hcl, hf, hp⟩
  have n' : Nx G1 H1 al1 G' H' al' := n2.trans n
  obtain ⟨be, rfl⟩ := n'.p
  subst e
  refine h C fs dd μ1 G' H' al1 n'.shrink (A'.shrink hl.symm (by rw [hl]; exact hcl)) ?_ hp
  rcases xr with ⟨h1, h2⟩ | ⟨d, vs, h1, h2, h3⟩
  · exact .inl ⟨h1, h2⟩
  · exact .inr ⟨d, vs, h1, h2, h3.shrink hf⟩
def fnE (n : Nat) (P : D → Mu → Prop) : DEnds := { nx := fun _ μ' => Ret n P .non μ', rt := Ret n P }
theorem ret_same {μ ext : Mu} {n : Nat} {P : D → Mu → Prop} {d : D} (hn : n ≤ μ.length) (hc : MuCl μ μ.length) (hd : d.cl μ.length = true) (h : P d μ) : Ret n P d (μ ++ ext) := ⟨μ, ext, rfl, hn, hc, hd, h⟩
theorem ret_same0 {μ : Mu} {n : Nat} {P : D → Mu → Prop} {d : D} (hn : n ≤ μ.length) (hc : MuCl μ μ.length) (hd : d.cl μ.length = true) (h : P d μ) : Ret n P d μ := ⟨μ, [], by simp, hn, hc, hd, h⟩
theorem retx_same0 {μ : Mu} {PX : PXT} {C : Addr} {fs : List (Str × D)} (hc : MuCl μ μ.length) (hd : clF fs μ.length = true) (h : PX C fs μ) : RetX μ.length PX C fs μ := ⟨μ, [], by simp, rfl, hc, hd, h⟩
theorem MuCl.set {μ : Mu} {n k : Nat} {o : MO} (h : MuCl μ n) (ho : o.cl n = true) : MuCl (μ.set k o) n := fun x hx => by
  rcases List.mem_or_eq_of_mem_set hx with m | e
  · exact h x m
  · subst e; exact ho
theorem MuCl.get {μ : Mu} {n k : Nat} {o : MO} (h : MuCl μ n) (e : μ[k]? = some o) : o.cl n = true := h o (List.mem_of_getElem? e)
def startD (N : List Str) (ds : List D) : En := ds.map some ++ List.replicate (N.length - ds.length) none
theorem start_rp {K : PySem.W.Frag} {G : Hp} {al : List Addr} {N : List Str} {vs : List V} {ds : List D} (h : Rps K G al vs ds) : RpS K G al (L2.start N vs) (startD N ds) := by
  have hl := h.length
  refine ⟨by simp [L2.start, startD, hl], fun i d e => ?_⟩
  unfold startD at e
  unfold L2.start
  by_cases hi : i < ds.length
  · rw [List.getElem?_append_left (by simpa using hi), List.getElem?_map] at e
    cases q : ds[i]? with
    | none => rw [q] at e; cases e
    | some x =>
      rw [q] at e
      have ex : x = d := by simpa using e
      subst ex
      obtain ⟨v, hv, r⟩ := h.get q
      refine ⟨v, ?_, r⟩
      rw [List.getElem?_append_left (by simp [hl, hi]), List.getElem?_map, hv]
      rfl
  · rw [List.getElem?_append_right (by simp; omega), List.getElem?_replicate] at e
    split at e <;> simp at e
section
variable {P : Program} {w : World} {K : PySem.W.Frag} {mg : Str → Option Value} {base : Heap}
theorem sem_of {C : CT} {N : List Str} {t : XK → TS} (hn : ∀ ds μ P PX, C ds μ P PX → ds.length ≤ N.length) (sem : ∀ ds μ P PX, C ds μ P PX → MuCl μ μ.length → clL ds μ.length = true → ∀ B E, XAg K B (RetX μ.length PX) E → DS K B (t E) (startD N ds) μ (fnE μ.length P))
    {vs : List V} {H : Hp} {Q : VK} {E : XK} (h : spD K C vs H Q E) : t E { nx := fun _ H' => Q .non H', rt := Q } (L2.start N vs) H := by
  obtain ⟨G, al, ds, μ, P, PX, A, r, c, hQ, hX⟩ := h
  have hc := A.cl
  have sh : ∀ {v : V} {d : D} {μ' : Mu} {G' H' : Hp} {al' : List Addr}, Nx G H al G' H' al' → As K G' H' al' μ' → Rp K G' al' v d → Ret μ.length P d μ' → Q v H' := by
    intro v d μ' G' H' al' n A' rv ⟨μ1, ext, e, hl, hcl, hd, hp⟩
    subst e
    have hlen : μ1.length ≤ al'.length := by rw [A'.len]; simp
    have e1 : al' = al'.take μ1.length ++ al'.drop μ1.length := (List.take_append_drop _ _).symm
    have l1 : (al'.take μ1.length).length = μ1.length := by rw [List.length_take]; omega
    have pre : Pre al (al'.take μ1.length) := by
      obtain ⟨be, e2⟩ := n.p
      refine ⟨(be.take (μ1.length - al.length)), ?_⟩
      rw [e2, List.take_append]
      rw [List.take_of_length_le (by rw [A.len]; exact hl)]
    have n1 : Nx G H al G' H' (al'.take μ1.length) := ⟨n.g, pre, n.keep, n.out, fun a m => n.new a (List.mem_of_mem_take m)⟩
    rw [e1] at A' rv
    exact hQ v d μ1 G' H' _ n1 (A'.shrink l1 hcl) (rv.shrink (by rw [l1]; exact hd)) hp
  refine sem ds μ P PX c hc (by rw [← A.len]; exact r.cl) ⟨G, H, al⟩ E ?_ _ G H al .refl (start_rp r) A _ ⟨fun σ' ρ' μ' G' H' al' n hσ A' p => sh n A' .non p, fun v d μ' G' H' al' n A' rv p => sh n A' rv p, fun _ _ _ _ _ _ _ _ _ p => p.elim, fun _ _ _ _ _ _ _ _ _ p => p.elim⟩
  rw [← A.len]
  exact hX.ret .refl
end
/-! ### calls -/
section
variable {K : PySem.W.Frag} {B : Bs} {ρ : En} {μ : Mu} {te : TE} {ts : TA} {P : D → Mu → Prop} {PX : PXT} {E : XK} {C : CT} {dvs : List V} {dds : List D}
theorem de_call (hE : XAg K B PX E) (h : DA K B ts ρ μ fun ds μ1 => C ds μ1 P PX) : DE K B (tCall (spD K C) [] E ts) ρ μ P := fun σ G H al hB hσ hA Q hQ =>
  h σ G H al hB hσ hA _ fun vs ds μ1 G1 H1 al1 n1 A1 r1 p1 => by
    rw [List.append_nil]
    exact ⟨G1, al1, ds, μ1, P, PX, A1, r1, p1, hQ.nx n1, hE.nx (hB.trans n1)⟩
theorem de_meth {Cc : Addr} {m : Str} (hE : XAg K B PX E) (h : DE K B te ρ μ fun x μ1 => ∃ gs, (x = .obj Cc gs ∨ ∃ k, x = .own k ∧ μ1[k]? = some (.ins Cc gs)) ∧ gs.lookup m = none ∧ DA K B ts ρ μ1 fun ds μ2 => C (x :: ds) μ2 P PX) : DE K B (tMeth Cc m (spD K C) [] E te ts) ρ μ P := fun σ G H al hB hσ hA Q hQ =>
  h σ G H al hB hσ hA _ fun v x μ1 G1 H1 al1 n1 A1 r1 p1 => by
    obtain ⟨gs, hx, hl, p⟩ := p1
    have key : ∃ a dx fs, v = .ref a ∧ H1 a = some (.ins Cc dx fs) ∧ fs.lookup m = none := by
      rcases hx with rfl | ⟨k, rfl, hk⟩
      · cases r1 with | obj e rf => exact ⟨_, _, _, rfl, A1.sub _ _ e, rf.none hl⟩
      · obtain ⟨a, ha, ga, dx, fs, hv, rf⟩ := A1.get hk
        cases r1 with | own e => rw [ha] at e; cases e; exact ⟨_, _, _, rfl, hv, rf.none hl⟩
    obtain ⟨a, dx, fs, e, hv, hm⟩ := key
    refine ⟨a, dx, fs, e, hv, hm, p σ G1 H1 al1 (hB.trans n1) (hσ.nx n1) A1 _ fun vs ds μ2 G2 H2 al2 n2 A2 r2 p2 => ?_⟩
    rw [List.append_nil]
    exact ⟨G2, al2, x :: ds, μ2, P, PX, A2, .cons (r1.nx n2) r2, p2, hQ.nx (n1.trans n2), hE.nx (hB.trans (n1.trans n2))⟩
/-- C(..): the new instance is frozen behind its __init__ -/
theorem de_make {Cc : Addr} (hE : XAg K B PX E) (hd : ∀ G al, Rps K G al dvs dds) (h : DA K B ts ρ μ fun ds μ1 => C (.own μ1.length :: (ds ++ dds)) (μ1 ++ [.ins Cc []]) (fun d μ2 => d = .non ∧ ∃ gs, μ2 = μ1 ++ [.ins Cc gs] ∧ clF gs μ1.length = true ∧ P (.obj Cc gs) μ1) (RetX μ1.length PX)) : DE K B (tMake Cc (spD K C) dvs E ts) ρ μ P := fun σ G H al hB hσ hA Q hQ =>
  h σ G H al hB hσ hA _ fun vs ds μ1 G1 H1 al1 n1 A1 r1 p1 => by
    intro x dx hx hdx hne
    -- the own dict first
    have nx1 : x ≠ dx := hne.symm
    have A2 : As K G1 (upd H1 dx (.own x)) al1 μ1 ∧ Nx G1 H1 al1 G1 (upd H1 dx (.own x)) al1 := by
      have gd : G1 dx = none := A1.sub.free hdx
      have nal : dx ∉ al1 := fun m => A1.here dx m hdx
      refine ⟨⟨fun b u e => by rw [upd_ne (ne_of_none e gd)]; exact A1.sub _ _ e, A1.nd, A1.len, fun a m => ?_, fun k a o e1 e2 => ?_⟩, ⟨Same.refl _, Pre.refl _, fun a u h _ => by rw [upd_ne (ne_of_none h hdx)]; exact h, fun _ _ _ _ g => g, fun _ m => .inl m⟩⟩
      · have z : a ≠ dx := fun z => nal (z ▸ m)
        rw [upd_ne z]; exact A1.here a m
      · have z : a ≠ dx := fun z => nal (z ▸ List.mem_of_getElem? e1)
        exact OkO.mono (Same.refl _) (Pre.refl _) (fun _ g => g) (by rw [upd_ne z]) (A1.ok k a o e1 e2)
    obtain ⟨A2, n2⟩ := A2
    have hx2 : (upd H1 dx (.own x)) x = none := by rw [upd_ne nx1]; exact hx
    obtain ⟨A3, n3⟩ := A2.own (o := .ins Cc dx []) (m := .ins Cc []) hx2 ⟨A2.sub.free hx2, dx, [], upd_same, .nil⟩
    refine ⟨G1, al1 ++ [x], .own μ1.length :: (ds ++ dds), μ1 ++ [.ins Cc []], _, _, A3, .cons (.own (by rw [← A1.len]; simp)) ((((r1.nx n2).nx n3).append (hd _ _))), p1, ?_, by rw [← A1.len]; exact (hE.nx (hB.trans n1)).ret (n2.trans n3)⟩
    intro v d μ2 G4 H4 al4 n4 A4 r4 p4
    obtain ⟨rfl, gs, rfl, hcl, hp⟩ := p4
    cases r4
    refine ⟨rfl, ?_⟩
    have hal : al4[μ1.length]? = some x := n4.p.get (by rw [← A1.len]; simp)
    obtain ⟨a, ha, ga, dx4, fs4, hv4, rf4⟩ := A4.get (k := μ1.length) (m := .ins Cc gs) (by simp)
    rw [hal] at ha; cases ha
    obtain ⟨A5, n5⟩ := A4.freeze hal hv4 ga
    have nn : Nx G1 H1 al1 (upd G4 x (.ins Cc dx4 fs4)) H4 al4 := ((n2.trans n3).trans n4).trans n5
    obtain ⟨be, rfl⟩ := nn.p
    have e5 : (μ1 ++ [MO.ins Cc gs]).set μ1.length MO.dead = μ1 ++ [.dead] := by simp
    rw [e5] at A5
    refine hQ (.ref x) (.obj Cc gs) μ1 _ H4 al1 (n1.trans nn.shrink) (A5.shrink A1.len A1.cl) ?_ hp
    exact .obj upd_same ((rf4.nx n5).shrink (by rw [A1.len]; exact hcl))
theorem da_nd : ∀ G al, Rps K G al [] [] := fun _ _ => .nil
end
end Dl
set_option Elab.async false
set_option linter.all false
set_option maxRecDepth 100000
namespace L2
open PySem PySem.Spec PyProof.Rows
section
variable {X : Cx} {a b c d : Expr} {ta tb tc td : TE} {pos : Pos}
/-- a op1 b op2 c op3 d -/
def tChain3 (r r' r3 : R2) (ta tb tc td : TE) : TE := fun σ H Q => ta σ H fun x H1 => tb σ H1 fun y H2 => r x y H2 fun z H3 => ∃ k, z = .bl k ∧
  (if k = true then tc σ H3 fun w' H4 => r' y w' H4 fun z2 H5 => ∃ k2, z2 = .bl k2 ∧ (if k2 = true then td σ H5 fun u H6 => r3 w' u H6 Q else Q (.bl false) H5) else Q (.bl false) H3)
end
/-- two readings of one expression -/
theorem PE.or {X : Cx} {e : Expr} {t u : TE} (h : PE X e t) (h' : PE X e u) : PE X e (fun σ H Q => t σ H Q ∨ u σ H Q) := ⟨fun pins s σ H Q I hw => hw.elim (h.run pins s σ H Q I) (h'.run pins s σ H Q I)⟩
def tOrE (t u : TE) : TE := fun σ H Q => t σ H Q ∨ u σ H Q
/-! ### operators of any kind -/
def rAddS : R2 := fun x y H Q => ∃ i j, x = .str i ∧ y = .str j ∧ i.length + j.length ≤ sizeLine ∧ Q (.str (i ++ j)) H
def rAddA (K : PySem.W.Frag) : R2 := fun x y H Q => rI0 (fun i j => .int (i + j)) x y H Q ∨ rCat x y H Q ∨ rAddS x y H Q ∨ rCatT K x y H Q
def rMulA : R2 := fun x y H Q => rI CMul (fun i j => .int (i * j)) x y H Q ∨ rI CMulW (fun i j => .int (i * j)) x y H Q ∨ rRep x y H Q
section
variable {X : Cx}
theorem op_addA : OpR X (binaryOp .Add) (rAddA X.K) := op_add.or (op_cat.or (op_add_str.or op_catT))
theorem op_mulA : OpR X (binaryOp .Mult) rMulA := op_mul.or (op_mulW.or op_rep)
end
def rFdivA : R2 := fun x y H Q => rI CDivW (fun i j => .int (i / j)) x y H Q ∨ rI CDivN (fun i j => .int (i.fdiv j)) x y H Q
def rModA : R2 := fun x y H Q => rI (fun _ j => 0 < j) (fun i j => .int (i % j)) x y H Q ∨ rI (fun _ j => j ≠ 0) (fun i j => .int (i.fmod j)) x y H Q
def rInSg : R2 := fun x y H Q => ∃ (c : Nat) (z : Str), x = .str ⟨#[c]⟩ ∧ y = .str z ∧ Q (.bl (decide (c ∈ z.cps.toList))) H
def rInSt : R2 := fun x y H Q => ∃ i j, x = .str i ∧ y = .str j ∧ Q (.bl (!(Builtin.Str.occurrences j i 0 j.length 1).isEmpty)) H
def rInA (K : PySem.W.Frag) : R2 := fun x y H Q => rIn K false x y H Q ∨ rInSg x y H Q ∨ rInSt x y H Q
section
variable {X : Cx}
theorem op_fdivA : OpR X (binaryOp .FloorDiv) rFdivA := op_fdivW.or op_fdivN
theorem op_modA : OpR X (binaryOp .Mod) rModA := op_mod.or op_modN
theorem op_inA : OpR X (compareOp .In) (rInA X.K) := op_in_seq.or (op_in_sign.or op_in_str)
end
def rNotInA (K : PySem.W.Frag) : R2 := fun x y H Q => rIn K true x y H Q ∨ (fun x y H Q => ∃ (c : Nat) (z : Str), x = .str ⟨#[c]⟩ ∧ y = .str z ∧ Q (.bl (!decide (c ∈ z.cps.toList))) H) x y H Q
theorem op_notInA {X : Cx} : OpR X (compareOp .NotIn) (rNotInA X.K) := op_notIn_seq.or op_notIn_sign
/-- a list, a tuple, a text walked -/
def iAny (K : PySem.W.Frag) (tl : TE) : TI := fun σ H R => tl σ H fun x H1 => (∃ a, x = .ref a ∧ (∃ xs, SqL K H1 a xs) ∧ R (Itl K a) H1) ∨ (∃ a, x = .ref a ∧ (∃ xs, SqT K H1 a xs) ∧ R (Itt K a) H1) ∨ ∃ s, x = .str s ∧ R (Its s) H1
theorem pi_any {X : Cx} {tg l : Expr} {tl : TE} (hl : PE X l tl) : PI X tg l (iAny X.K tl) := by
  refine ⟨fun pins s σ H R I h => ?_⟩
  refine thn (hl.run pins s σ H _ I h) fun v s1 ⟨x, H1, I1, r1, q1⟩ => ?_
  rcases q1 with ⟨a, e, ⟨xs, hq⟩, q⟩ | ⟨a, e, ⟨xs, hq⟩, q⟩ | ⟨z, e, q⟩
  · subst e
    cases r1
    obtain ⟨its, rv, p, hz⟩ := I1.list hq
    refine wpAny_pyIter_list p.isList ?_
    refine ⟨s1.heap.objs.size, [s1.heap.objs.size], _, _, H1, rfl, I1.kept (t' := s1.toks) fun b o e => Heap.get?_push_of_some _ e, turn_list a _, ⟨_, Heap.get?_push_size _ rfl, rfl, rfl⟩, fun b hb => ?_, q⟩
    have e : b = s1.heap.objs.size := by simpa using hb
    subst e
    exact I1.fpOk (Nat.le_refl _) (I1.hok.fresh (Nat.le_refl _))
  · subst e
    cases r1
    obtain ⟨its, rv, p, hz⟩ := I1.tuple hq
    refine wpAny_pyIter_tuple (show s1.heap.IsTuple a its.toArray from p) ?_
    refine ⟨s1.heap.objs.size, [s1.heap.objs.size], _, _, H1, rfl, I1.kept (t' := s1.toks) fun b o e => Heap.get?_push_of_some _ e, turn_tuple a _, ⟨_, Heap.get?_push_size _ rfl, rfl, rfl⟩, fun b hb => ?_, q⟩
    have e : b = s1.heap.objs.size := by simpa using hb
    subst e
    exact I1.fpOk (Nat.le_refl _) (I1.hok.fresh (Nat.le_refl _))
  · subst e
    obtain ⟨t, rfl⟩ := r1
    cases ha : z.cps.all (· < 128)
    · exact wpAny_pyIter_wide ha (pi_one (tk := s1.toks) I1 _ (turn_str _ z t "str_iterator" (.inr rfl)) ⟨_, Heap.get?_push_size _ rfl, rfl, rfl⟩ q)
    · exact wpAny_pyIter_ascii ha (pi_one (tk := s1.toks) I1 _ (turn_str _ z t "str_ascii_iterator" (.inl rfl)) ⟨_, Heap.get?_push_size _ rfl, rfl, rfl⟩ q)
def rSlA (K : PySem.W.Frag) : V → Option Int → Option Int → Hp → VK → Prop := fun x lo hi H Q => rSlL K x lo hi H Q ∨ (∃ z, x = .str z ∧ z.length ≤ sizeLine ∧ Q (.str (cutS z lo hi)) H) ∨ rSlT K x lo hi H Q
theorem sl_any {X : Cx} : SlR X (rSlA X.K) := sl_list.or (sl_str.or sl_tup)
/-- an own exception without an __init__ of its own -/
structure ExC (K : PySem.W.Frag) (mg : Str → Option Value) (x : Str) : Prop where
  xc : PySem.W.excIn K (He.ga K x) He.veBase "ValueError.__new__" = true
  gc : mg x = some (.ref (He.ga K x))
  kc : PySem.W.keepIn K (.ref (He.ga K x)) = true
  bc : PySem.W.subIn K (.ref (He.ga K x)) (.type "BaseException") = some true
  tc : PySem.W.typeIn K (.ref (He.ga K x)) = some (.type "type")
/-- a value's truth -/
def tTruth (K : PySem.W.Frag) (ta : TE) : TT := fun σ H Q => ta σ H fun x H' => ∃ k, TruV K x H' k ∧ Q k H'
/-- a raise of an own class without fields -/
def tRaise0 (C : Addr) (E : XK) : TS := fun _ σ H => E (.ref C) none H
def _root_.Dl.rLen (K : PySem.W.Frag) : List V → Hp → VK → Prop := fun xs H Q => ∃ x n, xs = [x] ∧ LenV K x H n ∧ Q (.int (n : Nat)) H
def rMax2 : List V → Hp → VK → Prop := fun xs H Q => ∃ i j, xs = [.int i, .int j] ∧ Q (.int (if j > i then j else i)) H
def rMin2 : List V → Hp → VK → Prop := fun xs H Q => ∃ i j, xs = [.int i, .int j] ∧ Q (.int (if j < i then j else i)) H
def rMaxA (K : PySem.W.Frag) : List V → Hp → VK → Prop := fun xs H Q => rMax2 xs H Q ∨ rMax K xs H Q
def rMinA (K : PySem.W.Frag) : List V → Hp → VK → Prop := fun xs H Q => rMin2 xs H Q ∨ rMin K xs H Q
theorem call_minA {X : Cx} (hc : X.calm = true) : CallR X (.builtin "min") (rMinA X.K) := (call_min2 hc).or (cr_min hc)
def rListOf (K : PySem.W.Frag) : List V → Hp → VK → Prop := fun xs H Q => ∃ p ys, xs = [.ref p] ∧ (SqL K H p ys ∨ SqT K H p ys) ∧ ∀ l, H l = none → Q (.ref l) (upd H l (.lst ys))
end L2
namespace Dl
open PySem L2 PyProof.Rows
section
variable {K : PySem.W.Frag} {μ : Mu} {P : D → Mu → Prop} {i j : Int} {x y d : D} {ds es : List D}
theorem ro_addI (h : P (.int (i + j)) μ) : RO K (rAddA K) (.int i) (.int j) μ P := fun G H al v w A r1 r2 Q hQ => .inl (ro_i (f := fun i j => i + j) h G H al v w A r1 r2 Q hQ)
theorem ro_addL (h1 : Lt μ x ds) (h2 : Lt μ y es) (hs : ds.length + es.length ≤ 100000) (h : P (.lst (ds ++ es)) μ) : RO K (rAddA K) x y μ P := fun G H al v w A r1 r2 Q hQ => .inr (.inl (ro_cat h1 h2 hs h G H al v w A r1 r2 Q hQ))
theorem ro_addLO (h1 : Lt μ x ds) (h2 : Lt μ y es) (hs : ds.length + es.length ≤ 100000) (h : P (.own μ.length) (μ ++ [.lst (ds ++ es)])) : RO K (rAddA K) x y μ P := fun G H al v w A r1 r2 Q hQ => .inr (.inl (ro_catO h1 h2 hs h G H al v w A r1 r2 Q hQ))
theorem ro_addS {s t : Str} (hs : s.length + t.length ≤ 100000) (h : P (.str (s ++ t)) μ) : RO K (rAddA K) (.str s) (.str t) μ P := fun G H al v w A r1 r2 Q hQ => by
  cases r1; cases r2
  exact .inr (.inr (.inl ⟨s, t, rfl, rfl, Nat.le_trans hs (by decide), hQ.now A (.str _) h⟩))
theorem ro_mulI (hc : CMul i j) (h : P (.int (i * j)) μ) : RO K rMulA (.int i) (.int j) μ P := fun G H al v w A r1 r2 Q hQ => .inl (ro_ic (f := fun i j => i * j) hc h G H al v w A r1 r2 Q hQ)
theorem rc_max2' (h : P (.int (max i j)) μ) : RC K (rMaxA K) [.int i, .int j] μ P := fun G H al vs A r Q hQ => .inl (rc_max2 h G H al vs A r Q hQ)
theorem rc_min2' (h : P (.int (min i j)) μ) : RC K (rMinA K) [.int i, .int j] μ P := fun G H al vs A r Q hQ => .inl (rc_min2 h G H al vs A r Q hQ)
theorem rc_lenL (hl : Ls μ x ds) (h : P (.int (ds.length : Int)) μ) : RC K (rLen K) [x] μ P := rc_len hl h
theorem rc_lenT' (hl : Ts x ds) (h : P (.int (ds.length : Int)) μ) : RC K (rLen K) [x] μ P := rc_lenT hl h
theorem rc_lenS' {s : Str} (hs : s.length ≤ 100000) (h : P (.int (s.length : Int)) μ) : RC K (rLen K) [.str s] μ P := rc_lenS hs h
theorem rc_list (hl : Ls μ x ds) (h : P (.lst ds) μ) : RC K (rListOf K) [x] μ P := fun G H al vs A r Q hQ => by
  obtain ⟨v, rfl, r1⟩ := rps1 r
  obtain ⟨a, ws, rfl, s, rs⟩ := hl.get A r1
  refine ⟨a, ws, rfl, .inl s, fun p hp => ?_⟩
  obtain ⟨A2, n2⟩ := A.frz (o := .lst ws) hp
  exact hQ _ _ μ _ _ _ n2 A2 (.lst upd_same (rs.nx n2)) h
end
section
variable {K : PySem.W.Frag} {B : Bs} {ρ : En} {μ : Mu} {P : D → Mu → Prop} {ta tb te tc td : TE} {PT' : Bool → Mu → Prop}
theorem de_chain3 {r r' r3 : R2} (h : DE K B ta ρ μ fun x μ1 => DE K B tb ρ μ1 fun y μ2 => RO K r x y μ2 fun z μ3 => ∃ b, z = .bl b ∧ (b = true → DE K B tc ρ μ3 fun w μ4 => RO K r' y w μ4 fun z2 μ5 => ∃ b2, z2 = .bl b2 ∧
      (b2 = true → DE K B td ρ μ5 fun u μ6 => RO K r3 w u μ6 P) ∧ (b2 = false → P (.bl false) μ5)) ∧ (b = false → P (.bl false) μ3)) :
    DE K B (tChain3 r r' r3 ta tb tc td) ρ μ P := fun σ G H al hB hσ hA Q hQ =>
  h σ G H al hB hσ hA _ fun v d μ1 G1 H1 al1 n1 A1 r1 p1 => p1 σ G1 H1 al1 (hB.trans n1) (hσ.nx n1) A1 _ fun w e μ2 G2 H2 al2 n2 A2 r2 p2 =>
    p2 G2 H2 al2 v w A2 (r1.nx n2) r2 _ fun z dz μ3 G3 H3 al3 n3 A3 r3 p3 => by
      obtain ⟨b, rfl, pt, pf⟩ := p3
      cases r3
      refine ⟨b, rfl, ?_⟩
      have nn3 := (n1.trans n2).trans n3
      cases b with
      | false =>
        rw [if_neg (by simp)]
        exact hQ (.bl false) _ μ3 G3 H3 al3 nn3 A3 (.bl _) (pf rfl)
      | true =>
        rw [if_pos rfl]
        refine pt rfl σ G3 H3 al3 (hB.trans nn3) (hσ.nx nn3) A3 _ fun u du μ4 G4 H4 al4 n4 A4 r4 p4 => p4 G4 H4 al4 w u A4 ((r2.nx n3).nx n4) r4 _ fun z5 dz5 μ5 G5 H5 al5 n5 A5 r5 p5 => ?_
        obtain ⟨b2, rfl, pt2, pf2⟩ := p5
        cases r5
        refine ⟨b2, rfl, ?_⟩
        have nn5 := (nn3.trans n4).trans n5
        cases b2 with
        | false =>
          rw [if_neg (by simp)]
          exact hQ (.bl false) _ μ5 G5 H5 al5 nn5 A5 (.bl _) (pf2 rfl)
        | true =>
          rw [if_pos rfl]
          exact pt2 rfl σ G5 H5 al5 (hB.trans nn5) (hσ.nx nn5) A5 _ fun u6 du6 μ6 G6 H6 al6 n6 A6 r6 p6 => p6 G6 H6 al6 u u6 A6 ((r4.nx n5).nx n6) r6 Q (hQ.nx (nn5.trans n6))
theorem de_orL (h : DE K B ta ρ μ P) : DE K B (tOrE ta tb) ρ μ P := fun σ G H al hB hσ hA Q hQ => .inl (h σ G H al hB hσ hA Q hQ)
theorem de_orR (h : DE K B tb ρ μ P) : DE K B (tOrE ta tb) ρ μ P := fun σ G H al hB hσ hA Q hQ => .inr (h σ G H al hB hσ hA Q hQ)
theorem dt_truth (h : DE K B te ρ μ fun x μ1 => ∃ b, x = .bl b ∧ PT' b μ1) : DT K B (tTruth K te) ρ μ PT' := fun σ G H al hB hσ hA Q hQ =>
  h σ G H al hB hσ hA _ fun v d μ1 G1 H1 al1 n1 A1 r1 p1 => by
    obtain ⟨b, rfl, p⟩ := p1
    cases r1
    exact ⟨b, rfl, hQ b μ1 G1 H1 al1 n1 A1 p⟩
theorem ds_raise0 {C : Addr} {E : XK} {PX : PXT} {Pe : DEnds} (hE : XAg K B PX E) (h : PX C [] μ) : DS K B (tRaise0 C E) ρ μ Pe := fun σ G H al hB hσ hA De hD =>
  hE C [] none μ G H al hB hA (.inl ⟨rfl, rfl⟩) h
end
end Dl
set_option Elab.async false
set_option linter.all false
set_option maxRecDepth 100000
namespace Dl
open PySem L2 PyProof.Rows
section
variable {K : PySem.W.Frag} {μ : Mu} {P : D → Mu → Prop} {i j : Int} {x y d : D} {ds es : List D}
theorem ro_fdiv (hc : 0 < j) (hj : j.natAbs.log2 < 9000) (h : P (.int (i / j)) μ) : RO K rFdivA (.int i) (.int j) μ P := fun G H al v w A r1 r2 Q hQ => .inl (ro_ic (f := fun i j => i / j) ⟨hc, hj⟩ h G H al v w A r1 r2 Q hQ)
theorem ro_mod (hc : 0 < j) (h : P (.int (i % j)) μ) : RO K rModA (.int i) (.int j) μ P := fun G H al v w A r1 r2 Q hQ => .inl (ro_ic (f := fun i j => i % j) (C := fun _ j => 0 < j) hc h G H al v w A r1 r2 Q hQ)
theorem ro_pow (hc : CPow i j) (h : P (.int (i ^ j.toNat)) μ) : RO K (rI CPow fun i j => .int (i ^ j.toNat)) (.int i) (.int j) μ P := ro_ic (f := fun i j => i ^ j.toNat) hc h
theorem ro_isB {a b : Bool} (h : P (.bl (decide (a = b))) μ) : RO K rIsB (.bl a) (.bl b) μ P := fun G H al v w A r1 r2 Q hQ => by
  cases r1; cases r2
  exact ⟨a, b, rfl, rfl, hQ.now A (.bl _) h⟩
theorem ro_notB {a b : Bool} (h : P (.bl (!decide (a = b))) μ) : RO K rNotB (.bl a) (.bl b) μ P := fun G H al v w A r1 r2 Q hQ => by
  cases r1; cases r2
  exact ⟨a, b, rfl, rfl, hQ.now A (.bl _) h⟩
end
section
variable {K : PySem.W.Frag} {B : Bs} {ρ : En} {μ : Mu} {te ta : TE} {ts : TA} {PI' : List D → (Mu → Prop) → Mu → Prop} {P : DEnds} {t u v : TS}
/-- what a datum is walked as; S: what must stay of what may change -/
inductive Wk (μ : Mu) : D → List D → (Mu → Prop) → Prop
  | lst (ds : List D) : Wk μ (.lst ds) ds (fun _ => True)
  | rdl (ds : List D) : Wk μ (.rdl ds) ds (fun _ => True)
  | own {k : Nat} {ds : List D} (h : μ[k]? = some (.lst ds)) : Wk μ (.own k) ds (fun μ' => μ'[k]? = some (.lst ds))
  | tup (ds : List D) : Wk μ (.tup ds) ds (fun _ => True)
  | rdt (ds : List D) : Wk μ (.rdt ds) ds (fun _ => True)
  | str (s : Str) : Wk μ (.str s) (signsD s) (fun _ => True)
theorem itt_ok {G H : Hp} {al : List Addr} {a : Addr} {ds : List D} {S : Mu → Prop} (h : ∀ G2 H2 al2 μ2, Nx G H al G2 H2 al2 → As K G2 H2 al2 μ2 → S μ2 → ∃ vs, SqT K H2 a vs ∧ Rps K G2 al2 vs ds) : ItOk K (Itt K a) ds S G H al := fun G2 H2 al2 μ2 n A s => by
  obtain ⟨vs, sq, r⟩ := h G2 H2 al2 μ2 n A s
  refine ⟨fun i hi => ⟨vs, vs[i]'(by rw [r.length]; exact hi), sq, by simp⟩, fun i hi => ⟨vs, sq, by rw [r.length]; exact hi⟩, fun i x H3 y d hd => ?_⟩
  obtain ⟨rfl, y⟩ := y
  obtain ⟨d', hd', r'⟩ := r.getV (y vs sq)
  rw [hd] at hd'; cases hd'
  exact ⟨G2, .refl, A, r'⟩
theorem di_any (h : DE K B te ρ μ fun x μ1 => ∃ ds S, Wk μ1 x ds S ∧ PI' ds S μ1) : DI K B (iAny K te) ρ μ PI' := fun σ G H al hB hσ hA R hR =>
  h σ G H al hB hσ hA _ fun v d μ1 G1 H1 al1 n1 A1 r1 p1 => by
    obtain ⟨ds, S, wk, p⟩ := p1
    cases wk with
    | lst =>
      cases r1 with
      | lst e rs => exact .inl ⟨_, rfl, ⟨_, .inl (.inl (A1.sub _ _ e))⟩, hR _ ds _ μ1 G1 H1 al1 n1 A1 (itl_ok fun G2 H2 al2 μ2 n2 A2 _ => ⟨_, .inl (.inl (A2.sub _ _ (n2.g _ _ e))), rs.nx n2⟩) p⟩
    | rdl =>
      cases r1 with
      | rdl e rs => exact .inl ⟨_, rfl, ⟨_, sql_mono A1.sub e⟩, hR _ ds _ μ1 G1 H1 al1 n1 A1 (itl_ok fun G2 H2 al2 μ2 n2 A2 _ => ⟨_, sql_mono A2.sub (sql_mono n2.g e), rs.nx n2⟩) p⟩
    | own hk =>
      obtain ⟨a, ha, ga, vs, hv, rs⟩ := A1.get hk
      cases r1 with
      | own e =>
        rw [ha] at e; cases e
        refine .inl ⟨_, rfl, ⟨_, .inl (.inl hv)⟩, hR _ ds _ μ1 G1 H1 al1 n1 A1 (itl_ok fun G2 H2 al2 μ2 n2 A2 s => ?_) p⟩
        obtain ⟨a2, ha2, ga2, vs2, hv2, rs2⟩ := A2.get s
        rw [n2.p.get ha] at ha2; cases ha2
        exact ⟨vs2, .inl (.inl hv2), rs2⟩
    | tup =>
      cases r1 with
      | tup e rs => exact .inr (.inl ⟨_, rfl, ⟨_, .inl (.inl (A1.sub _ _ e))⟩, hR _ ds _ μ1 G1 H1 al1 n1 A1 (itt_ok fun G2 H2 al2 μ2 n2 A2 _ => ⟨_, .inl (.inl (A2.sub _ _ (n2.g _ _ e))), rs.nx n2⟩) p⟩)
    | rdt =>
      cases r1 with
      | rdt e rs => exact .inr (.inl ⟨_, rfl, ⟨_, sqt_mono A1.sub e⟩, hR _ ds _ μ1 G1 H1 al1 n1 A1 (itt_ok fun G2 H2 al2 μ2 n2 A2 _ => ⟨_, sqt_mono A2.sub (sqt_mono n2.g e), rs.nx n2⟩) p⟩)
    | str x =>
      cases r1
      refine .inr (.inr ⟨x, rfl, hR _ _ _ μ1 G1 H1 al1 n1 A1 (fun G2 H2 al2 μ2 n2 A2 _ => ?_) p⟩)
      have hl : (signsD x).length = x.cps.size := by simp [signsD]
      rw [hl]
      refine ⟨fun i hi => hi, fun i hi => hi, fun i y H3 hy d hd => ?_⟩
      obtain ⟨rfl, c, hc, rfl⟩ := hy
      have : d = .str ⟨#[c]⟩ := by
        simp only [signsD, List.getElem?_map, Array.getElem?_toList, hc] at hd
        exact (Option.some.inj hd).symm
      subst this
      exact ⟨G2, .refl, A2, .str _⟩
theorem di_enum' (h : DA K B ts ρ μ fun xs μ1 => ∃ x ds S, xs = [x] ∧ Ls μ1 x ds ∧ Wk μ1 x ds S ∧ PI' (enumD ds) S μ1) : DI K B (iEnum K ts) ρ μ PI' := di_enum (fun σ G H al hB hσ hA Q hQ => h σ G H al hB hσ hA Q fun vs ds' μ' G' H' al' n A r p => hQ vs ds' μ' G' H' al' n A r (by
  obtain ⟨x, ds, S, e, ls, wk, p⟩ := p
  refine ⟨x, ds, e, ?_⟩
  cases wk with
  | lst => exact .inl ⟨rfl, p⟩
  | rdl => exact .inr (.inl ⟨rfl, p⟩)
  | own hk => exact .inr (.inr ⟨_, rfl, hk, p⟩)
  | tup => cases ls
  | rdt => cases ls
  | str => cases ls))
/-! ### statements with what follows -/
theorem q_set {i : Nat} (h : DE K B te ρ μ fun d μ1 => DS K B u (ρ.set i (some d)) μ1 P) : DS K B (tSeq (tAsg te (gName i)) u) ρ μ P := ds_seq (ds_set h)
theorem q_asg {g : TG} (h : DE K B te ρ μ fun d μ1 => DG K B g d ρ μ1 fun ρ2 μ2 => DS K B u ρ2 μ2 P) : DS K B (tSeq (tAsg te g) u) ρ μ P := ds_seq (ds_asg h)
theorem q_drop (h : DE K B te ρ μ fun d μ1 => DS K B u ρ μ1 P) : DS K B (tSeq (tDrop te) u) ρ μ P := ds_seq (ds_drop h)
/-- an if without else -/
theorem q_when {c : TT} (h : DT K B c ρ μ fun b μ1 => (b = true → DS K B t ρ μ1 { P with nx := fun ρ1 μ1 => DS K B u ρ1 μ1 P }) ∧ (b = false → DS K B u ρ μ1 P)) : DS K B (tSeq (tIfS c t tNext) u) ρ μ P :=
  ds_seq (ds_if fun σ G H al hB hσ hA Q hQ => h σ G H al hB hσ hA Q fun b μ1 G1 H1 al1 n1 A1 p1 => hQ b μ1 G1 H1 al1 n1 A1 ⟨p1.1, fun e => ds_next (p1.2 e)⟩)
theorem s_when {c : TT} (h : DT K B c ρ μ fun b μ1 => (b = true → DS K B t ρ μ1 P) ∧ (b = false → P.nx ρ μ1)) : DS K B (tIfS c t tNext) ρ μ P :=
  ds_if fun σ G H al hB hσ hA Q hQ => h σ G H al hB hσ hA Q fun b μ1 G1 H1 al1 n1 A1 p1 => hQ b μ1 G1 H1 al1 n1 A1 ⟨p1.1, fun e => ds_next (p1.2 e)⟩
theorem q_if {c : TT} (h : DT K B c ρ μ fun b μ1 => (b = true → DS K B t ρ μ1 { P with nx := fun ρ1 μ1 => DS K B u ρ1 μ1 P }) ∧ (b = false → DS K B v ρ μ1 { P with nx := fun ρ1 μ1 => DS K B u ρ1 μ1 P })) : DS K B (tSeq (tIfS c t v) u) ρ μ P := ds_seq (ds_if h)
theorem q_for {wi : TI} {g : TG} {tb : TS} (h : DI K B wi ρ μ fun ds S μ1 => ∃ Iv : Nat → En → Mu → Prop, Iv 0 ρ μ1 ∧ (∀ i ρ' μ', i ≤ ds.length → Iv i ρ' μ' → S μ') ∧
      (∀ i d ρ' μ', ds[i]? = some d → Iv i ρ' μ' → DG K B g d ρ' μ' fun ρ2 μ2 => DS K B tb ρ2 μ2 { nx := Iv (i + 1), ct := Iv (i + 1), bk := fun ρ1 μ1 => DS K B u ρ1 μ1 P, rt := P.rt }) ∧ (∀ ρ' μ', Iv ds.length ρ' μ' → DS K B u ρ' μ' P)) : DS K B (tSeq (tFor wi g tb) u) ρ μ P := ds_seq (ds_for h)
theorem q_while {c : TT} {tb : TS} (Iv : Nat → En → Mu → Prop) {m0 : Nat} (h0 : Iv m0 ρ μ)
    (hs : ∀ m ρ' μ', Iv m ρ' μ' → DT K B c ρ' μ' fun b μ1 => (b = true → DS K B tb ρ' μ1 { nx := fun ρ2 μ2 => ∃ m', m' < m ∧ Iv m' ρ2 μ2, ct := fun ρ2 μ2 => ∃ m', m' < m ∧ Iv m' ρ2 μ2, bk := fun ρ1 μ1 => DS K B u ρ1 μ1 P, rt := P.rt }) ∧ (b = false → DS K B u ρ' μ1 P)) : DS K B (tSeq (tWhile c tb) u) ρ μ P := ds_seq (ds_while Iv h0 hs)
theorem q_fld {f : Str} {tb : TE} (h : DE K B tb ρ μ fun y μ1 => DE K B ta ρ μ1 fun x μ2 => ∃ k C gs, x = .own k ∧ μ2[k]? = some (.ins C gs) ∧ Cls K C ∧ NoAttr K C f ∧ gs.length < 1000 ∧ DS K B u ρ (μ2.set k (.ins C (putD f y gs))) P) : DS K B (tSeq (sFld K ta tb f) u) ρ μ P := ds_seq (ds_fld h)
theorem q_par {i j : Nat} (h : DA K B ts ρ μ fun ds μ1 => ∃ x y, ds = [x, y] ∧ DS K B u ((ρ.set i (some x)).set j (some y)) μ1 P) : DS K B (tSeq (tPar i j ts) u) ρ μ P := ds_seq (ds_par h)
end
/-- the n-th thing from the end of what may change -/
theorem mu_last {μ : Mu} {o : MO} : (μ ++ [o])[μ.length]? = some o := by simp
theorem mu_old {μ ext : Mu} {k : Nat} {o : MO} (h : μ[k]? = some o) : (μ ++ ext)[k]? = some o := by
  rw [List.getElem?_append_left (List.getElem?_eq_some_iff.mp h).1]
  exact h
theorem set_last {μ : Mu} {o o' : MO} : (μ ++ [o]).set μ.length o' = μ ++ [o'] := by simp
theorem set_old {μ ext : Mu} {k : Nat} {o o' : MO} (h : μ[k]? = some o) : (μ ++ ext).set k o' = μ.set k o' ++ ext := by
  rw [List.set_append_left _ _ (List.getElem?_eq_some_iff.mp h).1]
theorem set_get {μ : Mu} {k : Nat} {o o' : MO} (h : μ[k]? = some o) : (μ.set k o')[k]? = some o' := by
  rw [List.getElem?_set_self (List.getElem?_eq_some_iff.mp h).1]
theorem set_set' {μ : Mu} {k : Nat} {o o' : MO} : (μ.set k o).set k o' = μ.set k o' := by simp
/-- a fresh list handed on: frozen, or to be changed -/
def Fresh (xs : List D) (μ : Mu) (P : D → Mu → Prop) : Prop := P (.lst xs) μ ∨ P (.own μ.length) (μ ++ [.lst xs])
/-! ### defs by their contracts -/
section
variable {P : Program} {w : World} {K : PySem.W.Frag} {mg : Str → Option Value} {base : Heap}
theorem fn_DD {x qual : Str} {st : Stmt} {dvs : List V} {kws : List (Str × V)} {f : Addr} {fd : FuncData} {N ps : List Str} {k : Nat} {C : CT} {t : XK → TS} (F : FunD K x qual (defArgs st) (defBody st) (defScope st) dvs kws f fd) (S : FnScope N ps (defScope st)) (len : ∀ ds μ P PX, C ds μ P PX → ds.length = ps.length) (hN : ps.length ≤ N.length)
    (body : ∀ (cdv : Value) (A : Around) (outer : List Env) (s : Shared) (H : Hp) (E : XK), Room k (A.deeper (envOfC qual (defScope st) s.heap.objs.size f cdv)) → PSs (cxOf (L2.CX P w) P w K mg base N qual (defScope st) f cdv A outer s H E) (defBody st) (t E))
    (sem : ∀ ds μ P PX, C ds μ P PX → MuCl μ μ.length → clL ds μ.length = true → ∀ B E, XAg K B (RetX μ.length PX) E → DS K B (t E) (startD N ds) μ (fnE μ.length P)) : FnOk P w K mg base (L2.CX P w) (k + 1) f fd ps (spD K C) := by
  refine F.ok S (fun vs H Q E h => ?_) (fun cdv A outer s H vs Q E hr h => ⟨t E, body cdv A outer s H E hr, sem_of (fun ds μ P PX c => by rw [len ds μ P PX c]; exact hN) sem h⟩)
  obtain ⟨G, al, ds, μ, P, PX, A, r, c, _⟩ := h
  rw [r.length]
  exact len ds μ P PX c
end
end Dl
set_option Elab.async false
set_option linter.all false
set_option maxRecDepth 100000
namespace Dl
open PySem L2 PyProof.Rows
mutual
theorem D.cl_mono : ∀ (d : D) {n m : Nat}, n ≤ m → d.cl n = true → d.cl m = true
  | .tup xs, n, m, l, h => by unfold D.cl at h ⊢; exact clL_mono xs l h
  | .lst xs, n, m, l, h => by unfold D.cl at h ⊢; exact clL_mono xs l h
  | .rdl xs, n, m, l, h => by unfold D.cl at h ⊢; exact clL_mono xs l h
  | .rdt xs, n, m, l, h => by unfold D.cl at h ⊢; exact clL_mono xs l h
  | .obj _ gs, n, m, l, h => by unfold D.cl at h ⊢; exact clF_mono gs l h
  | .dct gs, n, m, l, h => by unfold D.cl at h ⊢; exact clK_mono gs l h
  | .own k, n, m, l, h => by unfold D.cl at h ⊢; simp at h ⊢; omega
  | .non, n, m, l, h => by simp [D.cl]
  | .bl _, n, m, l, h => by simp [D.cl]
  | .int _, n, m, l, h => by simp [D.cl]
  | .str _, n, m, l, h => by simp [D.cl]
  | .ty _, n, m, l, h => by simp [D.cl]
  | .loc _, n, m, l, h => by simp [D.cl]
  | .exc _ gs, n, m, l, h => by unfold D.cl at h ⊢; exact clF_mono gs l h
theorem clL_mono : ∀ (d : List D) {n m : Nat}, n ≤ m → clL d n = true → clL d m = true
  | [], _, _, _, _ => by simp [clL]
  | x :: xs, n, m, l, h => by
    unfold clL at h ⊢; simp at h ⊢
    exact ⟨D.cl_mono x l h.1, clL_mono xs l h.2⟩
theorem clF_mono : ∀ (d : List (Str × D)) {n m : Nat}, n ≤ m → clF d n = true → clF d m = true
  | [], _, _, _, _ => by simp [clF]
  | (_, x) :: xs, n, m, l, h => by
    unfold clF at h ⊢; simp at h ⊢
    exact ⟨D.cl_mono x l h.1, clF_mono xs l h.2⟩
theorem clK_mono : ∀ (d : List (Key × D)) {n m : Nat}, n ≤ m → clK d n = true → clK d m = true
  | [], _, _, _, _ => by simp [clK]
  | (_, x) :: xs, n, m, l, h => by
    unfold clK at h ⊢; simp at h ⊢
    exact ⟨D.cl_mono x l h.1, clK_mono xs l h.2⟩
end
theorem MO.cl_mono (o : MO) {n m : Nat} (l : n ≤ m) (h : o.cl n = true) : o.cl m = true := by
  cases o with
  | dead => rfl
  | lst xs => exact clL_mono xs l h
  | ins _ gs => exact clF_mono gs l h
  | dK gs => exact clK_mono gs l h
  | dT gs => exact clL_mono _ l h
  | tab _ _ => rfl
theorem MuCl.mono {μ : Mu} {n m : Nat} (h : MuCl μ n) (l : n ≤ m) : MuCl μ m := fun o ho => MO.cl_mono o l (h o ho)
theorem MuCl.app {μ : Mu} {o : MO} (h : MuCl μ μ.length) (ho : o.cl μ.length = true) : MuCl (μ ++ [o]) (μ ++ [o]).length := fun x hx => by
  rw [List.length_append]
  rcases List.mem_append.mp hx with m | m
  · exact MO.cl_mono x (by simp) (h x m)
  · simp at m; subst m; exact MO.cl_mono _ (by simp) ho
theorem br {b : Bool} {A C : Prop} (h1 : b = true → A) (h2 : b = false → C) : (b = true → A) ∧ (b = false → C) := ⟨h1, h2⟩
theorem br' {b : Bool} {A C : Prop} (h1 : b = false → A) (h2 : b = true → C) : (b = false → A) ∧ (b = true → C) := ⟨h1, h2⟩
theorem Wk.now {μ : Mu} {x : D} {ds : List D} {S : Mu → Prop} (h : Wk μ x ds S) : S μ := by
  cases h with
  | own h => exact h
  | _ => trivial
theorem Ls.wk {μ : Mu} {x : D} {ds : List D} (h : Ls μ x ds) : ∃ S, Wk μ x ds S := by
  cases h with
  | lst => exact ⟨_, .lst _⟩
  | rdl => exact ⟨_, .rdl _⟩
  | own h => exact ⟨_, .own h⟩
section
variable {K : PySem.W.Frag} {B : Bs} {ρ : En} {μ : Mu} {te : TE} {tt : TT} {wi : TI} {g : TG} {vs : List Nat} {P : D → Mu → Prop}
/-- [f d for d in ds], nothing changes -/
theorem lc_map (f : D → D) (hg : GW g vs) (h : DI K B wi ρ μ fun ds S μ1 => S μ1 ∧ ds.length ≤ 100000 ∧ (∀ (i : Nat) (d : D), ds[i]? = some d → DG K B g d (wipeD ρ vs) μ1 fun ρ2 μ2 => μ2 = μ1 ∧ DE K B te ρ2 μ1 fun y μ3 => y = f d ∧ μ3 = μ1) ∧ ∀ out, ds.map f = out → P (.lst out) μ1) : DE K B (tLc wi g tYes te vs) ρ μ P := by
  refine de_lc hg fun σ G H al hB hσ hA R hR => h σ G H al hB hσ hA R fun J ds S μ1 G1 H1 al1 n1 A1 ok p => hR J ds S μ1 G1 H1 al1 n1 A1 ok ?_
  obtain ⟨hS, hl, hs, hp⟩ := p
  refine ⟨hl, fun i acc μ' => acc = (ds.take i).map f ∧ μ' = μ1, ⟨by simp, rfl⟩, fun i acc μ' _ h => by rw [h.2]; exact hS, fun i d acc μ' hd h => ?_, fun acc μ' h => ?_⟩
  · obtain ⟨rfl, rfl⟩ := h
    refine fun σ G H al v hB hσ hA rv Q hQ => hs i d hd σ G H al v hB hσ hA rv Q fun σ2 ρ2 μ2 G2 H2 al2 n2 hσ2 A2 p2 => hQ σ2 ρ2 μ2 G2 H2 al2 n2 hσ2 A2 ?_
    obtain ⟨rfl, p2⟩ := p2
    refine dt_yes ⟨fun _ => p2.imp fun y μ3 ⟨e1, e2⟩ => ⟨?_, e2⟩, fun z => by cases z⟩
    rw [e1, List.take_add_one, hd]
    simp
  · obtain ⟨rfl, rfl⟩ := h
    rw [List.take_length]
    exact hp _ rfl
/-- [f d for d in ds if p d] -/
theorem lc_filt (p : D → Bool) (f : D → D) (hg : GW g vs) (h : DI K B wi ρ μ fun ds S μ1 => S μ1 ∧ ds.length ≤ 100000 ∧ (∀ (i : Nat) (d : D), ds[i]? = some d → DG K B g d (wipeD ρ vs) μ1 fun ρ2 μ2 => μ2 = μ1 ∧ DT K B tt ρ2 μ1 fun b μ3 => b = p d ∧ μ3 = μ1 ∧ (b = true → DE K B te ρ2 μ1 fun y μ4 => y = f d ∧ μ4 = μ1)) ∧ ∀ out, (ds.filter p).map f = out → P (.lst out) μ1) : DE K B (tLc wi g tt te vs) ρ μ P := by
  refine de_lc hg fun σ G H al hB hσ hA R hR => h σ G H al hB hσ hA R fun J ds S μ1 G1 H1 al1 n1 A1 ok p' => hR J ds S μ1 G1 H1 al1 n1 A1 ok ?_
  obtain ⟨hS, hl, hs, hp⟩ := p'
  refine ⟨hl, fun i acc μ' => acc = ((ds.take i).filter p).map f ∧ μ' = μ1, ⟨by simp, rfl⟩, fun i acc μ' _ h => by rw [h.2]; exact hS, fun i d acc μ' hd h => ?_, fun acc μ' h => ?_⟩
  · obtain ⟨rfl, rfl⟩ := h
    refine fun σ G H al v hB hσ hA rv Q hQ => hs i d hd σ G H al v hB hσ hA rv Q fun σ2 ρ2 μ2 G2 H2 al2 n2 hσ2 A2 p2 => hQ σ2 ρ2 μ2 G2 H2 al2 n2 hσ2 A2 ?_
    obtain ⟨rfl, p2⟩ := p2
    refine fun σ G H al hB hσ hA Q hQ => p2 σ G H al hB hσ hA Q fun b μ3 G3 H3 al3 n3 A3 p3 => hQ b μ3 G3 H3 al3 n3 A3 ?_
    obtain ⟨hb, rfl, p3⟩ := p3
    have e : (List.take (i + 1) ds) = List.take i ds ++ [d] := by rw [List.take_add_one, hd]; rfl
    refine ⟨fun hbt => (p3 hbt).imp fun y μ4 ⟨e1, e2⟩ => ⟨?_, e2⟩, fun hbf => ⟨?_, rfl⟩⟩
    · rw [e, List.filter_append, List.map_append, e1]
      rw [hb] at hbt
      simp [hbt]
    · rw [e, List.filter_append, List.map_append]
      rw [hb] at hbf
      simp [hbf]
  · obtain ⟨rfl, rfl⟩ := h
    rw [List.take_length]
    exact hp _ rfl
end
end Dl
set_option Elab.async false
set_option linter.all false
set_option maxRecDepth 100000
namespace Dl
open PySem L2 PyProof.Rows
/-- a law's end: the written part, the function object, the contract over every base -/
theorem walk_ofW {l : PySem.W.OpenLaw} {n k : Nat} {q : Program} {loose : List Str} {XP : (Str → Option Value) → Heap → Prop} {YP : World → Heap → Prop} {d : DefRec} {x : Str}
    (hn : l.most = some n) (hn2 : n ≤ sizeLine) (hdf : d.params.defaults = []) (hr : Room k callerA)
    (F : ∀ (w : World) (mg : Str → Option Value) (fa : Addr) (h : Heap), YP w h → h.Ns mainGlobals mg → mg d.name = some (.ref fa) →
      ∃ (K : PySem.W.Frag) (fd : FuncData) (sp : Sp), K.In h ∧ (∀ (s : Shared) (u : Value), BindsTo s fd ⟨[u], []⟩ [(x, u)]) ∧
        (∀ (H : Hp) (a : Addr) (ns : List Int), ns.length ≤ n → Only H → SqL K H a (ns.map V.int) → sp [.ref a] H (fun v _ => v = .bl true) fun _ _ _ => False) ∧
        ∀ base : Heap, K.In base → base.Ns mainGlobals mg → FnOk l.prog w K mg base (L2.CX l.prog w) k fa fd [x] sp) :
    PySem.W.WalkO q loose XP YP l.row.toRowW d [] (fun f vs => PySem.call f vs) := by
  refine Att.attach_call hn hdf fun w s0 s1 mg mb fa o pm cd doc a vs ns G Y ho hd hcd hmg hobj hints hlen hg => ?_
  obtain ⟨K, fd, sp, KX, hb, hsp, hF⟩ := F w mg fa _ Y G.T.g hmg
  refine law_call KX G.T.g G.T.b G.T.builtins G.T.nolimit hg hobj hints (Nat.le_trans hlen hn2) hr hF hb (fun H hO hS => hsp H a ns hlen hO hS) fun H e s' c => ?_
  obtain ⟨_, _, _, _, _, _, _, _, _, _, _, _, z⟩ := c
  exact z
theorem law_sp {K : PySem.W.Frag} {H : Hp} {a : Addr} {ns : List Int} {C : CT} (hS : SqL K H a (ns.map V.int)) (h : C [.rdl (ns.map D.int)] [] (fun d _ => d = .bl true) (fun _ _ _ => False)) : spD K C [.ref a] H (fun v _ => v = .bl true) (fun _ _ _ => False) := by
  refine ⟨H, [], [.rdl (ns.map D.int)], [], _, _, ⟨Same.refl _, by simp, rfl, by simp, fun k a o e _ => by simp at e⟩, .cons (.rdl hS (Rps.of_ints ns)) .nil, h, ?_, ?_⟩
  · intro v d μ' G' H' al' _ _ r p
    subst p
    cases r
    rfl
  · intro C fs dd μ' G' H' al' _ _ _ p
    exact p
end Dl
set_option Elab.async false
set_option linter.all false
set_option maxRecDepth 100000
namespace Dl
open PySem L2 PyProof.Rows
section
variable {K : PySem.W.Frag} {B : Bs} {ρ : En} {μ : Mu} {P : D → Mu → Prop} {te : TE} {x y : D} {ds : List D} {i j : Int}
/-- xs[::-1] -/
theorem de_revL (h : DE K B te ρ μ fun x μ1 => ∃ ds, Ls μ1 x ds ∧ P (.lst ds.reverse) μ1) : DE K B (tRevL K te) ρ μ P := fun σ G H al hB hσ hA Q hQ =>
  h σ G H al hB hσ hA _ fun v d μ1 G1 H1 al1 n1 A1 r1 p1 => by
    obtain ⟨ds, ls, p⟩ := p1
    obtain ⟨a, vs, rfl, sq, rs⟩ := ls.get A1 r1
    refine ⟨a, vs, rfl, sq, fun p' hp => ?_⟩
    obtain ⟨A2, n2⟩ := A1.frz (o := .lst vs.reverse) hp
    exact hQ _ _ μ1 _ _ _ (n1.trans n2) A2 (.lst upd_same (rs.reverse.nx n2)) p
theorem eqv_nil (ds : List D) : eqvD (.lst ds) (.lst []) = decide (ds = []) := by
  cases ds with
  | nil => simp [eqvD_lst, eqvL, pyL, PyData.eqvAll]
  | cons d ds => simp [eqvD_lst, eqvL, pyL, PyData.eqvAll]
theorem ro_neNil {n : Nat} (hx : Fz μ x (.lst ds)) (hs : shpL ds n = true) (h : P (.bl (!decide (ds = []))) μ) (hn : n ≤ 63 := by decide) : RO K (rNeD K) x (.lst []) μ P :=
  ro_neD (n := n + 1) (m := 1) hx (.id _) (by simpa [D.shp] using hs) rfl (by rw [eqv_nil]; exact h) (by omega)
theorem ro_eqNil {n : Nat} (hx : Fz μ x (.lst ds)) (hs : shpL ds n = true) (h : P (.bl (decide (ds = []))) μ) (hn : n ≤ 63 := by decide) : RO K (rEqD K) x (.lst []) μ P :=
  ro_eqD (n := n + 1) (m := 1) hx (.id _) (by simpa [D.shp] using hs) rfl (by rw [eqv_nil]; exact h) (by omega)
/-- .. of at most a hundred thousand -/
def Sz (n : Nat) : Prop := n ≤ 100000
theorem de_tupZ {ts : TA} (h : DA K B ts ρ μ fun xs μ1 => Sz xs.length ∧ P (.tup xs) μ1) : DE K B (tTup ts) ρ μ P := de_tup h
theorem de_lstZ {ts : TA} (h : DA K B ts ρ μ fun xs μ1 => Sz xs.length ∧ P (.lst xs) μ1) : DE K B (tLst ts) ρ μ P := de_lst h
theorem de_lstOZ {ts : TA} (h : DA K B ts ρ μ fun xs μ1 => Sz xs.length ∧ P (.own μ1.length) (μ1 ++ [.lst xs])) : DE K B (tLst ts) ρ μ P := de_lstO h
/-- two things -/
def Two (ds : List D) (F : D → D → Prop) : Prop := ∃ x y, ds = [x, y] ∧ F x y
theorem two_i {F : D → D → Prop} (h : F x y) : Two [x, y] F := ⟨x, y, rfl, h⟩
theorem ds_parZ {ts : TA} {i j : Nat} {P : DEnds} (h : DA K B ts ρ μ fun ds μ1 => Two ds fun x y => P.nx ((ρ.set i (some x)).set j (some y)) μ1) : DS K B (tPar i j ts) ρ μ P := ds_par h
theorem q_parZ {ts : TA} {i j : Nat} {u : TS} {P : DEnds} (h : DA K B ts ρ μ fun ds μ1 => Two ds fun x y => DS K B u ((ρ.set i (some x)).set j (some y)) μ1 P) : DS K B (tSeq (tPar i j ts) u) ρ μ P := q_par h
theorem rs_anyL {lo hi : Option Int} (hl : Ls μ x ds) (h : P (.lst (cutD ds lo hi)) μ) : RS K (rSlA K) x lo hi μ P := fun G H al v A r Q hQ => .inl (rs_lst hl h G H al v A r Q hQ)
end
end Dl
set_option Elab.async false
set_option linter.all false
set_option maxRecDepth 100000
namespace L2
open PySem PySem.Spec PyProof.Rows
end L2
namespace Dl
open PySem L2 PyProof.Rows
section
variable {K : PySem.W.Frag} {B : Bs} {ρ : En} {μ : Mu} {te to ti : TE} {t u : TS} {x y d : D} {ds : List D} {i j : Int}
/-! ### fields, methods -/
/-- a field's data -/
def FldP (K : PySem.W.Frag) (μ : Mu) (x : D) (f : Str) (P : D → Prop) : Prop := ∃ C gs d, (x = .obj C gs ∨ ∃ k, x = .own k ∧ μ[k]? = some (.ins C gs)) ∧ Cls K C ∧ NoAttr K C f ∧ gs.lookup f = some d ∧ P d
theorem de_fldZ {f : Str} {P : D → Mu → Prop} (h : DE K B te ρ μ fun x μ1 => FldP K μ1 x f fun d => P d μ1) : DE K B (tFld K te f) ρ μ P := de_fld h
theorem fp_obj {f : Str} {C : Addr} {gs : List (Str × D)} {P : D → Prop} (c : Cls K C) (n : NoAttr K C f) (l : gs.lookup f = some d) (h : P d) : FldP K μ (.obj C gs) f P := ⟨C, gs, d, .inl rfl, c, n, l, h⟩
theorem fp_own {f : Str} {k : Nat} {C : Addr} {gs : List (Str × D)} {P : D → Prop} (hk : μ[k]? = some (.ins C gs)) (c : Cls K C) (n : NoAttr K C f) (l : gs.lookup f = some d) (h : P d) : FldP K μ (.own k) f P := ⟨C, gs, d, .inr ⟨k, rfl, hk⟩, c, n, l, h⟩
def MethP (μ : Mu) (Cc : Addr) (m : Str) (x : D) (P : Prop) : Prop := ∃ gs, (x = .obj Cc gs ∨ ∃ k, x = .own k ∧ μ[k]? = some (.ins Cc gs)) ∧ gs.lookup m = none ∧ P
theorem de_methZ {Cc : Addr} {m : Str} {C : CT} {E : XK} {PX : PXT} {ts : TA} {P : D → Mu → Prop} (hE : XAg K B PX E) (h : DE K B te ρ μ fun x μ1 => MethP μ1 Cc m x (DA K B ts ρ μ1 fun ds μ2 => C (x :: ds) μ2 P PX)) : DE K B (tMeth Cc m (spD K C) [] E te ts) ρ μ P := de_meth hE h
theorem mp_obj {Cc : Addr} {m : Str} {gs : List (Str × D)} {P : Prop} (l : gs.lookup m = none) (h : P) : MethP μ Cc m (.obj Cc gs) P := ⟨gs, .inl rfl, l, h⟩
theorem mp_own {Cc : Addr} {m : Str} {k : Nat} {gs : List (Str × D)} {P : Prop} (hk : μ[k]? = some (.ins Cc gs)) (l : gs.lookup m = none) (h : P) : MethP μ Cc m (.own k) P := ⟨gs, .inr ⟨k, rfl, hk⟩, l, h⟩
/-- a store into a field -/
def PutP (K : PySem.W.Frag) (μ : Mu) (x y : D) (f : Str) (P : Mu → Prop) : Prop := ∃ k C gs, x = .own k ∧ μ[k]? = some (.ins C gs) ∧ Cls K C ∧ NoAttr K C f ∧ gs.length < 1000 ∧ P (μ.set k (.ins C (putD f y gs)))
theorem ds_fldZ {f : Str} {tb : TE} {P : DEnds} (h : DE K B tb ρ μ fun y μ1 => DE K B te ρ μ1 fun x μ2 => PutP K μ2 x y f fun μ3 => P.nx ρ μ3) : DS K B (sFld K te tb f) ρ μ P := ds_fld h
theorem q_fldZ {f : Str} {tb : TE} {P : DEnds} (h : DE K B tb ρ μ fun y μ1 => DE K B te ρ μ1 fun x μ2 => PutP K μ2 x y f fun μ3 => DS K B u ρ μ3 P) : DS K B (tSeq (sFld K te tb f) u) ρ μ P := q_fld h
theorem pp_own {f : Str} {k : Nat} {C : Addr} {gs : List (Str × D)} {P : Mu → Prop} (hk : μ[k]? = some (.ins C gs)) (c : Cls K C) (n : NoAttr K C f) (l : gs.length < 1000) (h : P (μ.set k (.ins C (putD f y gs)))) : PutP K μ (.own k) y f P := ⟨k, C, gs, rfl, hk, c, n, l, h⟩
/-! ### steps in thought alone: what is known of the store is put otherwise -/
def Gh (K : PySem.W.Frag) (μ μ2 : Mu) : Prop := ∀ G H al, As K G H al μ → ∃ G', As K G' H al μ2 ∧ Nx G H al G' H al
theorem Gh.refl : Gh K μ μ := fun G H al A => ⟨G, A, .refl⟩
theorem Gh.trans {μ1 μ2 : Mu} (h : Gh K μ μ1) (h' : Gh K μ1 μ2) : Gh K μ μ2 := fun G H al A => by
  obtain ⟨G1, A1, n1⟩ := h G H al A
  obtain ⟨G2, A2, n2⟩ := h' G1 H al A1
  exact ⟨G2, A2, n1.trans n2⟩
/-- .. behind a statement -/
theorem ds_ghostN {P : DEnds} (h : DS K B t ρ μ { P with nx := fun ρ1 μ1 => ∃ μ2, Gh K μ1 μ2 ∧ P.nx ρ1 μ2 }) : DS K B t ρ μ P := fun σ G H al hB hσ hA De hD =>
  h σ G H al hB hσ hA De ⟨fun σ' ρ' μ' G' H' al' n' hσ' A' p => by
    obtain ⟨μ2, g, p⟩ := p
    obtain ⟨G1, A1, n1⟩ := g G' H' al' A'
    exact hD.nx σ' ρ' μ2 G1 H' al' (n'.trans n1) (hσ'.nx n1) A1 p, hD.rt, hD.bk, hD.ct⟩
end
theorem rpf_own {K : PySem.W.Frag} {G : Hp} {al : List Addr} {a : Addr} {j : Nat} {d : D} {f : Str} (ha : al[j]? = some a) (r : Rp K G al (.ref a) d) : ∀ {gs : List (Str × D)} {fs : List (Str × V)}, Rpf K G al fs gs → gs.lookup f = some (.own j) → Rpf K G al fs (putD f d gs)
  | [], _, _, e => by simp at e
  | (g, x) :: gs, _, h, e => by
    cases h with
    | @cons _ v vs _ _ r0 t =>
      unfold putD
      rw [List.lookup_cons] at e
      split
      · rename_i hg
        subst hg
        simp at e
        subst e
        cases r0 with
        | own e2 => rw [ha] at e2; cases e2; exact .cons r t
      · rename_i hg
        have hg2 : (f == g) = false := by simp; exact fun e => hg e.symm
        rw [hg2] at e
        exact .cons r0 (rpf_own ha r t e)
/-- a list in a field is frozen -/
theorem gh_fld {K : PySem.W.Frag} {μ : Mu} {k j : Nat} {C : Addr} {gs : List (Str × D)} {f : Str} {ds : List D} (hk : μ[k]? = some (.ins C gs)) (hl : gs.lookup f = some (.own j)) (hj : μ[j]? = some (.lst ds)) : Gh K μ ((μ.set j .dead).set k (.ins C (putD f (.lst ds) gs))) := fun G H al A => by
  obtain ⟨a, ha, ga, vs, hv, rs⟩ := A.get hj
  obtain ⟨A1, n1⟩ := A.freeze ha hv ga
  have hjk : j ≠ k := fun e => by rw [e, hk] at hj; cases hj
  have hk1 : (μ.set j .dead)[k]? = some (.ins C gs) := by rw [List.getElem?_set_ne hjk]; exact hk
  obtain ⟨b, hb, gb, dx, fs, hfs, rf⟩ := A1.get hk1
  have r2 : Rp K (upd G a (.lst vs)) al (.ref a) (.lst ds) := .lst upd_same (rs.nx n1)
  have hup : upd H b (.ins C dx fs) = H := by
    funext z
    by_cases hz : z = b
    · subst hz; rw [upd_same, hfs]
    · rw [upd_ne hz]
  obtain ⟨A2, n2⟩ := A1.put (o := .ins C dx fs) (m' := .ins C (putD f (.lst ds) gs)) hb hk1 (by simp) ⟨gb, dx, fs, upd_same, rpf_own ha r2 rf hl⟩
  rw [hup] at A2 n2
  exact ⟨_, A2, n1.trans n2⟩
end Dl
set_option Elab.async false
set_option linter.all false
set_option maxRecDepth 100000
/-! sets of any number of texts: how many there are -/
namespace L2
open PySem PySem.Spec PyProof.Rows
end L2
set_option Elab.async false
set_option linter.all false
set_option maxRecDepth 100000
namespace L2
open PySem
def rJoin (K : PySem.W.Frag) : V → List V → Hp → VK → Prop := fun x xs H Q => ∃ a p, ∃ ys : List Str, x = .str a ∧ xs = [.ref p] ∧ (SqL K H p (ys.map V.str) ∨ SqT K H p (ys.map V.str)) ∧ (ys.map (·.length)).sum + ys.length * a.length ≤ 16777216 ∧ Q (.str (Txt.join a ys)) H
end L2
namespace Dl
open PySem L2 PyProof.Rows
section
variable {K : PySem.W.Frag} {B : Bs} {ρ : En} {μ : Mu} {P : D → Mu → Prop} {te : TE} {x y : D} {ds : List D} {i j : Int}
theorem ty_str {s : Str} : ∀ G H al v, As K G H al μ → Rp K G al v (.str s) → tyV K "str" v H := fun G H al v A r => by
  cases r
  rfl
theorem rm_join {a : Str} {ys : List Str} (hl : Ls μ x (ys.map D.str)) (hz : (ys.map (·.length)).sum + ys.length * a.length ≤ 100000) (h : P (.str (Txt.join a ys)) μ) : RM K (rJoin K) (.str a) [x] μ P := fun G H al v vs A r rs Q hQ => by
  obtain ⟨w, rfl, r1⟩ := rps1 rs
  obtain ⟨p, ws, rfl, sq, rs2⟩ := hl.get A r1
  cases r
  have e := rs2.strs
  subst e
  exact ⟨a, p, ys, rfl, rfl, .inl sq, by omega, hQ.now A (.str _) h⟩
theorem da_imp {ta : TA} {P' Q' : List D → Mu → Prop} (h : DA K B ta ρ μ P') (i : ∀ b μ', P' b μ' → Q' b μ') : DA K B ta ρ μ Q' := fun σ G H al hB hσ hA Q hQ => h σ G H al hB hσ hA Q fun vs b μ' G' H' al' n A r p => hQ vs b μ' G' H' al' n A r (i b μ' p)
/-- is None -/
def IsNP (x : D) (Q : Bool → Prop) : Prop := ∃ b, (b = true ↔ x = .non) ∧ Q b
theorem de_isNZ (h : DE K B te ρ μ fun x μ1 => IsNP x fun b => P (.bl b) μ1) : DE K B (tIsN te) ρ μ P := de_isN h
theorem de_notNZ (h : DE K B te ρ μ fun x μ1 => IsNP x fun b => P (.bl (!b)) μ1) : DE K B (tNotN te) ρ μ P := de_notN h
theorem np_t {Q : Bool → Prop} (h : Q true) : IsNP .non Q := ⟨true, by simp, h⟩
theorem np_f {Q : Bool → Prop} (hx : x ≠ .non) (h : Q false) : IsNP x Q := ⟨false, by simp [hx], h⟩
theorem np_int {Q : Bool → Prop} {i : Int} (h : Q false) : IsNP (.int i) Q := np_f (by simp) h
theorem np_bl {Q : Bool → Prop} {i : Bool} (h : Q false) : IsNP (.bl i) Q := np_f (by simp) h
theorem np_str {Q : Bool → Prop} {i : Str} (h : Q false) : IsNP (.str i) Q := np_f (by simp) h
theorem np_lst {Q : Bool → Prop} {i : List D} (h : Q false) : IsNP (.lst i) Q := np_f (by simp) h
theorem np_tup {Q : Bool → Prop} {i : List D} (h : Q false) : IsNP (.tup i) Q := np_f (by simp) h
theorem np_own {Q : Bool → Prop} {i : Nat} (h : Q false) : IsNP (.own i) Q := np_f (by simp) h
theorem np_obj {Q : Bool → Prop} {C : Addr} {gs : List (Str × D)} (h : Q false) : IsNP (.obj C gs) Q := np_f (by simp) h
/-- a sign in a text -/
theorem ro_inSg {c : Nat} {z : Str} (h : P (.bl (decide (c ∈ z.cps.toList))) μ) : RO K (rInA K) (.str ⟨#[c]⟩) (.str z) μ P := fun G H al v w A r1 r2 Q hQ => by
  cases r1; cases r2
  exact .inr (.inl ⟨c, z, rfl, rfl, hQ.now A (.bl _) h⟩)
end
/-! ### names -/
def letters : List Nat := (List.range 26).map (· + 97)
def nameOk (s : Str) : Prop := 1 ≤ s.length ∧ s.length ≤ 8 ∧ ∀ c ∈ s.cps.toList, c ∈ letters
instance (s : Str) : Decidable (nameOk s) := by unfold nameOk; infer_instance
theorem letters_str : ("abcdefghijklmnopqrstuvwxyz" : Str).cps.toList = letters := by decide +kernel
theorem nameOk.strOk {s : Str} (h : nameOk s) : PyData.strOk s = true := by
  unfold PyData.strOk
  rw [← Array.all_toList, List.all_eq_true]
  intro c hc
  have := h.2.2 c hc
  unfold letters at this
  obtain ⟨i, hi, rfl⟩ := List.mem_map.mp this
  have := List.mem_range.mp hi
  simp; omega
theorem join_signs (cs : List Nat) : Txt.join ("" : Str) (cs.map fun c => (⟨#[c]⟩ : Str)) = ⟨cs.toArray⟩ := by
  have h1 : TL.joinL [] (cs.map fun c => [c]) = cs := by
    induction cs with
    | nil => rfl
    | cons c cs ih =>
      cases cs with
      | nil => rfl
      | cons d ds =>
        simp only [List.map_cons, TL.joinL] at ih ⊢
        rw [ih]
        rfl
  have h2 := SX.join_S [] (cs.map fun c => [c])
  rw [h1, List.map_map] at h2
  exact h2
end Dl
set_option Elab.async false
set_option linter.all false
set_option maxRecDepth 100000
/-! range of numbers of any size -/
namespace Dl
open PySem L2 PyProof.Rows
section
variable {X : Cx} {tg : Expr}
def iRng2W (ta : TA) : TI := fun σ H R => ta σ H fun vs H1 => ∃ i j : Int, vs = [.int i, .int j] ∧ R (Itr i (j - i).toNat) H1
end
section
variable {K : PySem.W.Frag} {B : Bs} {ρ : En} {μ : Mu} {ts : TA} {PI' : List D → (Mu → Prop) → Mu → Prop}
theorem di_range2W (h : DA K B ts ρ μ fun xs μ1 => ∃ lo n : Int, xs = [.int lo, .int n] ∧ PI' (rangeD lo (n - lo).toNat) (fun _ => True) μ1) : DI K B (iRng2W ts) ρ μ PI' := fun σ G H al hB hσ hA R hR =>
  h σ G H al hB hσ hA _ fun vs ds μ1 G1 H1 al1 n1 A1 r1 p1 => by
    obtain ⟨lo, n, rfl, p⟩ := p1
    obtain ⟨v, w, rfl, q1, q2⟩ := rps2 r1
    cases q1; cases q2
    exact ⟨lo, n, rfl, hR _ _ _ μ1 G1 H1 al1 n1 A1 itr_ok p⟩
end
end Dl
set_option Elab.async false
set_option linter.all false
set_option maxRecDepth 100000
namespace Dl
open PySem L2 PyProof.Rows
section
variable {K : PySem.W.Frag} {B : Bs} {ρ : En} {μ : Mu} {ts : TA} {u : TS} {x y z : D}
def Three (ds : List D) (F : D → D → D → Prop) : Prop := ∃ x y z, ds = [x, y, z] ∧ F x y z
theorem three_i {F : D → D → D → Prop} (h : F x y z) : Three [x, y, z] F := ⟨x, y, z, rfl, h⟩
theorem ds_par3 {i j l : Nat} {P : DEnds} (h : DA K B ts ρ μ fun ds μ1 => Three ds fun x y z => P.nx (((ρ.set i (some x)).set j (some y)).set l (some z)) μ1) : DS K B (tPar3 i j l ts) ρ μ P := fun σ G H al hB hσ hA De hD =>
  h σ G H al hB hσ hA _ fun vs ds μ1 G1 H1 al1 n1 A1 r1 p1 => by
    obtain ⟨x, y, z, rfl, p⟩ := p1
    obtain ⟨v, ws, rfl, rx, r2⟩ := rps_cons r1
    obtain ⟨w, u, rfl, ry, rz⟩ := rps2 r2
    exact ⟨_, _, _, rfl, hD.nx _ _ μ1 G1 H1 al1 n1 ((((hσ.nx n1).set i rx).set j ry).set l rz) A1 p⟩
theorem q_par3 {i j l : Nat} {P : DEnds} (h : DA K B ts ρ μ fun ds μ1 => Three ds fun x y z => DS K B u (((ρ.set i (some x)).set j (some y)).set l (some z)) μ1 P) : DS K B (tSeq (tPar3 i j l ts) u) ρ μ P := ds_seq (ds_par3 h)
theorem ro_eqNI {i : Int} {P : D → Mu → Prop} (h : P (.bl false) μ) : RO K (rEqD K) .non (.int i) μ P := ro_eqD (n := 0) (m := 0) (.id _) (.id _) rfl rfl (by rw [show eqvD .non (.int i) = false by simp only [eqvD, D.py, PyData.eqv]]; exact h)
end
end Dl
set_option Elab.async false
set_option linter.all false
set_option maxRecDepth 100000
/-! dicts with keys ints and texts -/
namespace Dl
open PySem L2
def keyD : Key → D
  | .inl i => .int i
  | .inr s => .str s
def valD (kvs : List (Key × D)) (k : Key) : Option D := (kvs.find? fun kv => decide (kv.1 = k)).map (·.2)
def putKD (kvs : List (Key × D)) (k : Key) (v : D) : List (Key × D) :=
  if (kvs.any fun kv => decide (kv.1 = k)) = true then kvs.map (fun kv => if kv.1 = k then (kv.1, v) else kv) else kvs ++ [(k, v)]
def mergeKD (kvs more : List (Key × D)) : List (Key × D) := more.foldl (fun acc kv => putKD acc kv.1 kv.2) kvs
theorem rp_key {K : PySem.W.Frag} {G : Hp} {al : List Addr} {v : V} {k : Key} (h : Rp K G al v (keyD k)) : v = kV k := by
  cases k with
  | inl i => cases h; rfl
  | inr s => cases h; rfl
section
variable {K : PySem.W.Frag} {G H : Hp} {al : List Addr}
theorem Rpk.val : ∀ {gs : List (Key × D)} {kvs : List (Key × V)}, Rpk K G al kvs gs → ∀ k, (∀ d, valD gs k = some d → ∃ v, valV kvs k = some v ∧ Rp K G al v d) ∧ (valD gs k = none → valV kvs k = none)
  | [], _, h, k => by cases h; exact ⟨fun d e => (by cases e), fun _ => rfl⟩
  | (f, x) :: gs, _, h, k => by
    cases h with
    | @cons f v vs d ds r t =>
      have ih := t.val k
      by_cases e : f = k
      · refine ⟨fun d' e' => ?_, fun e' => ?_⟩
        · simp [valD, List.find?_cons, e] at e'
          subst e'
          exact ⟨v, valV_pos e, r⟩
        · simp [valD, List.find?_cons, e] at e'
      · have e1 : valD ((f, x) :: gs) k = valD gs k := by simp [valD, List.find?_cons, e]
        rw [e1, valV_neg (p := (f, v)) e]
        exact ih
theorem Rpk.any : ∀ {gs : List (Key × D)} {kvs : List (Key × V)}, Rpk K G al kvs gs → ∀ k, (kvs.any fun kv => decide (kv.1 = k)) = (gs.any fun kv => decide (kv.1 = k))
  | [], _, h, k => by cases h; rfl
  | (f, x) :: gs, _, h, k => by
    cases h with
    | cons r t => simp only [List.any_cons, t.any k]
theorem Rpk.append : ∀ {gs fs : List (Key × D)} {kvs ls : List (Key × V)}, Rpk K G al kvs gs → Rpk K G al ls fs → Rpk K G al (kvs ++ ls) (gs ++ fs)
  | [], _, _, _, h, h' => by cases h; exact h'
  | _ :: _, _, _, _, h, h' => by cases h with | cons r t => exact .cons r (t.append h')
theorem Rpk.repl {k : Key} {v : V} {d : D} (r : Rp K G al v d) : ∀ {gs : List (Key × D)} {kvs : List (Key × V)}, Rpk K G al kvs gs → Rpk K G al (kvs.map fun kv => if kv.1 = k then (kv.1, v) else kv) (gs.map fun kv => if kv.1 = k then (kv.1, d) else kv)
  | [], _, h => by cases h; exact .nil
  | (f, x) :: gs, _, h => by
    cases h with
    | cons r' t =>
      simp only [List.map_cons]
      by_cases e : f = k
      · rw [if_pos e, if_pos e]; exact .cons r (t.repl r)
      · rw [if_neg e, if_neg e]; exact .cons r' (t.repl r)
theorem Rpk.put {gs : List (Key × D)} {kvs : List (Key × V)} (h : Rpk K G al kvs gs) (k : Key) {v : V} {d : D} (r : Rp K G al v d) : Rpk K G al (putK kvs k v) (putKD gs k d) := by
  unfold putK putKD
  rw [h.any k]
  split
  · exact h.repl r
  · exact h.append (.cons r .nil)
theorem Rpk.length : ∀ {gs : List (Key × D)} {kvs : List (Key × V)}, Rpk K G al kvs gs → kvs.length = gs.length
  | [], _, h => by cases h; rfl
  | _ :: _, _, h => by cases h with | cons _ t => simp [t.length]
theorem Rpk.merge : ∀ {ms : List (Key × D)} {ns : List (Key × V)} {gs : List (Key × D)} {kvs : List (Key × V)}, Rpk K G al ns ms → Rpk K G al kvs gs → Rpk K G al (mergeK kvs ns) (mergeKD gs ms)
  | [], _, _, _, h, h' => by cases h; exact h'
  | (f, x) :: ms, _, gs, kvs, h, h' => by
    cases h with
    | @cons f v vs d ds r t =>
      show Rpk K G al (mergeK (putK kvs f v) vs) (mergeKD (putKD gs f x) ms)
      exact t.merge (h'.put f r)
end
/-- a dict as it stands -/
inductive Dt (μ : Mu) : D → List (Key × D) → Prop
  | dct (gs : List (Key × D)) : Dt μ (.dct gs) gs
  | own {k : Nat} {gs : List (Key × D)} (h : μ[k]? = some (.dK gs)) : Dt μ (.own k) gs
theorem Dt.get {K : PySem.W.Frag} {G H : Hp} {al : List Addr} {μ : Mu} {v : V} {d : D} {gs : List (Key × D)} (h : Dt μ d gs) (A : As K G H al μ) (r : Rp K G al v d) : ∃ a kvs, v = .ref a ∧ Rd H a (.dK kvs) ∧ Rpk K G al kvs gs := by
  cases h with
  | dct => cases r with | dct e rs => exact ⟨_, _, rfl, rd_mono A.sub e, rs⟩
  | own hk =>
    obtain ⟨a, ha, ga, vs, hv, rs⟩ := A.get hk
    cases r with
    | own e => rw [ha] at e; cases e; exact ⟨_, vs, rfl, .inl hv, rs⟩
section
variable {K : PySem.W.Frag} {B : Bs} {ρ : En} {μ : Mu} {td ty tv tx : TE} {P : D → Mu → Prop} {u : TS}
def DGetP (μ : Mu) (x y : D) (F : D → Prop) : Prop := ∃ gs k d, Dt μ x gs ∧ y = keyD k ∧ valD gs k = some d ∧ F d
def DInP (μ : Mu) (x y : D) (F : Bool → Prop) : Prop := ∃ gs k, Dt μ x gs ∧ y = keyD k ∧ F (valD gs k).isSome
theorem dgp_s {x d : D} {gs : List (Key × D)} {s : Str} {F : D → Prop} (h : Dt μ x gs) (e : valD gs (.inr s) = some d) (f : F d) : DGetP μ x (.str s) F := ⟨gs, .inr s, d, h, rfl, e, f⟩
theorem Rpk.isSome {G : Hp} {al : List Addr} {gs : List (Key × D)} {kvs : List (Key × V)} (h : Rpk K G al kvs gs) (k : Key) : (valV kvs k).isSome = (valD gs k).isSome := by
  cases q : valD gs k with
  | none => rw [(h.val k).2 q]; rfl
  | some d =>
    obtain ⟨v, e, _⟩ := (h.val k).1 d q
    rw [e]; rfl
theorem dget_k {H : Hp} {a : Addr} {kvs : List (Key × V)} {k : Key} (e : Rd H a (.dK kvs)) : DGet H a (kV k) (valV kvs k) := .inl ⟨kvs, k, e, rfl, rfl⟩
theorem de_dget (h : DE K B td ρ μ fun x μ1 => DE K B ty ρ μ1 fun y μ2 => DGetP μ2 x y fun d => P d μ2) : DE K B (tDGet td ty) ρ μ P := fun σ G H al hB hσ hA Q hQ =>
  h σ G H al hB hσ hA _ fun vx x μ1 G1 H1 al1 n1 A1 r1 p1 => p1 σ G1 H1 al1 (hB.trans n1) (hσ.nx n1) A1 _ fun vy y μ2 G2 H2 al2 n2 A2 r2 p2 => by
    obtain ⟨gs, k, d, dt, rfl, e, p⟩ := p2
    obtain ⟨a, kvs, rfl, ha, rk⟩ := dt.get A2 (r1.nx n2)
    obtain rfl := rp_key r2
    obtain ⟨v, ev, rv⟩ := (rk.val k).1 d e
    exact ⟨a, v, rfl, by rw [← ev]; exact dget_k ha, hQ v d μ2 G2 H2 al2 (n1.trans n2) A2 rv p⟩
theorem de_din (h : DE K B ty ρ μ fun y μ1 => DE K B td ρ μ1 fun x μ2 => DInP μ2 x y fun b => P (.bl b) μ2) : DE K B (tDIn ty td) ρ μ P := fun σ G H al hB hσ hA Q hQ =>
  h σ G H al hB hσ hA _ fun vy y μ1 G1 H1 al1 n1 A1 r1 p1 => p1 σ G1 H1 al1 (hB.trans n1) (hσ.nx n1) A1 _ fun vx x μ2 G2 H2 al2 n2 A2 r2 p2 => by
    obtain ⟨gs, k, dt, rfl, p⟩ := p2
    obtain ⟨a, kvs, rfl, ha, rk⟩ := dt.get A2 r2
    obtain rfl := rp_key r1
    refine ⟨a, _, rfl, dget_k ha, ?_⟩
    rw [rk.isSome k]
    exact hQ _ _ μ2 G2 H2 al2 (n1.trans n2) A2 (.bl _) p
theorem de_dnin (h : DE K B ty ρ μ fun y μ1 => DE K B td ρ μ1 fun x μ2 => DInP μ2 x y fun b => P (.bl (!b)) μ2) : DE K B (tDNotIn ty td) ρ μ P := fun σ G H al hB hσ hA Q hQ =>
  h σ G H al hB hσ hA _ fun vy y μ1 G1 H1 al1 n1 A1 r1 p1 => p1 σ G1 H1 al1 (hB.trans n1) (hσ.nx n1) A1 _ fun vx x μ2 G2 H2 al2 n2 A2 r2 p2 => by
    obtain ⟨gs, k, dt, rfl, p⟩ := p2
    obtain ⟨a, kvs, rfl, ha, rk⟩ := dt.get A2 r2
    obtain rfl := rp_key r1
    refine ⟨a, _, rfl, dget_k ha, ?_⟩
    rw [rk.isSome k]
    exact hQ _ _ μ2 G2 H2 al2 (n1.trans n2) A2 (.bl _) p
def DPutP (μ : Mu) (x y z : D) (F : Mu → Prop) : Prop := ∃ j gs k, x = .own j ∧ μ[j]? = some (.dK gs) ∧ y = keyD k ∧ gs.length < 100000 ∧ F (μ.set j (.dK (putKD gs k z)))
theorem dpp_s {j : Nat} {z : D} {gs : List (Key × D)} {s : Str} {F : Mu → Prop} (h : μ[j]? = some (.dK gs)) (hl : gs.length < 100000) (f : F (μ.set j (.dK (putKD gs (.inr s) z)))) : DPutP μ (.own j) (.str s) z F := ⟨j, gs, .inr s, rfl, h, rfl, hl, f⟩
theorem ds_dput {P : DEnds} (h : DE K B tv ρ μ fun z μ1 => DE K B td ρ μ1 fun x μ2 => DE K B ty ρ μ2 fun y μ3 => DPutP μ3 x y z fun μ4 => P.nx ρ μ4) : DS K B (sDPut td ty tv) ρ μ P := fun σ G H al hB hσ hA De hD =>
  h σ G H al hB hσ hA _ fun vz z μ1 G1 H1 al1 n1 A1 r1 p1 => p1 σ G1 H1 al1 (hB.trans n1) (hσ.nx n1) A1 _ fun vx x μ2 G2 H2 al2 n2 A2 r2 p2 =>
    p2 σ G2 H2 al2 ((hB.trans n1).trans n2) ((hσ.nx n1).nx n2) A2 _ fun vy y μ3 G3 H3 al3 n3 A3 r3 p3 => by
    obtain ⟨j, gs, k, rfl, hk, rfl, hl, p⟩ := p3
    obtain ⟨a, ha, ga, kvs, hv, rk⟩ := A3.get hk
    obtain rfl := rp_key r3
    have r2' := r2.nx n3
    cases r2' with
    | own e =>
      rw [ha] at e
      cases e
      obtain ⟨A4, n4⟩ := A3.put (o := .dK (putK kvs k vz)) (m' := .dK (putKD gs k z)) ha hk (by simp) ⟨ga, _, upd_same, rk.put k ((r1.nx n2).nx n3)⟩
      exact ⟨_, _, rfl, DPut.k hv (by rw [rk.length]; exact Nat.lt_of_lt_of_le hl (by decide)), hD.nx _ _ _ _ _ _ (((n1.trans n2).trans n3).trans n4) ((((hσ.nx n1).nx n2).nx n3).nx n4) A4 p⟩
theorem q_dput {P : DEnds} (h : DE K B tv ρ μ fun z μ1 => DE K B td ρ μ1 fun x μ2 => DE K B ty ρ μ2 fun y μ3 => DPutP μ3 x y z fun μ4 => DS K B u ρ μ4 P) : DS K B (tSeq (sDPut td ty tv) u) ρ μ P := ds_seq (ds_dput h)
/-! ### displays -/
def DPs (K : PySem.W.Frag) (B : Bs) : List (TE × TE) → En → Mu → (List (D × D) → Mu → Prop) → Prop
  | [], _, μ, P => P [] μ
  | (tk, tv) :: r, ρ, μ, P => DE K B tk ρ μ fun x μ1 => DE K B tv ρ μ1 fun y μ2 => DPs K B r ρ μ2 fun ps μ3 => P ((x, y) :: ps) μ3
inductive Rpp (K : PySem.W.Frag) (G : Hp) (al : List Addr) : List (V × V) → List (D × D) → Prop
  | nil : Rpp K G al [] []
  | cons {v w : V} {vs : List (V × V)} {d e : D} {ds : List (D × D)} : Rp K G al v d → Rp K G al w e → Rpp K G al vs ds → Rpp K G al ((v, w) :: vs) ((d, e) :: ds)
theorem dps_run : ∀ {trs : List (TE × TE)} {μ : Mu} {P : List (D × D) → Mu → Prop}, DPs K B trs ρ μ P → ∀ σ G H al, B.le G H al → RpS K G al σ ρ → As K G H al μ → ∀ Q : List (V × V) → Hp → Prop, (∀ ps qs μ' G' H' al', Nx G H al G' H' al' → As K G' H' al' μ' → Rpp K G' al' ps qs → P qs μ' → Q ps H') → tPairs trs σ H Q
  | [], μ, P, h, σ, G, H, al, hB, hσ, hA, Q, hQ => hQ [] [] μ G H al .refl hA .nil h
  | (tk, tv) :: r, μ, P, h, σ, G, H, al, hB, hσ, hA, Q, hQ =>
    h σ G H al hB hσ hA _ fun vx x μ1 G1 H1 al1 n1 A1 r1 p1 => p1 σ G1 H1 al1 (hB.trans n1) (hσ.nx n1) A1 _ fun vy y μ2 G2 H2 al2 n2 A2 r2 p2 =>
      dps_run p2 σ G2 H2 al2 ((hB.trans n1).trans n2) ((hσ.nx n1).nx n2) A2 _ fun ps qs μ3 G3 H3 al3 n3 A3 r3 p3 => hQ _ _ μ3 G3 H3 al3 ((n1.trans n2).trans n3) A3 (.cons ((r1.nx n2).nx n3) (r2.nx n3) r3) p3
theorem rpp_keys {G : Hp} {al : List Addr} : ∀ {gs : List (Key × D)} {ps : List (V × V)}, Rpp K G al ps (gs.map fun kv => (keyD kv.1, kv.2)) → ∃ kvs : List (Key × V), ps = kvs.map (fun kv => (kV kv.1, kv.2)) ∧ Rpk K G al kvs gs
  | [], _, h => by cases h; exact ⟨[], rfl, .nil⟩
  | (k, d) :: gs, _, h => by
    cases h with
    | cons r1 r2 t =>
      obtain ⟨kvs, rfl, rk⟩ := rpp_keys (gs := gs) t
      obtain rfl := rp_key r1
      exact ⟨_ :: _, rfl, .cons r2 rk⟩
theorem de_disp {trs : List (TE × TE)} (h : DPs K B trs ρ (μ ++ [.dK []]) fun ps μ1 => ∃ gs : List (Key × D), ps = gs.map (fun kv => (keyD kv.1, kv.2)) ∧ gs.length ≤ 15 ∧ μ1[μ.length]? = some (.dK []) ∧ P (.own μ.length) (μ1.set μ.length (.dK (mergeKD [] gs)))) : DE K B (tDisp trs) ρ μ P := fun σ G H al hB hσ hA Q hQ ad hp => by
  obtain ⟨A1, n1⟩ := hA.own (o := .dK []) (m := .dK []) hp ⟨hA.sub.free hp, [], upd_same, .nil⟩
  refine dps_run h σ _ _ _ (hB.trans n1) (hσ.nx n1) A1 _ fun ps qs μ2 G2 H2 al2 n2 A2 r2 p2 => ?_
  obtain ⟨gs, rfl, hl, hk, p⟩ := p2
  obtain ⟨kvs, rfl, rk⟩ := rpp_keys r2
  obtain ⟨a, ha, ga, kv0, hv, r0⟩ := A2.get hk
  have ea : a = _ := Option.some.inj (ha.symm.trans (n2.p.get (show (al ++ [ad])[μ.length]? = some ad by rw [← hA.len]; simp)))
  subst ea
  cases r0
  obtain ⟨A3, n3⟩ := A2.put (o := .dK (mergeK [] kvs)) (m' := .dK (mergeKD [] gs)) ha hk (by simp) ⟨ga, _, upd_same, rk.merge .nil⟩
  exact ⟨hv, kvs, rfl, by rw [rk.length]; exact hl, hQ _ _ _ _ _ _ ((n1.trans n2).trans n3) A3 (.own (n3.p.get ha)) p⟩
/-! ### freezing -/
end
end Dl
set_option Elab.async false
set_option linter.all false
set_option maxRecDepth 100000
/-! min(xs, default=d) -/
set_option Elab.async false
set_option linter.all false
set_option maxRecDepth 100000
set_option Elab.async false
set_option linter.all false
set_option maxRecDepth 100000
namespace Dl
open PySem L2
section
variable {K : PySem.W.Frag} {B : Bs} {ρ : En} {μ : Mu} {te : TE} {tt : TT} {wi : TI} {g : TG} {vs : List Nat} {P : D → Mu → Prop}
/-- .. or not frozen: it may still change -/
theorem de_lcF (hg : GW g vs) (h : DI K B wi ρ μ fun ds S μ1 => ds.length ≤ 100000 ∧ ∃ Iv : Nat → List D → Mu → Prop, Iv 0 [] μ1 ∧ (∀ i acc μ', i ≤ ds.length → Iv i acc μ' → S μ') ∧
      (∀ i d acc μ', ds[i]? = some d → Iv i acc μ' → DG K B g d (wipeD ρ vs) μ' fun ρ2 μ2 => DT K B tt ρ2 μ2 fun b μ3 => (b = true → DE K B te ρ2 μ3 fun y μ4 => Iv (i + 1) (acc ++ [y]) μ4) ∧ (b = false → Iv (i + 1) acc μ3)) ∧
      (∀ acc μ', Iv ds.length acc μ' → P (.lst acc) μ' ∨ P (.own μ'.length) (μ' ++ [.lst acc]))) : DE K B (tLc wi g tt te vs) ρ μ P := fun σ G H al hB hσ hA Q hQ =>
  h σ G H al hB hσ hA _ fun J ds S μ1 G1 H1 al1 n1 A1 ok p1 => by
    obtain ⟨hlen, Iv, h0, hS, hs, hd⟩ := p1
    intro Dl hDl
    have nDl : Dl ∉ al1 := fun m => A1.here Dl m hDl
    have gDl : G1 Dl = none := A1.sub.free hDl
    -- a store to the list that is made
    have store : ∀ {G' H' al' μ' ac}, Nx G1 H1 al1 G' H' al' → As K G' H' al' μ' → G' Dl = none → Dl ∉ al' → As K G' (upd H' Dl (.lst ac)) al' μ' ∧ Nx G1 H1 al1 G' (upd H' Dl (.lst ac)) al' := by
      intro G' H' al' μ' ac n A g' nal
      refine ⟨⟨fun b u e => by rw [upd_ne (ne_of_none e g')]; exact A.sub _ _ e, A.nd, A.len, fun a m => ?_, fun k a o e1 e2 => ?_⟩, ⟨n.g, n.p, fun a u h m => ?_, n.out, n.new⟩⟩
      · have z : a ≠ Dl := fun z => nal (z ▸ m)
        rw [upd_ne z]; exact A.here a m
      · have z : a ≠ Dl := fun z => nal (z ▸ List.mem_of_getElem? e1)
        exact OkO.mono (Same.refl _) (Pre.refl _) (fun _ g => g) (by rw [upd_ne z]) (A.ok k a o e1 e2)
      · rw [upd_ne (ne_of_none h hDl)]; exact n.keep a u h m
    -- Dl stays where it is through a step
    have stay : ∀ {G' H' al' G'' H'' al'' u}, Nx G' H' al' G'' H'' al'' → H' Dl = some (.lst u) → G' Dl = none → Dl ∉ al' → H'' Dl = some (.lst u) ∧ G'' Dl = none ∧ Dl ∉ al'' := by
      intro G' H' al' G'' H'' al'' u n h g' nal
      refine ⟨n.keep Dl (.lst u) h nal, n.out Dl (by rw [h]; simp) (fun vs e => by rw [h] at e; cases e) nal g', fun m => ?_⟩
      rcases n.new Dl m with z | z
      · exact nal z
      · rw [h] at z; cases z
    obtain ⟨A0, N0⟩ := store (ac := []) .refl A1 gDl nDl
    refine ⟨fun i m H' => m = ds.length - i ∧ i ≤ ds.length ∧ ∃ G' al' μ' acc vacc, Nx G1 H1 al1 G' H' al' ∧ As K G' H' al' μ' ∧ H' Dl = some (.lst vacc) ∧ Rps K G' al' vacc acc ∧ G' Dl = none ∧ Dl ∉ al' ∧ acc.length ≤ i ∧ Iv i acc μ',
      ⟨ds.length, by simp, Nat.zero_le _, G1, al1, μ1, [], [], N0, A0, upd_same, .nil, gDl, nDl, Nat.le_refl _, h0⟩, ?_⟩
    rintro i m H' ⟨rfl, hi, G', al', μ', acc, vacc, n', A', hv, rv, g', nal, hacc, iv⟩
    obtain ⟨go, stop, yld⟩ := ok G' H' al' μ' n' A' (hS i acc μ' hi iv)
    by_cases hlt : i < ds.length
    · refine .inr ⟨go i hlt, fun H2 => ∃ G2 al2 μ2 acc vacc, Nx G1 H1 al1 G2 H2 al2 ∧ As K G2 H2 al2 μ2 ∧ H2 Dl = some (.lst vacc) ∧ Rps K G2 al2 vacc acc ∧ G2 Dl = none ∧ Dl ∉ al2 ∧ acc.length ≤ i + 1 ∧ Iv (i + 1) acc μ2, fun H2 q => ⟨ds.length - (i + 1), by omega, rfl, hlt, q⟩, fun x H3 y => ?_⟩
      obtain ⟨G3, n3, A3, r3⟩ := yld i x H3 y _ (List.getElem?_eq_getElem hlt)
      obtain ⟨hv3, g3, nal3⟩ := stay n3 hv g' nal
      have nn3 := n'.trans n3
      have hw : RpS K G3 al' (wipe σ vs) (wipeD ρ vs) := wipe_rps ((hσ.nx n1).nx nn3) vs
      have q := hs i _ acc μ' (List.getElem?_eq_getElem hlt) iv (wipe σ vs) G3 H3 al' x (((hB.trans n1).trans n').trans n3) hw A3 r3
      have q2 := hg x (wipe σ vs) H3 _ (q (fun σ2 H2 => tt σ2 H2 fun b H3 => if b = true then te σ2 H3 fun y H4 => ∃ acc, H4 Dl = some (.lst acc) ∧ acc.length < sizeLine ∧ (∃ G2 al2 μ2 acc' vacc, Nx G1 H1 al1 G2 (upd H4 Dl (.lst (acc ++ [y]))) al2 ∧ As K G2 (upd H4 Dl (.lst (acc ++ [y]))) al2 μ2 ∧ (upd H4 Dl (.lst (acc ++ [y]))) Dl = some (.lst vacc) ∧ Rps K G2 al2 vacc acc' ∧ G2 Dl = none ∧ Dl ∉ al2 ∧ acc'.length ≤ i + 1 ∧ Iv (i + 1) acc' μ2)
          else (∃ G2 al2 μ2 acc' vacc, Nx G1 H1 al1 G2 H3 al2 ∧ As K G2 H3 al2 μ2 ∧ H3 Dl = some (.lst vacc) ∧ Rps K G2 al2 vacc acc' ∧ G2 Dl = none ∧ Dl ∉ al2 ∧ acc'.length ≤ i + 1 ∧ Iv (i + 1) acc' μ2)) fun σ4 ρ4 μ4 G4 H4 al4 n4 hσ4 A4 p4 => ?_)
      · rw [wipe_wipe σ vs vs fun _ h => h] at q2
        exact q2
      · obtain ⟨hv4, g4, nal4⟩ := stay n4 hv3 g3 nal3
        have nn4 := nn3.trans n4
        refine p4 σ4 G4 H4 al4 ((hB.trans n1).trans nn4) hσ4 A4 _ fun b μ5 G5 H5 al5 n5 A5 p5 => ?_
        obtain ⟨hv5, g5, nal5⟩ := stay n5 hv4 g4 nal4
        have nn5 := nn4.trans n5
        cases b with
        | false =>
          rw [if_neg (by simp)]
          exact ⟨G5, al5, μ5, acc, vacc, nn5, A5, hv5, (((rv.nx n3).nx n4).nx n5), g5, nal5, Nat.le_succ_of_le hacc, p5.2 rfl⟩
        | true =>
          rw [if_pos rfl]
          refine p5.1 rfl σ4 G5 H5 al5 ((hB.trans n1).trans nn5) (hσ4.nx n5) A5 _ fun yv y μ6 G6 H6 al6 n6 A6 r6 p6 => ?_
          obtain ⟨hv6, g6, nal6⟩ := stay n6 hv5 g5 nal5
          have rv6 := (((rv.nx n3).nx n4).nx n5).nx n6
          obtain ⟨A7, n7⟩ := store (ac := vacc ++ [yv]) (nn5.trans n6) A6 g6 nal6
          refine ⟨vacc, hv6, ?_, G6, al6, μ6, acc ++ [y], vacc ++ [yv], n7, A7, upd_same, rv6.append (.cons r6 .nil), g6, nal6, by simp; omega, p6⟩
          rw [rv6.length]
          exact Nat.lt_of_lt_of_le (Nat.lt_of_le_of_lt hacc (Nat.lt_of_lt_of_le hlt hlen)) (by decide)
    · have e : i = ds.length := by omega
      subst e
      refine .inl ⟨stop _ (Nat.le_refl _), ?_⟩
      rcases hd acc μ' iv with pf | po
      rotate_left
      · have A7 : As K G' H' (al' ++ [Dl]) (μ' ++ [.lst acc]) := by
          refine ⟨A'.sub, ?_, by simp [A'.len], fun a m => ?_, fun k a o e1 e2 => ?_⟩
          · rw [List.nodup_append]
            exact ⟨A'.nd, by simp, fun a ha b hb => by
              obtain rfl := List.mem_singleton.mp hb
              exact fun e => nal (e ▸ ha)⟩
          · rcases List.mem_append.mp m with c | c
            · exact A'.here a c
            · obtain rfl := List.mem_singleton.mp c
              rw [hv]; simp
          · rcases Nat.lt_or_ge k al'.length with c | c
            · rw [List.getElem?_append_left c] at e1
              rw [List.getElem?_append_left (by rw [← A'.len]; exact c)] at e2
              exact OkO.mono (Same.refl _) ⟨[Dl], rfl⟩ (fun _ g => g) rfl (A'.ok k a o e1 e2)
            · rw [List.getElem?_append_right c] at e1
              rw [List.getElem?_append_right (by rw [← A'.len]; exact c)] at e2
              have hk : k - al'.length = 0 := by
                have := (List.getElem?_eq_some_iff.mp e1).1
                simp at this; omega
              rw [hk] at e1
              rw [← A'.len, hk] at e2
              simp at e1 e2
              subst e1; subst e2
              exact ⟨g', vacc, hv, rv.mono (Same.refl _) ⟨[Dl], rfl⟩⟩
        have n7 : Nx G1 H1 al1 G' H' (al' ++ [Dl]) := ⟨n'.g, n'.p.trans ⟨[Dl], rfl⟩, n'.keep, n'.out, fun a m => by
          rcases List.mem_append.mp m with c | c
          · exact n'.new a c
          · obtain rfl := List.mem_singleton.mp c
            exact .inr hDl⟩
        exact hQ _ _ _ _ _ _ (n1.trans n7) A7 (.own (by rw [← A'.len]; simp)) po
      have s1 : Same G' (upd G' Dl (.lst vacc)) := fun b u e => by rw [upd_ne (ne_of_none e g')]; exact e
      have A7 : As K (upd G' Dl (.lst vacc)) H' al' μ' := by
        refine ⟨fun b u e => ?_, A'.nd, A'.len, A'.here, fun k a o e1 e2 => ?_⟩
        · by_cases hb : b = Dl
          · subst hb; rw [upd_same] at e; rw [← e]; exact hv
          · rw [upd_ne hb] at e; exact A'.sub _ _ e
        · have z : a ≠ Dl := fun z => nal (z ▸ List.mem_of_getElem? e1)
          exact OkO.mono s1 (Pre.refl _) (fun _ g => by rw [upd_ne z]; exact g) rfl (A'.ok k a o e1 e2)
      have n7 : Nx G1 H1 al1 (upd G' Dl (.lst vacc)) H' al' := ⟨n'.g.trans s1, n'.p, n'.keep, fun a h t m g => by
        have z : a ≠ Dl := fun z => h (by rw [z]; exact hDl)
        rw [upd_ne z]; exact n'.out a h t m g, n'.new⟩
      exact hQ _ _ _ _ _ _ (n1.trans n7) A7 (.lst upd_same (rv.mono s1 (Pre.refl _))) pf
/-- [f d for d in ds if p d]; frozen or not -/
theorem lc_filtF (p : D → Bool) (f : D → D) (hg : GW g vs) (h : DI K B wi ρ μ fun ds S μ1 => S μ1 ∧ ds.length ≤ 100000 ∧ (∀ (i : Nat) (d : D), ds[i]? = some d → DG K B g d (wipeD ρ vs) μ1 fun ρ2 μ2 => μ2 = μ1 ∧ DT K B tt ρ2 μ1 fun b μ3 => b = p d ∧ μ3 = μ1 ∧ (b = true → DE K B te ρ2 μ1 fun y μ4 => y = f d ∧ μ4 = μ1)) ∧ ∀ out, (ds.filter p).map f = out → Fresh out μ1 P) : DE K B (tLc wi g tt te vs) ρ μ P := by
  refine de_lcF hg fun σ G H al hB hσ hA R hR => h σ G H al hB hσ hA R fun J ds S μ1 G1 H1 al1 n1 A1 ok p' => hR J ds S μ1 G1 H1 al1 n1 A1 ok ?_
  obtain ⟨hS, hl, hs, hp⟩ := p'
  refine ⟨hl, fun i acc μ' => acc = ((ds.take i).filter p).map f ∧ μ' = μ1, ⟨by simp, rfl⟩, fun i acc μ' _ h => by rw [h.2]; exact hS, fun i d acc μ' hd h => ?_, fun acc μ' h => ?_⟩
  · obtain ⟨rfl, rfl⟩ := h
    refine fun σ G H al v hB hσ hA rv Q hQ => hs i d hd σ G H al v hB hσ hA rv Q fun σ2 ρ2 μ2 G2 H2 al2 n2 hσ2 A2 p2 => hQ σ2 ρ2 μ2 G2 H2 al2 n2 hσ2 A2 ?_
    obtain ⟨rfl, p2⟩ := p2
    refine fun σ G H al hB hσ hA Q hQ => p2 σ G H al hB hσ hA Q fun b μ3 G3 H3 al3 n3 A3 p3 => hQ b μ3 G3 H3 al3 n3 A3 ?_
    obtain ⟨hb, rfl, p3⟩ := p3
    have e : (List.take (i + 1) ds) = List.take i ds ++ [d] := by rw [List.take_add_one, hd]; rfl
    refine ⟨fun hbt => (p3 hbt).imp fun y μ4 ⟨e1, e2⟩ => ⟨?_, e2⟩, fun hbf => ⟨?_, rfl⟩⟩
    · rw [e, List.filter_append, List.map_append, e1]
      rw [hb] at hbt
      simp [hbt]
    · rw [e, List.filter_append, List.map_append]
      rw [hb] at hbf
      simp [hbf]
  · obtain ⟨rfl, rfl⟩ := h
    rw [List.take_length]
    exact hp _ rfl
end
def rAbs : List V → Hp → VK → Prop := fun xs H Q => ∃ i, xs = [.int i] ∧ Q (.int (if i < 0 then -i else i)) H
section
variable {K : PySem.W.Frag} {μ : Mu} {P : D → Mu → Prop} {i : Int} {d : D} {ds : List D}
theorem rc_abs (h : P (.int (i.natAbs : Int)) μ) : RC K rAbs [.int i] μ P := fun G H al vs A r Q hQ => by
  obtain ⟨v, rfl, r1⟩ := rps1 r
  cases r1
  refine ⟨i, rfl, ?_⟩
  rw [show (if i < 0 then -i else i) = (i.natAbs : Int) by split <;> omega]
  exact hQ.now A (.int _) h
/-- xs.pop(0) -/
theorem rm_pop0 {k : Nat} (hk : μ[k]? = some (.lst (d :: ds))) (h : P d (μ.set k (.lst ds))) : RM K rPopAt (.own k) [.int 0] μ P := fun G H al v vs A r rs Q hQ => by
  obtain ⟨a, ha, ga, ws, hv, rw'⟩ := A.get hk
  obtain ⟨z, rfl, rz⟩ := rps1 rs
  cases rz
  obtain ⟨u, us, rfl, ru, rus⟩ := rps_cons rw'
  cases r with
  | own e =>
    rw [ha] at e; cases e
    obtain ⟨A2, n2⟩ := A.put (o := .lst us) (m' := .lst ds) ha hk (by simp) ⟨ga, _, upd_same, rus⟩
    refine ⟨a, u :: us, 0, 0, u, rfl, rfl, hv, by decide, by decide, ?_, rfl, ?_⟩
    · unfold seqIndex?
      simp
    · exact hQ _ _ _ _ _ _ n2 A2 (ru.nx n2) h
end
theorem shpInts (ns : List Int) : shpL (ns.map D.int) 1 = true := shpL_map fun x _ => by simp [D.shp]
theorem intsG {ls : List Int} {i : Nat} {d : D} (h : (ls.map D.int)[i]? = some d) : ∃ n, ls[i]? = some n ∧ d = .int n := by
  rw [List.getElem?_map] at h
  cases q : ls[i]? with
  | none => rw [q] at h; cases h
  | some n => rw [q] at h; exact ⟨n, rfl, (Option.some.inj h).symm⟩
end Dl
set_option Elab.async false
set_option linter.all false
set_option maxRecDepth 100000
/-! a def called through its class, C.m(..); a head with more facts -/
namespace Dl
open PySem L2 PyProof.Rows
structure ClsFn (K : PySem.W.Frag) (C : Addr) (m : Str) (f : Addr) : Prop where
  rd : PySem.W.readsIn K C (.type "type") = true
  ga : PySem.W.specialIn K (.ref C) "__getattribute__" = some (some (.builtin "type.__getattribute__"))
  at_ : PySem.W.findCls K (.ref C) (.type "type") m = some (.val (.ref f))
  kp : PySem.W.keepIn K (.ref f) = true
def clsFnB (x m : Str) (K : PySem.W.Frag) : Bool := PySem.W.readsIn K (He.ga K x) (.type "type") && (He.eqO (PySem.W.specialIn K (.ref (He.ga K x)) "__getattribute__") (some (some (.builtin "type.__getattribute__"))) &&
  ((match PySem.W.findCls K (.ref (He.ga K x)) (.type "type") m with
    | some (.val (.ref f)) => decide (f = He.ma K (He.ga K x) m)
    | _ => false) && PySem.W.keepIn K (.ref (He.ma K (He.ga K x) m))))
theorem clsFnB_ok {K : PySem.W.Frag} {x m : Str} (h : clsFnB x m K = true) : ClsFn K (He.ga K x) m (He.ma K (He.ga K x) m) := by
  unfold clsFnB at h
  obtain ⟨h1, h2⟩ := He.ba h
  obtain ⟨h3, h4⟩ := He.ba h2
  obtain ⟨h5, h6⟩ := He.ba h4
  refine ⟨h1, He.eqO_ok h3, ?_, h6⟩
  split at h5
  · rename_i f e
    rw [e, of_decide_eq_true h5]
  · cases h5
section
variable {X : Cx} {CX : CXT} {k : Nat} {C f : Addr} {fd : FuncData} {ps : List Str} {ds : List Value} {dvs : List V} {sp : Sp} {E : XK} {o e : Expr} {es : List Expr} {m : Str} {pos apos : Pos} {t : TA} {pl : Sem Bool}
theorem pe_clsCall (he : PE X o (tC (.ref C))) (c : ClsFn X.K C m f) (F : FnOk X.prog X.w X.K X.mg X.base CX k f fd ps sp) (hr : Room k X.A) (hb : Binds X.K fd ps ds) (hd : Vals dvs ds) (hx : Passes CX X E) (ha : PA X (e :: es) t)
    (hst : starEach (e :: es) X.env = (false, eval e X.env) :: starEach es X.env := by rfl) (hpl : (backTo pos (starEach es X.env)).any (·.1) = false := by rfl)
    (ht : eval (.Call (.Attribute o m apos) (e :: es) [] pos) X.env = (do
      let ov ← eval o X.env
      standAt apos.atName
      let (f, first) ← holding [ov] (getMethod ov m pl)
      callWith pos f first (backTo pos (starEach (e :: es) X.env)) (backToKw pos (keywordEach [] X.env))) := by rfl) :
    PE X (.Call (.Attribute o m apos) (e :: es) [] pos) (tCall sp dvs E t) := by
  refine ⟨fun pins s σ H Q I h => ?_⟩
  refine PySem.W.methodCall_KW (pl := pl) (thn (he.run pins s σ H (fun x H1 => x = .ref C ∧ t σ H1 fun vs H2 => sp (vs ++ dvs) H2 Q E) I ⟨rfl, h⟩) fun u s1 ⟨x, H1, I1, rx, ex, q⟩ => ?_) ht
  subst ex
  obtain rfl : u = Value.ref C := rx
  refine PySem.W.method_cls I1.kIn c.ga (PySem.W.cls_value I1.kIn c.rd c.at_ rfl ?_)
  have I2 : Inv X pins σ H1 { s1 with toks := s1.toks + 1 } := I1.tok _
  refine PySem.W.callWith_K (h₀ := X.base) I.ok.mod.kin c.kp (thn (ha.run pos pins _ σ H1 _ I2 q) fun us s3 ⟨vs, H2, I3, r, q3⟩ => ⟨I3.kIn, ?_⟩) hst hpl
  exact run_fn F hr hb hd hx I3 r q3
end
/-! ### the head, with more facts -/
abbrev AlX : Type := He.AlD × Bool
def exAll (ex : List (PySem.W.Frag → Bool)) (K : PySem.W.Frag) : Bool := ex.all fun e => e K
theorem exAll_at {ex : List (PySem.W.Frag → Bool)} {K : PySem.W.Frag} (h : exAll ex K = true) (i : Nat) {e : PySem.W.Frag → Bool} (he : ex[i]? = some e := by rfl) : e K = true := List.all_eq_true.mp h e (List.mem_of_getElem? he)
end Dl
set_option Elab.async false
set_option linter.all false
set_option maxRecDepth 100000
/-! list(range(a, b)) of numbers of any size -/
set_option Elab.async false
set_option linter.all false
set_option maxRecDepth 100000
/-! int of a truth value; isinstance of own classes: what of the head it wants -/
namespace Dl
open PySem L2 PyProof.Rows
def rInt1 : List V → Hp → VK → Prop := fun xs H Q => (∃ i, xs = [.int i] ∧ Q (.int i) H) ∨ ∃ k, xs = [.bl k] ∧ Q (.int (if k then 1 else 0)) H
section
variable {K : PySem.W.Frag} {μ : Mu} {P : D → Mu → Prop}
theorem rc_intB {b : Bool} (h : P (.int (if b then 1 else 0)) μ) : RC K rInt1 [.bl b] μ P := fun G H al vs A r Q hQ => by
  obtain ⟨v, rfl, r1⟩ := rps1 r
  cases r1
  exact .inr ⟨b, rfl, hQ.now A (.int _) h⟩
end
def obtB (x : Str) (K : PySem.W.Frag) : Bool := He.eqO (PySem.W.findIn K (.ref (He.ga K x)) "__class__") (some (some (.builtin "object.__class__"))) && (He.eqO (PySem.W.specialIn K (.builtin "object.__class__") "__get__") (some (some (.builtin "getset_descriptor.__get__"))) &&
  (decide (PySem.W.takesIn K (.builtin "object.__class__") = some true) && decide (PySem.W.mroIn K (He.ga K x) (.type "object") = some true)))
theorem obtB_ok {K : PySem.W.Frag} {x : Str} (c : Cls K (He.ga K x)) (h : obtB x K = true) : ObT K (He.ga K x) := by
  unfold obtB at h
  obtain ⟨h1, h2⟩ := He.ba h
  obtain ⟨h3, h4⟩ := He.ba h2
  obtain ⟨h5, h6⟩ := He.ba h4
  exact ⟨c, He.eqO_ok h1, He.eqO_ok h3, of_decide_eq_true h5, of_decide_eq_true h6⟩
def isB (x y : Str) (b : Bool) (K : PySem.W.Frag) : Bool := decide (PySem.W.kitOne K (.ref (He.ga K x)) (.ref (He.ga K y)) = some b)
theorem isB_ok {K : PySem.W.Frag} {x y : Str} {b : Bool} (h : isB x y b K = true) : PySem.W.kitOne K (.ref (He.ga K x)) (.ref (He.ga K y)) = some b := of_decide_eq_true h
end Dl
set_option Elab.async false
set_option linter.all false
set_option maxRecDepth 100000
/-! sorted(set(xs)) of a list of ints -/
set_option Elab.async false
set_option linter.all false
set_option maxRecDepth 100000
/-! list.count of texts; slices stored; dict(pairs), d.get(k, x) -/
set_option Elab.async false
set_option linter.all false
namespace Dl
open PySem L2 PyProof.Rows
/-- a part of a tuple -/
theorem rs_anyT {K : PySem.W.Frag} {μ : Mu} {x : D} {ds : List D} {P : D → Mu → Prop} {lo hi : Option Int} (hl : Ts x ds) (hne : ¬ (HT.sIx ds.length 0 lo = 0 ∧ HT.sIx ds.length ds.length hi = ds.length)) (h : P (.tup (cutD ds lo hi)) μ) : RS K (rSlA K) x lo hi μ P := fun G H al v A r Q hQ => by
  obtain ⟨a, ws, rfl, s, rs⟩ := hl.get A r
  refine .inr (.inr ⟨a, ws, rfl, s, by rw [rs.length]; exact hne, fun p hp => ?_⟩)
  obtain ⟨A2, n2⟩ := A.frz (o := .tup (cutV ws lo hi)) hp
  exact hQ _ _ μ _ _ _ n2 A2 (.tup upd_same ((cut_rps rs lo hi).nx n2)) h
end Dl
set_option Elab.async false
set_option linter.all false
set_option maxRecDepth 100000
set_option maxHeartbeats 2000000
/-! exceptions that are caught and kept as values -/
namespace Dl
open PySem PySem.Spec PyProof.Rows L2
section
variable {X : Cx} {pins : List (Addr × Obj)} {σ : L2.St} {H : Hp} {s : Shared}
/-- an object that the frame has met (an exception) is tracked from here on -/
theorem trackX {a : Addr} {oe : Obj} {vs : Array Value} {cls : Value} {d : Option Addr} (I : Inv X pins σ H s) (ha : s.heap.get? a = some oe) (hz : Zc cls d oe) (hd : oe.data = .fields vs) (na : H a = none)
    (nL : a ≠ X.env.locals) (h0 : X.s_0.heap.get? a = none) (hp : ∀ p ∈ X.pn ++ pins, p.1 ≠ a) : Inv X pins σ (upd H a (ExV cls d a)) s := by
  refine ⟨I.ok, I.os, I.bare, ⟨I.base.keep, I.base.slot, fun b o e n hx => ?_, I.base.there, fun b xs e => ?_, fun b o u e => ?_, fun b ps e => ?_⟩, I.loc, I.cell, ?_, fun x c e => ?_, fun p hp' => ?_, fun b u e => ?_, I.len⟩
  · have z : b ≠ a := fun z => by rw [z, h0] at e; cases e
    rw [upd_ne z]; exact I.base.free b o e n hx
  · have q := I.base.tups b xs e
    rw [upd_ne (ne_of_none q na)]; exact q
  · have q := I.base.frzs b o u e
    rw [upd_ne (ne_of_none q na)]; exact q
  · obtain ⟨m, q⟩ := I.base.tbls b ps e
    exact ⟨m, by rw [upd_ne (ne_of_none q na)]; exact q⟩
  · rw [upd_ne nL.symm]; exact I.free
  · obtain ⟨v, o, ho, hd'⟩ := I.cell x c e
    have z : c ≠ a := fun z => by
      rw [z, ha] at ho; cases ho
      rw [hd] at hd'; cases hd'
    rw [upd_ne z]; exact I.freeC x c e
  · obtain ⟨e, n, ne, nf, d'⟩ := I.pin p hp'
    exact ⟨e, by rw [upd_ne (hp p hp')]; exact n, ne, nf, d'⟩
  · by_cases hb : b = a
    · subst hb
      rw [upd_same] at e
      cases e
      exact ⟨⟨oe, vs, ha, hz, hd⟩, ⟨oe, ha⟩, fun _ _ ⟨o, v, q, r⟩ k => ⟨o, v, k o q, r⟩⟩
    · rw [upd_ne hb] at e
      exact (I.hok b u e).stay (fun c v _ q => q) (fun c q => by rw [upd_ne (ne_of_none q na)]; exact q) fun c xs q => by rw [upd_ne (ne_of_none q na)]; exact q
/-- the frame of an except suite whose exception is tracked -/
theorem inSuite {a : Addr} (I : Inv X pins σ H s) : Inv (X.suite a (X.pn ++ pins)) [] σ H s :=
  ⟨I.ok.suite _ _, I.os, I.bare, I.base, I.loc, I.cell, I.free, I.freeC, fun p hp => I.pin p (by rw [List.append_nil] at hp; exact hp), I.hok, I.len⟩
theorem outSuite {a : Addr} {pn' : List (Addr × Obj)} (I : Inv (X.suite a (X.pn ++ pins)) pn' σ H s) (ok : X.Ok) : Inv X pins σ H s :=
  ⟨ok, I.os, I.bare, I.base, I.loc, I.cell, I.free, I.freeC, fun p hp => I.pin p (List.mem_append_left _ hp), I.hok, I.len⟩
end
/-- the ends of an except suite: its name goes -/
def endsX (i : Nat) (D : Ends) : Ends := { nx := fun σ' H' => D.nx (σ'.set i none) H', rt := D.rt, bk := fun σ' H' => D.bk (σ'.set i none) H', ct := fun σ' H' => D.ct (σ'.set i none) H' }
/-- what 'except x as n' wishes of an exception: slot i is n's -/
def wKp (K : PySem.W.Frag) (c : Value) (i : Nat) (ts : TS) (Wout : WX) (D : Ends) : WX := fun cls d σ H =>
  ∃ b, PySem.W.exmOne K cls c = some b ∧ (b = true → ∀ a, H a = none → ts (endsX i D) (σ.set i (some (.ref a))) (upd H a (ExV cls d a))) ∧ (b = false → Wout cls d σ H)
def tTry (K : PySem.W.Frag) (c : Value) (i : Nat) (tb : WX → TS) (ts : TS) (Wout : WX) : TS := fun D σ H => tb (wKp K c i ts Wout D) D σ H
section
variable {X : Cx} {x n : Str} {c : Value} {i : Nat} {body suite : List Stmt} {b₀ : Stmt} {np pos pos' : Pos} {tb : WX → TS} {ts : TS} {Wout : WX}
/-- try: .. except x as n: .., the caught exception stays a value -/
theorem ps_try_kp (hs : X.stack = X.env :: X.outer) (hf : X.env.frame = some X.env.locals) (hex : X.ex = []) (hN : X.N.Nodup) (hi : X.N[i]? = some n) (hln : X.env.kindOf n = some .local) (hc : Names X x c) (tk : Takes X Wout)
    (hb : ∀ (W : WX) (pn : List (Addr × Obj)) (xe : Value → Shared → Prop), Takes (X.tr pn xe) W → PassesOwn (model X.prog X.w) X.A X.env xe → PSs (X.tr pn xe) body (tb W))
    (hsu : ∀ (a : Addr) (pn : List (Addr × Obj)), PSs (X.suite a pn) (b₀ :: suite) ts) :
    PS X (.Try body [.ExceptHandler (some (.Name x np)) (some n) (b₀ :: suite) pos'] [] [] pos) (tTry X.K c i tb ts Wout) := by
  refine ⟨fun pins s σ H D I h => ?_⟩
  have ok := I.ok
  have hfr : X.A.frames = some (X.env :: X.outer) := ok.frames.trans (by rw [hs])
  have hloc : Loc X.env.scope n := Or.inl hln
  refine wpAny_Try_except ?_
  refine wpAny_mono ((hb (wKp X.K c i ts Wout D) (X.pn ++ pins) (fun e s₁ => wpAny (model X.prog X.w) X.A (noteFrame e X.env) (fun _ s₂ => wpAny (model X.prog X.w) X.A (setFlight e none) (fun _ s₃ =>
    wpAny (model X.prog X.w) X.A (handleBy e X.env [.ExceptHandler (some (.Name x np)) (some n) (b₀ :: suite) pos']) (SP X pins D) X.xe s₃) X.xe s₂) X.xe s₁) (fun u s' xx => ?_) PassesOwn.looking).run [] s σ H D (I.toTry _) h) (fun f s1 hsp => ?_) (fun e s1 he => he)
  · obtain ⟨a, B, sI, pins', σ', H', cls, d, rfl, J', nb, up, sky, na, os, ag, b, hb1, hyes, hno⟩ := xx
    have J : Inv X pins σ' H' sI := J'.ofTry ok
    have skyE : Sky B (X.env :: X.outer) a (Zc cls d) X.env.locals s'.heap := hs ▸ sky
    show wpAny (model X.prog X.w) X.A (noteFrame (.ref a) X.env) _ _ _
    refine Sky.land Zc.steady hfr hf skyE fun h3 fl3 up3 => ?_
    have J3 : Inv X pins σ' H' { s' with heap := h3 } := J.landed nb fl3.1 (up.trans up3) os ag
    obtain ⟨oe3, vs3, he3, hz3, hd3⟩ := fl3.there
    have nfr : a ∉ frs (X.env :: X.outer) := fun hm => by
      obtain ⟨_, o', e', hnf⟩ := fl3.2.2.1.mem hm
      rw [he3] at e'; cases e'
      exact hnf _ hd3
    have ba : B.get? a = none := fl3.2.1
    have nL : a ≠ X.env.locals := fun z => nfr (List.mem_filterMap.mpr ⟨X.env, List.mem_cons_self, by rw [hf, z]⟩)
    have nI : sI.heap.get? a = none := by
      cases q : sI.heap.get? a with
      | none => rfl
      | some o =>
        have := nb a o q (hs ▸ nfr)
        rw [ba] at this; cases this
    have n0 : X.s_0.heap.get? a = none := by
      cases q : X.s_0.heap.get? a with
      | none => rfl
      | some o =>
        obtain ⟨o', z⟩ := J.base.there a o q (by rw [hex]; exact fun z => nomatch z)
        rw [nI] at z; cases z
    have np' : ∀ p ∈ X.pn ++ pins, p.1 ≠ a := fun p hp z => by
      have := (J.pin p hp).1
      rw [z, nI] at this; cases this
    have nF : a ∉ X.fs := fun hm => by
      obtain ⟨e, he, q⟩ := List.mem_filterMap.mp hm
      exact nfr (List.mem_filterMap.mpr ⟨e, List.mem_cons_of_mem _ he, q⟩)
    have S3 := J3.suite he3 hd3 na nL nF
    refine wpAny_handleBy_cons (codeAny_handlers_test ?_) (by intro q; cases q)
    have LT : PySem.W.Looks (model X.prog X.w) h3 (typeOf (.ref a)) cls := fun A Q E s k q => wpAny_typeOf_ref (k _ _ he3) (hz3.1.symm ▸ q)
    have LM := PySem.W.exm_one (M := model X.prog X.w) (J3.kIn) LT hb1
    have test : ∀ {Q : Value → Shared → Prop} {E : Value → Shared → Prop}, Q c { s' with heap := h3 } → wpAny (model X.prog X.w) (X.A.mark (some (.ref a))) (eval (.Name x np) X.env) Q E { s' with heap := h3 } := by
      intro Q E q
      obtain ⟨hg, hdbg, hm | ⟨hm, hv, hnn⟩⟩ := hc
      · refine ld_glob (X := X.suite a ((a, oe3) :: (X.pn ++ pins))) S3 hg hm q hdbg
      · refine ld_blt (X := X.suite a ((a, oe3) :: (X.pn ++ pins))) S3 hg hm hv q hnn hdbg
    refine test (LM.here ?_)
    cases b with
    | true =>
      refine codeAny_handlers_suite_as ?_
      refine HandSPX.lands_againZ fl3 fun h4 fl4 up4 => ?_
      have J4 : Inv X pins σ' H' { s' with heap := h4 } := J.landed nb fl4.1 ((up.trans up3).trans up4) os ag
      obtain ⟨oe4, vs4, he4, hz4, hd4⟩ := fl4.there
      have T4 := inSuite (a := a) (trackX J4 he4 hz4 hd4 na nL n0 np')
      refine store_ok (X := X.suite a (X.pn ++ pins)) (v := .ref a) T4 hN hi hloc rfl (fun s5 S5 => ?_) (.inr hln)
      refine wpAny_mono ((hsu a (X.pn ++ pins)).run [] s5 _ _ _ S5 (hyes rfl a na)) (fun f s6 hsp => ?_) (fun _ _ z => False.elim z)
      have end_ : ∀ {σ6 : L2.St} {H6 : Hp} {Q : Shared → Prop}, Inv (X.suite a (X.pn ++ pins)) [] σ6 H6 s6 → (∀ s7, Inv X pins (σ6.set i none) H6 s7 → Q s7) →
          wpAny (model X.prog X.w) X.A (do bindName X.env n .none; unbindBehindTheSuite X.env n pos') (fun _ s7 => Q s7) X.xe s6 := fun {σ6 H6 Q} S6 hq => gone_ok (outSuite S6 ok) hN hi hln hq
      cases f with
      | next =>
        obtain ⟨τ, H6, S6, q6⟩ := hsp
        exact end_ S6 fun s7 J7 => ⟨_, _, J7, q6⟩
      | brk =>
        obtain ⟨τ, H6, S6, q6⟩ := hsp
        exact end_ S6 fun s7 J7 => ⟨_, _, J7, q6⟩
      | cont =>
        obtain ⟨τ, H6, S6, q6⟩ := hsp
        exact end_ S6 fun s7 J7 => ⟨_, _, J7, q6⟩
      | ret u =>
        obtain ⟨w6, τ, H6, S6, r6, q6⟩ := hsp
        exact end_ S6 fun s7 J7 => ⟨_, _, _, J7, r6, q6⟩
    | false =>
      show wpAny _ X.A (handleBy (.ref a) X.env []) _ _ _
      refine wpAny_handleBy_nil ?_
      obtain ⟨k1, k2, k3, oe, vs, T, oT, tz, he, hz, hd, h1, hr⟩ := id fl3
      unfold PySem.passOn
      refine wpAny_bind (wpAny_field he hd h1 ?_)
      rw [if_neg (show ¬ ((Value.ref T == Value.none) = true) by simp)]
      have fin : wpAny (model X.prog X.w) X.A (setFlight (.ref a) X.env.frame) (fun _ s4 => wpAny (model X.prog X.w) X.A (throw (.ref a) : Sem Flow) (SP X pins D) X.xe s4) X.xe { s' with heap := h3 } := by
        rw [hf]
        refine HandSPX.setFlight_upZ fl3 fun h4 hh4 up4 => wpAny_throw (tk _ _ ?_)
        refine ⟨a, B, sI, pins, σ', H', cls, d, rfl, J, nb, (up.trans up3).trans up4, .inr (.inr (hs ▸ hh4)), na, os, ag, hno rfl⟩
      first
        | exact wpAny_bind (wpAny_pure (wpAny_bind fin))
        | exact wpAny_bind fin
  · cases f with
    | next =>
      obtain ⟨τ, H6, J6, q⟩ := hsp
      exact wpAny_execs_nil ⟨τ, H6, J6.ofTry ok, q⟩
    | brk =>
      obtain ⟨τ, H6, J6, q⟩ := hsp
      exact ⟨τ, H6, J6.ofTry ok, q⟩
    | cont =>
      obtain ⟨τ, H6, J6, q⟩ := hsp
      exact ⟨τ, H6, J6.ofTry ok, q⟩
    | ret u =>
      obtain ⟨w, τ, H6, J6, r, q⟩ := hsp
      exact ⟨w, τ, H6, J6.ofTry ok, r, q⟩
end
/-! ### calls in a try's body: what is wished of exceptions hangs on the slots -/
section
variable {X : Cx} {CX : CXT} {k : Nat} {f C : Addr} {fd : FuncData} {ps : List Str} {sp : Sp} {E : L2.St → XK} {x m : Str} {p pos apos : Pos} {e o : Expr} {es : List Expr} {ta : TE} {t : TA}
def tMakeS (C : Addr) (sp : Sp) (dvs : List V) (E : L2.St → XK) (t : TA) : TE := fun σ H Q => tMake C sp dvs (E σ) t σ H Q
theorem run_makeS {dvs : List V} {ds : List Value} {pins : List (Addr × Obj)} {σ : L2.St} {H : Hp} {s : Shared} {Q : VK} {us : List Value} {vs : List V} (M : Mk X.K C f) (F : FnOk X.prog X.w X.K X.mg X.base CX k f fd ps sp) (hr : Room (k + 1) X.A) (hb : Binds X.K fd ps ds) (hd : Vals dvs ds)
    (hx : PassesAt CX X σ (E σ)) (I : Inv X pins σ H s) (r : Vals vs us)
    (h : ∀ x dx, H x = none → H dx = none → dx ≠ x → sp (.ref x :: (vs ++ dvs)) (upd (upd H dx (.own x)) x (.ins C dx [])) (fun v H2 => v = .non ∧ Q (.ref x) H2) (E σ)) :
    wpAny (model X.prog X.w) X.A (call (.ref C) us) (EP X pins σ Q) X.xe s := by
  have hq := h (s.heap.objs.size + 1) s.heap.objs.size (I.hok.fresh (Nat.le_succ _)) (I.hok.fresh (Nat.le_refl _)) (Nat.ne_of_lt (Nat.lt_succ_self _))
  have J := Inv.made (C := C) I
  have rr : Vals (V.ref (s.heap.objs.size + 1) :: (vs ++ dvs)) (Value.ref (s.heap.objs.size + 1) :: (us ++ ds)) := .cons rfl (r.append hd)
  have hl : (Value.ref (s.heap.objs.size + 1) :: us ++ ds).length = ps.length := ((F.len _ _ _ _ hq).symm.trans rr.length).symm
  refine wpAny_call (make_map (f := f) I.kIn M.makes M.init (beq_iff_eq.mp M.fn) (codeAny_mono (F.run _ X.stack _ _ ⟨Value.ref (s.heap.objs.size + 1) :: us, []⟩ (Value.ref (s.heap.objs.size + 1) :: (us ++ ds)) _ _ (E σ) (hr.make C us [])
    (J.env0.make C us []) (hb _ (Value.ref (s.heap.objs.size + 1) :: us) J.kIn hl) rr hq) fun r s' hq' => ?_))
  cases r with
  | error e => exact hx pins _ _ e s' J hq'
  | ok fl =>
    cases fl with
    | ret u =>
      obtain ⟨v, H', J3, rv, ev, q3⟩ := J.after hq'
      cases ev
      exact ⟨rv, ⟨V.ref (s.heap.objs.size + 1), H', J3, rfl, q3⟩⟩
    | next => exact False.elim hq'
    | brk => exact False.elim hq'
    | cont => exact False.elim hq'
theorem pe_makeS {dvs : List V} {ds : List Value} (M : Mk X.K C f) (F : FnOk X.prog X.w X.K X.mg X.base CX k f fd ps sp) (hr : Room (k + 1) X.A) (hg : Gl X x) (hm : X.mg x = some (.ref C)) (hb : Binds X.K fd ps ds) (hd : Vals dvs ds) (hx : ∀ σ, PassesAt CX X σ (E σ))
    (ha : PA X (e :: es) t) (hdb : (x == ("__debug__" : Str)) = false := by decide) (he : starEach (e :: es) X.env = (false, eval e X.env) :: starEach es X.env := by rfl) (hpl : (backTo pos (starEach es X.env)).any (·.1) = false := by rfl) :
    PE X (.Call (.Name x p) (e :: es) [] pos) (tMakeS C sp dvs E t) := by
  refine ⟨fun pins s σ H Q I h => ?_⟩
  refine wpAny_Call_Name_kw (ld_glob I hg hm ?_ hdb)
  refine PySem.W.callWith_K (h₀ := X.base) I.ok.mod.kin M.kp (thn (ha.run pos pins s σ H _ I h) fun us s1 ⟨vs, H1, I1, r, q⟩ => ⟨I1.kIn, ?_⟩) he hpl
  exact run_makeS (E := E) M F hr hb hd (hx σ) I1 r q
end
/-! ### isinstance of a caught exception, its fields -/
end Dl
namespace PySem.W
open PySem PySem.Spec PySem.Calls PyProof.Rows
section
variable {prog : Program} {w : World} {A : Around} {E : Value → Shared → Prop} {s : Shared} {K : Frag} {x D : Addr} {ox : Obj} {od : Option Obj}
theorem dl_findObj {C : Addr} {name : Str} {a g : Value} (hc : (clsIn K C).isSome = true) (ha : findIn K (.ref C) name = some (some a)) (hg : specialIn K a "__get__" = some (some g)) (ht : takesIn K a = some true) : findObj K C od name = some (.bind g a) := by
  obtain ⟨cd, hc⟩ := Option.isSome_iff_exists.mp hc
  unfold findObj
  rw [hc, Option.bind_some, ha, Option.bind_some]
  simp [hg, ht]
theorem dl_classE {Q : Option Value → Shared → Prop} (C : L2.ExcC K D) (X : K.In s.heap) (I : InstAt s.heap x ox D od) (h : Q (some (.ref D)) { s with toks := s.toks + 1 }) : wpAny (model prog w) A (getAttr? (.ref x) "__class__") Q E s := by
  have hf : findObj K D od "__class__" = some (.bind (.builtin "getset_descriptor.__get__") (.builtin "object.__class__")) := dl_findObj (by obtain ⟨cd, hc, _⟩ := any_some C.hd; rw [hc]; rfl) C.ha C.hn C.ht
  obtain ⟨hp, g, d, t, os⟩ := s
  have Ty := I.type (M := model prog w)
  have Lg := looks_findIn (M := model prog w) X C.hg
  have Lk := looks_findIn (M := model prog w) X C.hk
  have Lf := looks_find (M := model prog w) X I hf
  have sub : Looks (model prog w) hp (isInstance (.ref x) (.type "BaseException")) true := Ty.andThen (looks_subIn X C.hs)
  have n0 : (false && onTheHeap (Value.builtin "BaseException.__getattribute__")) = false := rfl
  have n2 : (Value.builtin "BaseException.__getattribute__" == Value.builtin "object.__getattribute__") = false := by decide +kernel
  have n1 : (onTheHeap (Value.ref D) && Value.builtin "BaseException.__getattribute__" == Value.builtin "object.__getattribute__") = false := by rw [n2]; rfl
  unfold getAttr? getAttrBy? getAttrBy
  refine wpAny_bind (wpAny_mkText (wpAny_bind (wpAny_attempt (wpAny_holding (wpAny_bind (Ty.at (wpAny_bind (Lg.at ?_))))))))
  show wpAny _ _ (if (onTheHeap (Value.ref D) && Value.builtin "BaseException.__getattribute__" == Value.builtin "object.__getattribute__") = true then _ else _) _ _ _
  rw [n1, if_neg Bool.false_ne_true]
  unfold getAttrByItsOwn hookBefore
  refine wpAny_bind ?_
  rw [if_pos (show onTheHeap (Value.ref D) = true by rfl)]
  refine Lk.at ?_
  refine wpAny_bind (wpAny_attempt (wpAny_holding ?_))
  unfold callGetattribute
  rw [n0, if_neg Bool.false_ne_true]
  unfold boundAndCalled
  rw [PySem.F.excAttr_ValueError.ga.bind (.ref x)]
  refine wpAny_bind (wpAny_pure ?_)
  show wpAny _ _ (call (.builtin "BaseException.__getattribute__") [.ref x, .str "__class__" t]) _ _ _
  refine wpAny_call (codeAny_call_builtin PySem.F.excAttr_ValueError.ga.plain PySem.F.entry_bexc_ga ?_)
  refine @check_slot (model prog w) _ _ ⟨hp, g, d, t + 1, os⟩ "BaseException.__getattribute__" "BaseException" "__getattribute__" (.ref x) [.str "__class__" t] [] _ (by decide +kernel) (by decide +kernel) sub (PySem.F.args_bexc_ga _ _) ?_
  unfold Builtin.«object.__getattribute__»
  refine wpAny_bind (wpAny_of_eq (a := ((Value.ref x : Value), [Value.str "__class__" t])) (by first | (simp only [slotArgs]; rfl) | rfl) ?_)
  refine wpAny_bind (wpAny_pure (wpAny_bind (Ty.at (wpAny_bind (Lf.at ?_)))))
  show wpAny _ _ (holding [Value.builtin "object.__class__"] (call (.builtin "getset_descriptor.__get__") [.builtin "object.__class__", .ref x, .ref D]) >>= ret) _ _ _
  refine wpAny_bind (wpAny_holding (wpAny_call (class_get (s := ⟨hp, g, d, t + 1, os⟩) (ox := ox) (od := od) X I C.hm ?_)))
  refine wpAny_pure ?_
  show wpAny _ _ (handedOut (.ref D)) _ _ _
  rw [handedOut_of (v := .ref D) (by rfl)]
  first
    | exact wpAny_pure h
    | exact wpAny_pure (wpAny_pure h)
    | exact wpAny_pure (wpAny_bind (wpAny_pure (wpAny_pure h)))
theorem dl_kitx (C : L2.ExcC K D) : KitX K (.ref x) (.ref D) (fun h => ∃ od, InstAt h x ox D od) where
  ty := fun _ _ _ ⟨_, I⟩ => I.type
  it := fun _ _ X _ => by
    obtain ⟨cdD, hcD, _⟩ := any_some C.hd
    unfold clsIn at hcD
    split at hcD
    · rename_i c' d' cd' sl' ho
      intro A' Q' E' s' k q
      unfold isType loadHead
      refine wpAny_bind (wpAny_loadPart (k _ _ (X _ _ ho)) (wpAny_pure q))
    · cases hcD
  ne := fun h tp dd its n sl X htp => by
    obtain ⟨cdD, hcD, _⟩ := any_some C.hd
    refine Bool.eq_false_iff.mpr fun q => ?_
    have e := Value.ref.inj (beq_iff_eq.mp q)
    cases e
    unfold clsIn at hcD
    split at hcD
    · rename_i c' d' cd' sl' ho
      have z := (X _ _ ho).symm.trans htp
      cases z
    · cases hcD
  ca := fun X ⟨_, I⟩ k => dl_classE C X I k
end
end PySem.W
namespace Dl
open PySem PySem.Spec PyProof.Rows L2
/-- isinstance(e, c), e a caught exception -/
def rIsX (K : PySem.W.Frag) : List V → Hp → VK → Prop := fun xs H Q => ∃ (a C : Addr) (d : Option Addr) (fs : List (Str × V)) (c : V) (cv : Value) (b : Bool), xs = [.ref a, c] ∧ H a = some (ExV (.ref C) d a) ∧ ExD H d fs ∧ ExcC K C ∧ (∀ u, RelV c u → u = cv) ∧ PySem.W.kitOne K (.ref C) cv = some b ∧ Q (.bl b) H
theorem exInst {X : Cx} {pins : List (Addr × Obj)} {σ : L2.St} {H : Hp} {s : Shared} {a C : Addr} {d : Option Addr} {fs : List (Str × V)} (I : Inv X pins σ H s) (ha : H a = some (ExV (.ref C) d a)) (hd : ExD H d fs) : ∃ oe od, PySem.W.InstAt s.heap a oe C od ∧ (∀ dx, d = some dx → ∃ mA o, s.heap.Ns1 dx mA ∧ (∀ f, RelO (fs.lookup f) (mA f)) ∧ od = some o ∧ ∀ n, PySem.W.lookIn n o = some (mA n)) := by
  obtain ⟨⟨oe, vs, hg, hz, hf⟩, _, _⟩ := I.hok a _ ha
  rcases hd with ⟨rfl, rfl⟩ | ⟨dx, rfl, hx⟩
  · refine ⟨oe, none, ⟨hg, hz.1, by unfold PySem.W.notCls; rw [hf] <;> rfl, by rw [hz.2]; trivial⟩, fun dx e => by cases e⟩
  · have ho : ObjOk X.prog X.w H s.heap dx (.xd fs) := I.hok dx _ hx
    obtain ⟨mA, hns, hr⟩ := ho
    obtain ⟨od, ho, hl⟩ := lookIn_ns hns
    refine ⟨oe, some od, ⟨hg, hz.1, by unfold PySem.W.notCls; rw [hf] <;> rfl, by rw [hz.2]; exact ho⟩, fun dx' e => ?_⟩
    cases e
    exact ⟨mA, od, hns, hr, rfl, hl⟩
theorem call_isX {X : Cx} : CallR X (.builtin "isinstance") (rIsX X.K) := by
  intro pins s σ H xs us Q I r h
  obtain ⟨a, C, d, fs, c, cv, b, rfl, ha, hd, hC, hcv, e, q⟩ := h
  cases r with
  | cons rx rr =>
    cases rr with
    | cons rt rr =>
      cases rr
      cases rx
      cases hcv _ rt
      obtain ⟨oe, od, J, _⟩ := exInst I ha hd
      exact PySem.W.kia_one (PySem.W.dl_kitx (ox := oe) hC) I.kIn ⟨od, J⟩ e (fun z => nomatch z) fun tk => ⟨.bl b, H, I.kept (t' := tk) fun _ _ z => z, rfl, q⟩
/-- e.n, e a caught exception -/
def tXfK (K : PySem.W.Frag) (n : Str) (te : TE) : TE := fun σ H Q => te σ H fun x H1 => ∃ (a C dx : Addr) (fs : List (Str × V)) (v : V), x = .ref a ∧ H1 a = some (ExV (.ref C) (some dx) a) ∧ H1 dx = some (.xd fs) ∧ XfC K C ∧ PySem.W.findIn K (.ref C) n = some none ∧ fs.lookup n = some v ∧ Q v H1
end Dl
set_option Elab.async false
set_option linter.all false
set_option maxRecDepth 100000
set_option maxHeartbeats 2000000
/-! exceptions over data: raised with fields, caught, looked at -/
namespace Dl
open PySem PySem.Spec PyProof.Rows L2
/-! ### raise C(e, ..), C's own __init__ -/
/-! ### try -/
abbrev PWT := Addr → List (Str × D) → En → Mu → Prop
/-- what a try's body may let out: class, fields, slots, things -/
def WAg (K : PySem.W.Frag) (B : Bs) (PW : PWT) (W : WX) : Prop := ∀ C fs dd σ ρ μ G H al, B.le G H al → RpS K G al σ ρ → As K G H al μ → XRep K G al dd fs → PW C fs ρ μ → W (.ref C) dd σ H
def endsD (i : Nat) (P : DEnds) : DEnds := { nx := fun ρ μ => P.nx (ρ.set i none) μ, rt := P.rt, bk := fun ρ μ => P.bk (ρ.set i none) μ, ct := fun ρ μ => P.ct (ρ.set i none) μ }
section
variable {K : PySem.W.Frag} {B : Bs} {ρ : En} {μ : Mu} {te ta : TE} {ts : TA} {P : D → Mu → Prop} {PW : PWT} {W : WX} {C : CT} {dvs : List V} {dds : List D}
theorem ds_try {c : Value} {i : Nat} {tb : WX → TS} {su : TS} {Wout : WX} {P : DEnds} (hb : ∀ B', (∀ G H al, Bs.le B' G H al → B.le G H al) → ∀ W, WAg K B' (fun C fs ρ1 μ1 => PySem.W.exmOne K (.ref C) c = some true ∧ DS K B' su (ρ1.set i (some (.exc C fs))) μ1 (endsD i P)) W → DS K B' (tb W) ρ μ P) : DS K B (tTry K c i tb su Wout) ρ μ P := fun σ G H al hB hσ hA De hD => by
  refine hb ⟨G, H, al⟩ (fun _ _ _ n => hB.trans n) _ ?_ σ G H al .refl hσ hA De hD
  intro C fs dd σ1 ρ1 μ1 G1 H1 al1 n1 hσ1 A1 xr ⟨eb, y⟩
  refine ⟨true, eb, fun _ a na => ?_, fun z => by cases z⟩
  obtain ⟨A2, n2⟩ := A1.frz (o := ExV (.ref C) dd a) na
  have nn : Nx G H al _ _ al1 := n1.trans n2
  have rx : Rp K (upd G1 a (ExV (.ref C) dd a)) al1 (.ref a) (.exc C fs) := by
    rcases xr with ⟨rfl, rfl⟩ | ⟨d, vs, rfl, hd, rf⟩
    · exact .exc upd_same (.inl ⟨rfl, rfl⟩) .nil
    · exact .exc upd_same (.inr ⟨d, rfl, n2.g _ _ hd⟩) (rf.nx n2)
  refine y (σ1.set i (some (.ref a))) _ _ al1 nn ((hσ1.nx n2).set i rx) A2 (endsX i De) ?_
  have hD2 := hD.nx' nn
  exact ⟨fun σ' ρ' μ' G' H' al' n hσ A p => hD2.nx _ _ μ' G' H' al' n (hσ.forget i none) A p, hD2.rt, fun σ' ρ' μ' G' H' al' n hσ A p => hD2.bk _ _ μ' G' H' al' n (hσ.forget i none) A p, fun σ' ρ' μ' G' H' al' n hσ A p => hD2.ct _ _ μ' G' H' al' n (hσ.forget i none) A p⟩
theorem wag_x {G1 H1 G H : Hp} {al1 al : List Addr} {σ : L2.St} (hW : WAg K B PW W) (hB : B.le G H al) (hσ : RpS K G al σ ρ) (n1 : Nx G H al G1 H1 al1) : XAg K ⟨G1, H1, al1⟩ (fun C fs μ2 => PW C fs ρ μ2) (WE W σ) := fun C fs dd μ' G' H' al' n' A xr p => hW C fs dd σ ρ μ' G' H' al' ((hB.trans n1).trans n') ((hσ.nx n1).nx n') A xr p
theorem de_callS (hW : WAg K B PW W) (h : DA K B ts ρ μ fun ds μ1 => C ds μ1 P fun Cx fs μ2 => PW Cx fs ρ μ2) : DE K B (tCallS (spD K C) (WE W) ts) ρ μ P := fun σ G H al hB hσ hA Q hQ =>
  h σ G H al hB hσ hA _ fun vs ds μ1 G1 H1 al1 n1 A1 r1 p1 => ⟨G1, al1, ds, μ1, P, _, A1, r1, p1, hQ.nx n1, wag_x hW hB hσ n1⟩
theorem de_makeS {Cc : Addr} (hW : WAg K B PW W) (hd : ∀ G al, Rps K G al dvs dds) (h : DA K B ts ρ μ fun ds μ1 => C (.own μ1.length :: (ds ++ dds)) (μ1 ++ [.ins Cc []]) (fun d μ2 => d = .non ∧ ∃ gs, μ2 = μ1 ++ [.ins Cc gs] ∧ clF gs μ1.length = true ∧ P (.obj Cc gs) μ1) (RetX μ1.length fun Cx fs μ2 => PW Cx fs ρ μ2)) : DE K B (tMakeS Cc (spD K C) dvs (WE W) ts) ρ μ P := fun σ G H al hB hσ hA Q hQ =>
  de_make (B := ⟨G, H, al⟩) (PX := fun Cx fs μ2 => PW Cx fs ρ μ2) (E := WE W σ) (wag_x hW hB hσ .refl) hd (fun σ' G' H' al' hB' hσ' hA' Q' hQ' => h σ' G' H' al' (hB.trans hB') hσ' hA' Q' hQ') σ G H al .refl hσ hA Q hQ
/-! ### isinstance, fields -/
theorem rc_isX {Cc : Addr} {gs : List (Str × D)} {c : D} {cv : Value} {b : Bool} (hC : ExcC K Cc) (hc : ClD c cv) (hk : PySem.W.kitOne K (.ref Cc) cv = some b) (h : P (.bl b) μ) : RC K (rIsX K) [.exc Cc gs, c] μ P := fun G H al vs A r Q hQ => by
  obtain ⟨v, w, rfl, r1, r2⟩ := rps2 r
  cases r1 with
  | exc e hd rf =>
    refine ⟨_, Cc, _, _, w, cv, b, rfl, A.sub _ _ e, hd.mono A.sub, hC, ?_, hk, hQ.now A (.bl _) h⟩
    intro u ru
    cases hc with
    | ty n => cases r2; exact ru
    | loc C => cases r2; exact ru
theorem de_xf {n : Str} (h : DE K B te ρ μ fun x μ1 => ∃ Cc gs d, x = .exc Cc gs ∧ XfC K Cc ∧ PySem.W.findIn K (.ref Cc) n = some none ∧ gs.lookup n = some d ∧ P d μ1) : DE K B (tXfK K n te) ρ μ P := fun σ G H al hB hσ hA Q hQ =>
  h σ G H al hB hσ hA _ fun v x μ1 G1 H1 al1 n1 A1 r1 p1 => by
    obtain ⟨Cc, gs, d, rfl, hx, hn, hl, p⟩ := p1
    cases r1 with
    | exc e hd rf =>
      obtain ⟨w, lw, rw'⟩ := rf.look hl
      rcases hd with ⟨rfl, rfl⟩ | ⟨dx, rfl, hd⟩
      · cases lw
      · exact ⟨_, Cc, dx, _, w, rfl, A1.sub _ _ e, A1.sub _ _ hd, hx, hn, lw, hQ _ _ μ1 _ _ _ n1 A1 rw' p⟩
end
/-! ### what the text says of the refusals -/
/-- the refusals of the program -/
def excNames : List Str := ["BadBook", "BadCalendar", "BadFeast", "BadRow", "BadHouse", "BadNumber", "NoDay", "NoRow", "NoPiece", "TooTight", "NeverDone", "TooFar", "NoDeed", "BadText"]
def excB1 (K : PySem.W.Frag) (x : Str) : Bool := He.eqO (PySem.W.findIn K (.ref (He.ga K x)) "__getattribute__") (some (some (.builtin "BaseException.__getattribute__"))) && (He.eqO (PySem.W.findIn K (.ref (He.ga K x)) "__getattr__") (some none) &&
  (decide (PySem.W.subIn K (.ref (He.ga K x)) (.type "BaseException") = some true) && (PySem.W.hasDictIn K (He.ga K x) && (He.eqO (PySem.W.findIn K (.ref (He.ga K x)) "__class__") (some (some (.builtin "object.__class__"))) &&
  (He.eqO (PySem.W.specialIn K (.builtin "object.__class__") "__get__") (some (some (.builtin "getset_descriptor.__get__"))) && (decide (PySem.W.takesIn K (.builtin "object.__class__") = some true) && decide (PySem.W.mroIn K (He.ga K x) (.type "object") = some true)))))))
theorem excB1_ok {K : PySem.W.Frag} {x : Str} (h : excB1 K x = true) : ExcC K (He.ga K x) := by
  unfold excB1 at h
  obtain ⟨h1, h⟩ := He.ba h
  obtain ⟨h2, h⟩ := He.ba h
  obtain ⟨h3, h⟩ := He.ba h
  obtain ⟨h4, h⟩ := He.ba h
  obtain ⟨h5, h⟩ := He.ba h
  obtain ⟨h6, h⟩ := He.ba h
  obtain ⟨h7, h8⟩ := He.ba h
  exact ⟨He.eqO_ok h1, He.eqO_ok h2, of_decide_eq_true h3, h4, He.eqO_ok h5, He.eqO_ok h6, of_decide_eq_true h7, of_decide_eq_true h8⟩
/-- of each of some refusals, and of each two -/
structure KExc (K : PySem.W.Frag) (xs : List Str) : Prop where
  ec : ∀ x ∈ xs, ExcC K (He.ga K x)
  re : ∀ x ∈ xs, PySem.W.exmOne K (.ref (He.ga K x)) (.ref (He.ga K "ReadError")) = some true
  ve : ∀ x ∈ xs, PySem.W.kitOne K (.ref (He.ga K x)) (.type "ValueError") = some true
  is : ∀ x ∈ xs, ∀ y ∈ excNames, PySem.W.kitOne K (.ref (He.ga K x)) (.ref (He.ga K y)) = some (decide (x = y))
  ge : ∀ x ∈ xs, PySem.W.kitOne K (.ref (He.ga K x)) (.ref (He.ga K "ReadError")) = some true
def kexcB (xs : List Str) (K : PySem.W.Frag) : Bool := xs.all fun x => excB1 K x && (decide (PySem.W.exmOne K (.ref (He.ga K x)) (.ref (He.ga K "ReadError")) = some true) && (decide (PySem.W.kitOne K (.ref (He.ga K x)) (.type "ValueError") = some true) &&
  ((excNames.all fun y => decide (PySem.W.kitOne K (.ref (He.ga K x)) (.ref (He.ga K y)) = some (decide (x = y)))) && decide (PySem.W.kitOne K (.ref (He.ga K x)) (.ref (He.ga K "ReadError")) = some true))))
theorem kexcB_ok {xs : List Str} {K : PySem.W.Frag} (h : kexcB xs K = true) : KExc K xs := by
  unfold kexcB at h
  rw [List.all_eq_true] at h
  refine ⟨fun x hx => ?_, fun x hx => ?_, fun x hx => ?_, fun x hx y hy => ?_, fun x hx => ?_⟩
  all_goals
    obtain ⟨h1, h2⟩ := He.ba (h x hx)
    obtain ⟨h3, h4⟩ := He.ba h2
    obtain ⟨h5, h6⟩ := He.ba h4
    obtain ⟨h7, h8⟩ := He.ba h6
  · exact excB1_ok h1
  · exact of_decide_eq_true h3
  · exact of_decide_eq_true h5
  · exact of_decide_eq_true (List.all_eq_true.mp h7 y hy)
  · exact of_decide_eq_true h8
/-- fields of a refusal -/
structure KXf (K : PySem.W.Frag) (x : Str) (fs : List Str) : Prop where
  xf : XfC K (He.ga K x)
  no : ∀ f ∈ fs, PySem.W.findIn K (.ref (He.ga K x)) f = some none
  ox : OexC K (He.ga K x)
end Dl
set_option Elab.async false
set_option linter.all false
set_option maxRecDepth 100000
/-! small rules: exceptions and None, == of texts -/
namespace Dl
open PySem L2 PyProof.Rows
section
variable {K : PySem.W.Frag} {B : Bs} {ρ : En} {μ : Mu} {te : TE} {P : D → Mu → Prop}
theorem np_exc {Q : Bool → Prop} {C : Addr} {gs : List (Str × D)} (h : Q false) : IsNP (.exc C gs) Q := np_f (by simp) h
theorem ro_eqS {i j : Str} (h1 : PyData.strOk i = true) (h2 : PyData.strOk j = true) (h : P (.bl (decide (i = j))) μ) : RO K (rEqD K) (.str i) (.str j) μ P := ro_eqD (n := 0) (m := 0) (.id _) (.id _) h1 h2 (by rw [eqvD_str]; exact h)
theorem ro_neS {i j : Str} (h1 : PyData.strOk i = true) (h2 : PyData.strOk j = true) (h : P (.bl (!decide (i = j))) μ) : RO K (rNeD K) (.str i) (.str j) μ P := ro_neD (n := 0) (m := 0) (.id _) (.id _) h1 h2 (by rw [eqvD_str]; exact h)
theorem ro_eqSS {i : Str} (h1 : PyData.strOk i = true) (h : P (.bl true) μ) : RO K (rEqD K) (.str i) (.str i) μ P := ro_eqS h1 h1 (by simpa using h)
theorem ro_neSS {i : Str} (h1 : PyData.strOk i = true) (h : P (.bl false) μ) : RO K (rNeD K) (.str i) (.str i) μ P := ro_neS h1 h1 (by simpa using h)
theorem ro_eqSd {i j : Str} (h1 : PyData.strOk i = true) (h2 : PyData.strOk j = true) (hn : i ≠ j) (h : P (.bl false) μ) : RO K (rEqD K) (.str i) (.str j) μ P := ro_eqS h1 h2 (by simpa [hn] using h)
theorem ro_neSd {i j : Str} (h1 : PyData.strOk i = true) (h2 : PyData.strOk j = true) (hn : i ≠ j) (h : P (.bl true) μ) : RO K (rNeD K) (.str i) (.str j) μ P := ro_neS h1 h2 (by simpa [hn] using h)
/-- fields of a caught exception -/
def XfP (K : PySem.W.Frag) (n : Str) (x : D) (Q : D → Prop) : Prop := ∃ Cc gs d, x = .exc Cc gs ∧ XfC K Cc ∧ PySem.W.findIn K (.ref Cc) n = some none ∧ gs.lookup n = some d ∧ Q d
theorem de_xfZ {n : Str} (h : DE K B te ρ μ fun x μ1 => XfP K n x fun d => P d μ1) : DE K B (tXfK K n te) ρ μ P := de_xf h
theorem xf_i {n x : Str} {fs : List Str} {gs : List (Str × D)} {d : D} {Q : D → Prop} (k : KXf K x fs) (hn : n ∈ fs) (hl : gs.lookup n = some d) (h : Q d) : XfP K n (.exc (He.ga K x) gs) Q := ⟨_, _, _, rfl, k.xf, k.no _ hn, hl, h⟩
end
end Dl
set_option Elab.async false
set_option linter.all false
set_option maxRecDepth 100000
/-! range downwards -/
set_option Elab.async false
set_option linter.all false
set_option maxRecDepth 100000
/-! tuple(x), a number in a tuple, list(dict) -/
namespace Dl
open PySem L2 PyProof.Rows
section
variable {K : PySem.W.Frag} {B : Bs} {ρ : En} {μ : Mu} {te : TE} {P : D → Mu → Prop}
theorem de_tupOf (h : DE K B te ρ μ fun x μ1 => ∃ ds, Ls μ1 x ds ∧ P (.tup ds) μ1) : DE K B (tThen te (kTup K)) ρ μ P := fun σ G H al hB hσ hA Q hQ =>
  h σ G H al hB hσ hA _ fun v d μ1 G1 H1 al1 n1 A1 r1 p1 => by
    obtain ⟨ds, hl, p⟩ := p1
    obtain ⟨a, ws, rfl, s, rs⟩ := hl.get A1 r1
    refine .inl ⟨a, ws, rfl, s, fun q hq => ?_⟩
    obtain ⟨A2, n2⟩ := A1.frz (o := .tup ws) hq
    exact hQ _ _ μ1 _ _ al1 (n1.trans n2) A2 (.tup upd_same (rs.nx n2)) p
end
end Dl
set_option Elab.async false
set_option linter.all false
set_option maxRecDepth 100000
set_option maxHeartbeats 2000000
/-! lambdas handed to a def -/
set_option Elab.async false
set_option linter.all false
set_option maxRecDepth 100000
set_option maxHeartbeats 2000000
/-! lambdas over data; the head and the end with tables -/
set_option Elab.async false
set_option linter.all false
set_option maxRecDepth 100000
/-! str(i) -/
set_option Elab.async false
set_option linter.all false
set_option maxRecDepth 100000
/-! x in l, items of any depth -/
set_option Elab.async false
set_option linter.all false
set_option maxRecDepth 100000
/-! the head's facts over a told list of objects -/
namespace Dl
open PySem L2 PyProof.Rows
def obsLG (as : List Addr) (fa : List He.Fa) (fn : List He.DefD) (ex : List (PySem.W.Frag → Bool)) (g : Addr → Option Obj) : AlX := (He.obsD fa fn (He.frG g as), exAll ex (He.frG g as))
def hookL (as : List Addr) (fa : List He.Fa) (fn : List He.DefD) (ex : List (PySem.W.Frag → Bool)) : PySem.W.Hook where
  α := AlX
  obs := fun s => obsLG as fa fn ex s.heap.get?
  val := fun _ => (He.valD fn, true)
  says := fun _ h => ∃ K : PySem.W.Frag, K.In h ∧ He.SaysD fa fn K ∧ exAll ex K = true
  of := fun _ _ e => ⟨_, He.frG_in, congrArg Prod.fst e, congrArg Prod.snd e⟩
  keeps := fun _ _ _ ⟨K, hK, c⟩ k => ⟨K, PySem.W.Frag.In.keeps hK k, c⟩
theorem obsLG_eq {as : List Addr} {fa : List He.Fa} {fn : List He.DefD} {ex : List (PySem.W.Frag → Bool)} {g : Addr → Option Obj} {s : Shared} (h : ∀ a, g a = s.heap.get? a) : obsLG as fa fn ex g = (hookL as fa fn ex).obs s := by
  have e : g = s.heap.get? := funext h
  rw [e] <;> rfl
/-! with tables -/
/-! ### the run, looked at thrice -/
/-! ### a slice as a target; room -/
theorem hu65 {A : Around} {k : Nat} (hr : Room k A) : A.units + 65 < cLine := by
  have := hr.un
  omega
end Dl
set_option Elab.async false
set_option linter.all false
set_option maxRecDepth 100000
/-! a dict that is walked stands locked for that time -/
namespace Dl
open PySem L2
/-- G2 is G1 but for locks of dicts -/
def Lk (G G' : Hp) : Prop := ∀ b o, G b = some o → G' b = some o ∨ ((∃ kvs, o = .dK kvs ∨ ∃ o', o = .frz o' (.dK kvs)) ∧ ∀ kvs, Rd G b (.dK kvs) → Rd G' b (.dK kvs))
section
variable {K : PySem.W.Frag} {G G' : Hp} {al al' : List Addr}
theorem Lk.plain (s : Lk G G') {b : Addr} {o : HO} (h : G b = some o) (n1 : ∀ kvs, o ≠ .dK kvs) (n2 : ∀ o' kvs, o ≠ .frz o' (.dK kvs)) : G' b = some o := by
  rcases s b o h with z | ⟨⟨kvs, z | ⟨o', z⟩⟩, _⟩
  · exact z
  · exact absurd z (n1 kvs)
  · exact absurd z (n2 o' kvs)
theorem Lk.rd (s : Lk G G') {b : Addr} {kvs : List (Key × V)} (h : Rd G b (.dK kvs)) : Rd G' b (.dK kvs) := by
  rcases h with h | ⟨o, h⟩
  · rcases s b _ h with z | ⟨_, z⟩
    · exact .inl z
    · exact z _ (.inl h)
  · rcases s b _ h with z | ⟨_, z⟩
    · exact .inr ⟨o, z⟩
    · exact z _ (.inr ⟨o, h⟩)
theorem Lk.sql (s : Lk G G') {a : Addr} {xs : List V} (h : SqL K G a xs) : SqL K G' a xs := by
  rcases h with (h | ⟨o, h⟩) | h
  · exact .inl (.inl (s.plain h (fun _ => nofun) fun _ _ => nofun))
  · exact .inl (.inr ⟨o, s.plain h (fun _ => nofun) fun _ _ => nofun⟩)
  · exact .inr h
theorem Lk.sqt (s : Lk G G') {a : Addr} {xs : List V} (h : SqT K G a xs) : SqT K G' a xs := by
  rcases h with (h | ⟨o, h⟩) | h
  · exact .inl (.inl (s.plain h (fun _ => nofun) fun _ _ => nofun))
  · exact .inl (.inr ⟨o, s.plain h (fun _ => nofun) fun _ _ => nofun⟩)
  · exact .inr h
end
end Dl
set_option Elab.async false
set_option linter.all false
set_option maxRecDepth 100000
/-! Dl37: == and != of things of own classes, any answer -/
namespace Dl
open PySem L2 PyProof.Rows
/-- a class that has no != of its own -/
structure NeO (K : PySem.W.Frag) (C : Addr) : Prop where
  ne : PySem.W.findIn K (.ref C) "__ne__" = some (some (.builtin "object.__ne__"))
  ob : PySem.W.mroIn K C (.type "object") = some true
def neB (x : Str) (K : PySem.W.Frag) : Bool := He.eqO (PySem.W.findIn K (.ref (He.ga K x)) "__ne__") (some (some (.builtin "object.__ne__"))) && decide (PySem.W.mroIn K (He.ga K x) (.type "object") = some true)
theorem neB_ok {K : PySem.W.Frag} {x : Str} (h : neB x K = true) : NeO K (He.ga K x) := by
  unfold neB at h
  obtain ⟨h1, h2⟩ := He.ba h
  exact ⟨He.eqO_ok h1, of_decide_eq_true h2⟩
/-- what == of a class asks: things of the class, numbers, lists, tuples -/
structure KEq (K : PySem.W.Frag) (x : Str) : Prop where
  ob : ObT K (He.ga K x)
  is : PySem.W.kitOne K (.ref (He.ga K x)) (.ref (He.ga K x)) = some true
  no : ∀ n ∈ (["int", "list", "tuple"] : List String), PySem.W.kitOne K (.type n) (.ref (He.ga K x)) = some false ∧ PySem.W.notFirst K (He.ga K x) (.type n) = true
def keqB (x : Str) (K : PySem.W.Frag) : Bool := obtB x K && (isB x x true K && (["int", "list", "tuple"] : List String).all fun n => decide (PySem.W.kitOne K (.type n) (.ref (He.ga K x)) = some false) && PySem.W.notFirst K (He.ga K x) (.type n))
theorem keqB_ok {K : PySem.W.Frag} {x : Str} (c : Cls K (He.ga K x)) (h : keqB x K = true) : KEq K x := by
  unfold keqB at h
  obtain ⟨h1, h2⟩ := He.ba h
  obtain ⟨h3, h4⟩ := He.ba h2
  refine ⟨obtB_ok c h1, isB_ok h3, fun n hn => ?_⟩
  have := List.all_eq_true.mp h4 n hn
  obtain ⟨a, b⟩ := He.ba this
  exact ⟨of_decide_eq_true a, b⟩
theorem KEq.nf {K : PySem.W.Frag} {x : Str} (k : KEq K x) : PySem.W.notFirst K (He.ga K x) (.ref (He.ga K x)) = true := by simp [PySem.W.notFirst]
/-- .. things of another class -/
structure KNe (K : PySem.W.Frag) (x y : Str) : Prop where
  ob : ObT K (He.ga K y)
  is : PySem.W.kitOne K (.ref (He.ga K y)) (.ref (He.ga K x)) = some false
  nf : PySem.W.notFirst K (He.ga K x) (.ref (He.ga K y)) = true
def kneB (x y : Str) (K : PySem.W.Frag) : Bool := obtB y K && (isB y x false K && PySem.W.notFirst K (He.ga K x) (.ref (He.ga K y)))
theorem kneB_ok {K : PySem.W.Frag} {x y : Str} (c : Cls K (He.ga K y)) (h : kneB x y K = true) : KNe K x y := by
  unfold kneB at h
  obtain ⟨h1, h2⟩ := He.ba h
  obtain ⟨h3, h4⟩ := He.ba h2
  exact ⟨obtB_ok c h1, isB_ok h3, h4⟩
/-- x == y by the own == of the class at C -/
def rEqO (K : PySem.W.Frag) (C : Addr) (sp : Sp) (E : XK) : R2 := fun x y H Q => ∃ a dx fs tb, x = .ref a ∧ H a = some (.ins C dx fs) ∧ TyX K H y tb ∧ PySem.W.notFirst K C tb = true ∧ sp [x, y] H (fun z H' => ∃ b, z = .bl b ∧ Q (.bl b) H') E
def rNeO (K : PySem.W.Frag) (C : Addr) (sp : Sp) (E : XK) : R2 := fun x y H Q => ∃ a dx fs tb, x = .ref a ∧ H a = some (.ins C dx fs) ∧ TyX K H y tb ∧ PySem.W.notFirst K C tb = true ∧ sp [x, y] H (fun z H' => ∃ b, z = .bl b ∧ Q (.bl (!b)) H') E
section
variable {prog : Program} {w : World} {A : Around} {E : Value → Shared → Prop} {s : Shared} {K : PySem.W.Frag} {x C L f : Addr} {h₀ : Heap} {m : Str → Option Value} {ox : Obj} {od : Option Obj} {b tb : Value}
/-- the slot of object is found and called -/
theorem bound_ne {M : Model} {args : List Value} {Q : Option Value → Shared → Prop} (X : K.In s.heap) (I : PySem.W.InstAt s.heap x ox C od) (hs : PySem.W.findIn K (.ref C) "__ne__" = some (some (.builtin "object.__ne__")))
    (h : wpAny M A (call (.builtin "object.__ne__") (.ref x :: args)) (fun v => Q (some v)) E s) : wpAny M A (callSpecialIfBound? (.ref x) "__ne__" args) Q E s := by
  simp only [callSpecialIfBound?, bindSpecialIfBound?]
  refine wpAny_holding (wpAny_bind (wpAny_bind (wpAny_bind (I.type.here ((PySem.W.looks_findIn X hs).here ?_)))))
  refine wpAny_bind (wpAny_askSetting (wpAny_ite ?_))
  simp only [F.cmp_object.ne.bind]
  have fin : wpAny M A (call (.builtin "object.__ne__") ([.ref x] ++ args) >>= fun v => pure (some v)) Q E s := wpAny_bind (wpAny_mono h (fun v s' h' => wpAny_pure h') fun _ _ h' => h')
  split
  · exact wpAny_bind (wpAny_pure (wpAny_pure (by exact fin)))
  · exact wpAny_tryCatch (wpAny_bind (wpAny_pure (wpAny_pure (by exact fin))))
theorem ne_body {Q : Fin → Shared → Prop} (hu : A.units < cLine) (X : K.In s.heap) (I : PySem.W.InstAt s.heap x ox C od) (hs : PySem.W.findIn K (.ref C) "__eq__" = some (some (.ref f))) (hf : PySem.W.isFn K (.ref f) = true)
    (h : wpAny (model prog w) A (call (.ref f) [.ref x, b]) (fun v s' => ∃ k, v = .bool k ∧ Q (.done (.ret (.bool (!k)))) s') E s) : wpAny (model prog w) A (Builtin.«object.__ne__» ⟨[.ref x, b], []⟩) Q E s := by
  unfold Builtin.«object.__ne__»
  repeat (first
    | with_reducible refine wpAny_cRoomFor hu ?_
    | (refine wpAny_bind (m := callSpecialIfBound? (.ref x) (Str.ofString "__eq__") [b])
        (PySem.W.ifBound_K X I hs hf (wpAny_mono h (fun r s' hr => by
          obtain ⟨k, rfl, hq⟩ := hr
          repeat (first | exact hq | exact wpAny_pure hq | exact wpAny_truthy_bool hq | (refine wpAny_bind (m := truthy (.bool _)) (wpAny_truthy_bool ?_)) | wp_step)) fun _ _ e => e)))
    | wp_step)
theorem cmp_ne {Q : Value → Shared → Prop} (hu : A.units < cLine) (hu1 : A.in1.units < cLine) (X : K.In s.heap) (I : PySem.W.InstAt s.heap x ox C od) (hb : PySem.W.Looks (model prog w) s.heap (typeOf b) tb) (hn : PySem.W.notFirst K C tb = true)
    (o : NeO K C) (hs : PySem.W.findIn K (.ref C) "__eq__" = some (some (.ref f))) (hf : PySem.W.isFn K (.ref f) = true)
    (h : wpAny (model prog w) A.in1 (call (.ref f) [.ref x, b]) (fun v s' => ∃ k, v = .bool k ∧ Q (.bool (!k)) s') E s) : wpAny (model prog w) A (richCompare .NotEq (.ref x) b) Q E s := by
  have one : wpAny (model prog w) A (tryCompare (.ref x) (cmpInfo .NotEq).2.1 b) (fun r s' => ∃ v, r = some v ∧ Q v s') E s := by
    unfold tryCompare
    refine wpAny_bind (bound_ne X I o.ne (wpAny_call (codeAny_call_builtin F.cmp_object.ne.plain F.cmpEntry_ne
      (PySem.W.check_slot F.cmpKind_ne F.cmpSplit_ne (I.type.andThen (PySem.W.looks_mroIn X o.ob)) (F.cmpArgs_ne _ _) (ne_body (A := A.in1) hu1 X I hs hf (wpAny_mono h (fun v s' hv => ?_) fun _ _ e => e))))))
    obtain ⟨k, rfl, hq⟩ := hv
    exact ⟨k, rfl, wpAny_pure ⟨_, rfl, hq⟩⟩
  unfold richCompare
  simp only [oneThing_ref]
  refine wpAny_holding (wpAny_bind (wpAny_cRoomFor hu ?_))
  refine wpAny_bind (I.type.here (wpAny_bind (hb.here ?_)))
  split
  · rename_i q
    have e : PySem.W.subIn K tb (.ref C) = some false := by
      rcases Bool.or_eq_true_iff.mp hn with e | e
      · rw [beq_iff_eq.mp e] at q; simp at q
      · exact beq_iff_eq.mp e
    refine wpAny_bind ((PySem.W.looks_subIn X e).here ?_)
    simp only [Bool.false_eq_true, if_false]
    refine wpAny_bind (wpAny_mono one (fun r s' z => ?_) fun _ _ e => e)
    obtain ⟨v, rfl, hq⟩ := z
    exact wpAny_pure hq
  · refine wpAny_bind (wpAny_pure ?_)
    simp only [Bool.false_eq_true, if_false]
    refine wpAny_bind (wpAny_mono one (fun r s' z => ?_) fun _ _ e => e)
    obtain ⟨v, rfl, hq⟩ := z
    exact wpAny_pure hq
end
section
variable {X : Cx} {CX : CXT} {C g : Addr} {n : Nat} {fd : FuncData} {ps : List Str} {sp : Sp} {E : XK}
theorem op_eqO (m : Meth X.K C "__eq__" g) (F : FnOk X.prog X.w X.K X.mg X.base CX n g fd ps sp) (hr : Room n X.A) (hb : Binds X.K fd ps []) (hx : Passes CX X E) : OpR X (compareOp .Eq) (rEqO X.K C sp E) := by
  intro pins s σ H x y v u Q I rx ry h
  obtain ⟨a, dx, fs, tb, rfl, ha, ty, hn, q⟩ := h
  cases (show v = Value.ref a from rx)
  obtain ⟨mA, J, _⟩ := ins_get I.hok ha
  obtain ⟨od, J, _⟩ := J.look
  obtain ⟨Pk, kit, hp, _⟩ := kit_of I ry ty
  obtain ⟨m', hF⟩ := I.fr
  show wpAny (model X.prog X.w) X.A (richCompare .Eq (.ref a) u) (EP X pins σ Q) X.xe s
  refine PySem.W.cmp_K (op := .Eq) (tb := tb) hr.units0 hF I.ok.mod.kin J (kit.ty _ _ I.kIn hp) hn m.at_ m.fn ?_
  refine wpAny_mono (run_fn (vs := [.ref a, y]) (dvs := []) F hr hb .nil hx I (.cons rfl (.cons ry .nil)) (show sp ([.ref a, y] ++ []) H _ E from q)) (fun w s' z => ?_) fun _ _ x => x
  obtain ⟨z', H', I', rz, b, rfl, qz⟩ := z
  cases (show w = Value.bool b from rz)
  exact ⟨.bl b, H', I', rfl, qz⟩
theorem op_neO (m : Meth X.K C "__eq__" g) (o : NeO X.K C) (F : FnOk X.prog X.w X.K X.mg X.base CX n g fd ps sp) (hr : Room (n + 1) X.A) (hb : Binds X.K fd ps []) (hx : Passes CX X E) : OpR X (compareOp .NotEq) (rNeO X.K C sp E) := by
  intro pins s σ H x y v u Q I rx ry h
  obtain ⟨a, dx, fs, tb, rfl, ha, ty, hn, q⟩ := h
  cases (show v = Value.ref a from rx)
  obtain ⟨mA, J, _⟩ := ins_get I.hok ha
  obtain ⟨od, J, _⟩ := J.look
  obtain ⟨Pk, kit, hp, _⟩ := kit_of I ry ty
  show wpAny (model X.prog X.w) X.A (richCompare .NotEq (.ref a) u) (EP X pins σ Q) X.xe s
  refine cmp_ne hr.units0 hr.in1.units0 I.kIn J (kit.ty _ _ I.kIn hp) hn o m.at_ m.fn ?_
  have r2 : Vals [V.ref a, y] [Value.ref a, u] := .cons rfl (.cons ry .nil)
  have hl := F.len _ _ _ _ q
  refine wpAny_call (codeAny_mono (F.run X.A.in1 X.stack s H ⟨[.ref a, u], []⟩ [.ref a, u] [.ref a, y] _ E hr.in1 I.env0.in1 (by
    have := hb s [.ref a, u] I.kIn (by simpa using hl)
    simpa using this) r2 q) fun r s' hq => ?_)
  cases r with
  | error e => exact hx pins σ H s e s' I hq
  | ok fl =>
    cases fl with
    | ret w =>
      obtain ⟨z', H', I', rz, b, rfl, qz⟩ := I.after hq
      cases (show w = Value.bool b from rz)
      exact ⟨b, rfl, .bl (!b), H', I', rfl, qz⟩
    | next => exact False.elim hq
    | brk => exact False.elim hq
    | cont => exact False.elim hq
end
section
variable {K : PySem.W.Frag} {μ : Mu} {P : D → Mu → Prop} {x y : D} {C : Addr} {gs : List (Str × D)} {tb : Value} {Ct : CT} {E : XK}
/-- a thing of the class at C -/
def InO (μ : Mu) (C : Addr) (x : D) : Prop := ∃ gs, x = .obj C gs ∨ ∃ k, x = .own k ∧ μ[k]? = some (.ins C gs)
theorem InO.get {G H : Hp} {al : List Addr} {v : V} (h : InO μ C x) (A : As K G H al μ) (r : Rp K G al v x) : ∃ a dx fs, v = .ref a ∧ H a = some (.ins C dx fs) := by
  obtain ⟨gs, rfl | ⟨k, rfl, hk⟩⟩ := h
  · cases r with
    | obj e rf => exact ⟨_, _, _, rfl, A.sub _ _ e⟩
  · obtain ⟨a, ha, ok⟩ := A.get hk
    cases r with
    | own e =>
      rw [ha] at e
      cases e
      obtain ⟨ga, dx, fs, hv, rf⟩ := ok
      exact ⟨_, _, _, rfl, hv⟩
theorem ro_eqO (hx : InO μ C x) (ht : TyDV K μ y tb) (hn : PySem.W.notFirst K C tb = true) (h : Ct [x, y] μ (fun z μ' => ∃ b, z = .bl b ∧ P (.bl b) μ') (fun _ _ _ => False)) : RO K (rEqO K C (spD K Ct) E) x y μ P := fun G H al v w A rx ry Q hQ => by
  obtain ⟨a, dx, fs, rfl, ha⟩ := hx.get A rx
  refine ⟨a, dx, fs, tb, rfl, ha, ht.tyx A ry, hn, G, al, [x, y], μ, _, _, A, .cons rx (.cons ry .nil), h, fun z d μ' G' H' al' n A' r p => ?_, XAg.none⟩
  obtain ⟨b, rfl, p⟩ := p
  cases r
  exact ⟨b, rfl, hQ _ _ μ' G' H' al' n A' (.bl b) p⟩
theorem ro_neO (hx : InO μ C x) (ht : TyDV K μ y tb) (hn : PySem.W.notFirst K C tb = true) (h : Ct [x, y] μ (fun z μ' => ∃ b, z = .bl b ∧ P (.bl (!b)) μ') (fun _ _ _ => False)) : RO K (rNeO K C (spD K Ct) E) x y μ P := fun G H al v w A rx ry Q hQ => by
  obtain ⟨a, dx, fs, rfl, ha⟩ := hx.get A rx
  refine ⟨a, dx, fs, tb, rfl, ha, ht.tyx A ry, hn, G, al, [x, y], μ, _, _, A, .cons rx (.cons ry .nil), h, fun z d μ' G' H' al' n A' r p => ?_, XAg.none⟩
  obtain ⟨b, rfl, p⟩ := p
  cases r
  exact ⟨b, rfl, hQ _ _ μ' G' H' al' n A' (.bl (!b)) p⟩
/-- two readings of an operation -/
def rOr (r r' : R2) : R2 := fun x y H Q => r x y H Q ∨ r' x y H Q
theorem op_or {X : Cx} {f : Value → Value → Sem Value} {r r' : R2} (h : OpR X f r) (h' : OpR X f r') : OpR X f (rOr r r') := by
  intro pins s σ H x y v u Q I rx ry q
  rcases q with q | q
  · exact h pins s σ H x y v u Q I rx ry q
  · exact h' pins s σ H x y v u Q I rx ry q
theorem ro_orL {r r' : R2} (h : RO K r x y μ P) : RO K (rOr r r') x y μ P := fun G H al v w A rx ry Q hQ => .inl (h G H al v w A rx ry Q hQ)
theorem ro_orR {r r' : R2} (h : RO K r' x y μ P) : RO K (rOr r r') x y μ P := fun G H al v w A rx ry Q hQ => .inr (h G H al v w A rx ry Q hQ)
end
end Dl
set_option Elab.async false
set_option linter.all false
set_option maxRecDepth 100000
/-! the top's run in pieces, the state behind each told -/
namespace Dl
open PySem PySem.W PySem.Calls PyProof.Rows HandSHeadRun
section
variable (st : SharedT → Thread → Option (SharedT × Thread)) (n0 : Nat) (ann : Option Value)
/-- so many steps, none of them the last one -/
def stepsF : Nat → SharedT → Thread → Option (SharedT × Thread)
  | 0, s, t => some (s, t)
  | m + 1, s, t => match through t with
    | true => none
    | false => match stepOk n0 ann t with
      | false => none
      | true => match st s t with
        | none => none
        | some (s2, t2) => frS s2 fun s2 => stepsF m s2 t2
/-- to the end of a piece of the text -/
def pieceF (b : Nat) : Nat → SharedT → Thread → Option (Flow × SharedT × Code × Pos)
  | 0, _, _ => none
  | m + 1, s, t => match endAt b t with
    | some f => some (f, s, t.code, t.pos)
    | none => match stepOk n0 ann t with
      | false => none
      | true => match st s t with
        | none => none
        | some (s2, t2) => frS s2 fun s2 => pieceF b m s2 t2
end
section
variable {tb : String → Option Builtin} {p : Program} {w : World} {n0 : Nat} {ann : Option Value}
theorem stepsF_ok : ∀ {m : Nat} {s s' : SharedT} {t t' : Thread}, stepsF (stepT (denote tb) p w) n0 ann m s t = some (s', t') → topGo tb p w n0 ann m s.abs t = some (s'.abs, t')
  | 0, _, _, _, _, h => by cases h; rfl
  | m + 1, s, s', t, t', h => by
    unfold stepsF at h
    unfold topGo
    cases e1 : through t with
    | true => rw [e1] at h; cases h
    | false =>
      cases e2 : stepOk n0 ann t with
      | false => rw [e1, e2] at h; cases h
      | true =>
        cases e3 : stepT (denote tb) p w s t with
        | none => rw [e1, e2, e3] at h; cases h
        | some r =>
          rw [e1, e2, e3] at h
          have h2 : (frS r.1 fun s2 => stepsF (stepT (denote tb) p w) n0 ann m s2 r.2) = some (s', t') := h
          rw [frS_eq] at h2
          have e4 := stepT_spec (s' := r.1) (t' := r.2) e3
          simp only [e4]
          exact stepsF_ok h2
theorem pieceF_ok {b : Nat} : ∀ {m : Nat} {s s' : SharedT} {t : Thread} {f : Flow} {c : Code} {q : Pos}, pieceF (stepT (denote tb) p w) n0 ann b m s t = some (f, s', c, q) → segRun tb p w n0 ann b m s.abs t = some (f, s'.abs, c, q)
  | 0, _, _, _, _, _, _, h => by cases h
  | m + 1, s, s', t, f, c, q, h => by
    unfold pieceF at h
    unfold segRun
    cases e1 : endAt b t with
    | some g => rw [e1] at h; cases h; rfl
    | none =>
      cases e2 : stepOk n0 ann t with
      | false => rw [e1, e2] at h; cases h
      | true =>
        cases e3 : stepT (denote tb) p w s t with
        | none => rw [e1, e2, e3] at h; cases h
        | some r =>
          rw [e1, e2, e3] at h
          have h2 : (frS r.1 fun s2 => pieceF (stepT (denote tb) p w) n0 ann b m s2 r.2) = some (f, s', c, q) := h
          rw [frS_eq] at h2
          have e4 := stepT_spec (s' := r.1) (t' := r.2) e3
          simp only [e4]
          exact pieceF_ok h2
end
/-- the step, by the library's twins -/
noncomputable abbrev stQ (p : Program) (w : World) : SharedT → Thread → Option (SharedT × Thread) := stepQ (denQ tabQ) p w
theorem stQ_eq (p : Program) (w : World) : stepT (denote treeTable) p w = stQ p w := by
  unfold stQ
  rw [stepQ_eq, denQ_eq, tabQ_eq]
abbrev cdOf (p : Program) (env : Env) : Code := .body (behindTheImports p) env
section
variable {p : Program} {w : World} {n0 : Nat} {ann : Option Value} {env : Env} {qp pos pos' : Pos} {S S' r : SharedT}
theorem cp_piece {a b m N : Nat} (h : pieceF (stQ p w) n0 ann 1 m S (piecesOf (((behindTheImports p).drop a).take b) env (cdOf p env) pos [topFrame qp]) = some (.next, S', cdOf p env, pos'))
    (k : topRun treeTable p w n0 ann N S'.abs (restOf ((behindTheImports p).drop (a + b)) env (cdOf p env) pos' [topFrame qp]) = some r.abs) :
    topRun treeTable p w n0 ann (m + N) S.abs (restOf ((behindTheImports p).drop a) env (cdOf p env) pos [topFrame qp]) = some r.abs := by
  rw [← stQ_eq] at h
  have z := piece_app (pieceF_ok h) (rest := (behindTheImports p).drop (a + b)) k
  rw [← List.drop_drop, List.take_append_drop] at z
  exact z
theorem cp_last {a m : Nat} (e : (behindTheImports p).drop a = []) (h : goF (stQ p w) n0 ann m S ⟨doneF .next, cdOf p env, pos, [topFrame qp]⟩ = some r) :
    topRun treeTable p w n0 ann m S.abs (restOf ((behindTheImports p).drop a) env (cdOf p env) pos [topFrame qp]) = some r.abs := by
  rw [← stQ_eq] at h
  rw [e]
  exact piece_nil (goF_ok h)
theorem cp_block {m N : Nat} (h : pieceF (stQ p w) n0 ann 1 m S (blockOf (behindTheImports p) env (cdOf p env) pos [topFrame qp]) = some (.next, S', cdOf p env, pos'))
    (k : topRun treeTable p w n0 ann N S'.abs (restOf ((behindTheImports p).drop 0) env (cdOf p env) pos' [topFrame qp]) = some r.abs) :
    topRun treeTable p w n0 ann (m + N) S.abs ⟨denote treeTable (cdOf p env), cdOf p env, pos, [topFrame qp]⟩ = some r.abs := by
  rw [← stQ_eq] at h
  exact piece_block (pieceF_ok h) k
theorem cp_pre {m N : Nat} {t : Thread} (h : stepsF (stQ p w) n0 ann m S t = some (S', ⟨denQ tabQ (cdOf p env), cdOf p env, pos, [topFrame qp]⟩))
    (k : topRun treeTable p w n0 ann N S'.abs ⟨denote treeTable (cdOf p env), cdOf p env, pos, [topFrame qp]⟩ = some r.abs) : topRun treeTable p w n0 ann (m + N) S.abs t = some r.abs := by
  rw [← stQ_eq] at h
  have e : denQ tabQ (cdOf p env) = denote treeTable (cdOf p env) := by rw [denQ_eq, tabQ_eq]
  rw [e] at h
  exact go_top (stepsF_ok h) k
end
/-- the top, told by its end -/
structure TopEnd (r : OpenRow) (q : Program) (loose : List PySem.Str) (H : Hook) (ob : SharedT → H.α) (M : Nat) (w : World) (os : OsState) (s : SharedT) : Prop where
  run : topRun treeTable r.prog w (boot_heap w.params).objs.size (bootAnn w) M ⟨boot_heap w.params, #[], boot_drawn, boot_toks, os⟩ (topStub r.prog) = some s.abs
  l1 : looksF r.prog (boot_heap w.params) s.abs = true
  l2 : seenQ q loose (importedModules r.prog.main.body) (fun s => xlAt q [] s && recOk r.toRowW.records s) s.abs = openGood q loose
  l3 : ob s = H.val w
theorem cp_boot {p : Program} {w : World} {os : OsState} {T : BT} {n N : Nat} {r : SharedT} (e : putAll (boot_heap w.params).objs.toList .nil 0 = some (T, n))
    (k : topRun treeTable p w n (bootAnn w) N (bootT w os (T, n)).abs (topStub p) = some r.abs) :
    topRun treeTable p w (boot_heap w.params).objs.size (bootAnn w) N ⟨boot_heap w.params, #[], boot_drawn, boot_toks, os⟩ (topStub p) = some r.abs := by
  have eh := putAll_heap e
  have en : n = (boot_heap w.params).objs.size := by
    rw [← eh]
    exact (absHeap_size T n _).symm
  subst en
  have eb : (bootT w os (T, (boot_heap w.params).objs.size)).abs = ⟨boot_heap w.params, #[], boot_drawn, boot_toks, os⟩ := by
    unfold bootT SharedT.abs
    rw [eh]
  rw [eb] at k
  exact k
theorem cp_mono {p : Program} {w : World} {n0 : Nat} {ann : Option Value} {N M : Nat} {s r : Shared} {t : Thread} (le : Nat.ble N M = true) (k : topRun treeTable p w n0 ann N s t = some r) : topRun treeTable p w n0 ann M s t = some r := by
  have z := topRun_mono (M - N) N s t r k
  have := Nat.le_of_ble_eq_true le
  rw [Nat.add_sub_cancel' this] at z
  exact z
theorem left_cp {p q : Program} {loose : List PySem.Str} {Xt : Shared → Bool} {α : Type} {Yf : Shared → α} {Ya : World → α} {N M : Nat}
    (e : opening p = plainProg p.main.scope.names) (hN : Nat.ble 600 N = true) (f : ∀ s, fenceModules? p s = some s) (le : Nat.ble M N = true)
    (run : ∀ (w : World) (os : OsState), ∃ s : SharedT, topRun treeTable p w (boot_heap w.params).objs.size (bootAnn w) M ⟨boot_heap w.params, #[], boot_drawn, boot_toks, os⟩ (topStub p) = some s.abs ∧ looksF p (boot_heap w.params) s.abs = true ∧ openSeen q loose (importedModules p.main.body) Xt true s.abs = openGood q loose ∧ Yf s.abs = Ya w) : LeftO p q loose Xt Yf Ya N true := by
  intro w
  obtain ⟨⟨h, gs, d, k, os⟩, a, a'⟩ := Option.map_eq_some_iff.mp (boot_open e hN f w)
  have a4 : h = boot_heap w.params ∧ gs = Array.mk [] ∧ d = boot_drawn ∧ k = boot_toks := by simpa using a'
  obtain ⟨rfl, rfl, rfl, rfl⟩ := a4
  obtain ⟨s, r, z1, z2, z3⟩ := run w os
  have r2 := cp_mono le r
  have top : topFrom treeTable p w N ⟨boot_heap w.params, Array.mk [], boot_drawn, boot_toks, os⟩ = some s.abs := by
    unfold topFrom
    dsimp only
    rw [boot_ns]
    have r3 : topRun treeTable p w (boot_heap w.params).objs.size ((boot_heap w.params).nsMap mainGlobals "__annotations__") N ⟨boot_heap w.params, Array.mk [], boot_drawn, boot_toks, os⟩ (topStub p) = some s.abs := r2
    have z4 : (staticsOk (importedModules p.main.body) (boot_heap w.params) s.abs.heap && namesBound p s.abs.heap && gensDone s.abs && laidKept (boot_heap w.params) s.abs.heap) = true := z1
    have r4 : ∀ k : Shared → Option Shared, (topRun treeTable p w (boot_heap w.params).objs.size ((boot_heap w.params).nsMap mainGlobals "__annotations__") N ⟨boot_heap w.params, Array.mk [], boot_drawn, boot_toks, os⟩ (topStub p)).bind k = k s.abs := fun k => by rw [r3]; rfl
    refine (r4 _).trans ?_
    rw [z4]
  unfold openEnds
  rw [a]
  show (topFrom treeTable p w N _).map _ = _
  rw [top]
  exact congrArg some (Prod.ext z2 z3)
theorem head_cp {r : OpenRow} {q : Program} {H : Hook} {ob : SharedT → H.α} {M : Nat} {loose : List PySem.Str} {d : DefRec} {kwd : List (PySem.Str × PySem.Expr)} (ho : ∀ s : SharedT, ob s = H.obs s.abs)
    (e : opening r.prog = plainProg r.prog.main.scope.names) (f : ∀ s, fenceModules? r.prog s = some s) (run : ∀ w os, ∃ s, TopEnd r q loose H ob M w os s)
    (hdef : defOf q r.name = some (d, kwd)) (hp : r.prog.theDef r.name = some (d.params, d.body, d.scope)) (hk : kwWritten? d.params.kwonlyargs d.params.kw_defaults = some kwd)
    (hwr : (!r.writes || r.records.isEmpty) = true) (k1 : r.wellSaid = true) (ok : (chainsOk q && opensWell r.prog && (frees r.toRowW && r.within.isEmpty)) = true) (hb : r.prog.bare) (hw : r.toRowW.promised)
    (call : WalkO q loose (XL q []) H.says r.toRowW d kwd fun f vs => PySem.call f vs) : r.Holds := by
  have left : LeftO r.prog q loose (fun s => xlAt q [] s && recOk r.toRowW.records s) H.obs H.val (M + 600) true := by
    refine left_cp (M := M) e (Nat.ble_eq_true_of_le (by omega)) f (Nat.ble_eq_true_of_le (by omega)) fun w os => ?_
    obtain ⟨s, z⟩ := run w os
    refine ⟨s, z.run, z.l1, ?_, (ho s).symm.trans z.l3⟩
    rw [seenQ_eq]
    exact z.l2
  exact holds_open (r := r) (q := q) (loose := loose) (XP := XL q []) (YP := H.says) (d := d) (kwd := kwd) left H.of H.keeps (fun s z => xl_of s (Bool.and_eq_true_iff.mp z).1) XL.keeps hdef hp hk (fun s z => recFacts_of (Bool.and_eq_true_iff.mp z).2) hwr k1 ok hb hw call
end Dl
namespace Dl
open PySem PySem.W L2
/-! words for the states -/
abbrev vi (i : Int) (t : Nat) : Value := .int i t
abbrev vs (x : String) (t : Nat) : Value := .str (Str.ofString x) t
abbrev vr (a : Nat) : Value := .ref a
abbrev vt (x : String) : Value := .type x
abbrev vb (x : String) : Value := .builtin x
abbrev vn : Value := .none
abbrev ob_tu (l : List Value) : Obj := ⟨.type "tuple", none, .seq l.toArray 0, #[]⟩
abbrev ob_co (l : List Value) : Obj := ⟨.type "code", none, .fields l.toArray, #[]⟩
abbrev ob_fi (c : Value) (l : List Value) : Obj := ⟨c, none, .fields l.toArray, #[]⟩
abbrev en (P : Params) (x : String) (t : Nat) (v : Value) : DictEntry := ⟨PyData.keyHash P (Str.ofString x), .str (Str.ofString x) t, v⟩
abbrev ob_di (l : List DictEntry) (n : Nat) : Obj := ⟨.type "dict", none, .dict l.toArray n, #[]⟩
abbrev ob_fu (c : Value) (s : Stmt) (x q : String) (g : Addr) (df kd dc md : Value) (an : Option Addr) (cd ct : Value) : Obj :=
  ⟨c, none, .func { name := Str.ofString x, qualname := Str.ofString q, params := defArgs s, body := .stmts (defBody s), scope := defScope s, globals := g, closure := [], defaults := df, kwdefaults := kd, doc := dc, pyModule := md, annotations := an, code := cd, closureTuple := ct, builtins := 0 }, #[]⟩
abbrev bn (o : Obj) (l r : BT) : BT := .node o l r
abbrev bz : BT := .nil
noncomputable abbrev stA' (T : Params → BT) (n toks : Nat) (w : World) (os : OsState) : SharedT := ⟨T w.params, n, (boot_heap w.params).life, #[], boot_drawn, toks, os⟩
end Dl
set_option Elab.async false
set_option linter.all false
set_option maxRecDepth 100000
/-! l.count(x), l.index(x) over data -/
namespace L2
open PySem PySem.Spec PyProof.Rows
section
variable {X : Cx}
def rCntD (K : PySem.W.Frag) : V → List V → Hp → VK → Prop := fun x xs H Q => ∃ (a : Addr) (y : V) (d : PyData) (ds : List PyData), x = V.ref a ∧ xs = [y] ∧ Dp K H (V.ref a) (.list ds) ∧ Dp K H y d ∧ SeqAt.shaped (.list ds) = true ∧ SeqAt.shaped d = true ∧ Q (.int (ds.countP (fun z => PyData.eqv z d) : Nat)) H
theorem mt_countD (hu : X.A.units + 65 < cLine) : MtR X "list.count" (rCntD X.K) := by
  intro pins s σ H x xs v us Q I rx rxs h
  obtain ⟨a, y, d, ds, rfl, rfl, hl, hy, sl, sd, q⟩ := h
  cases rx
  cases rxs with
  | cons ry rt =>
    rename_i uy ut
    cases rt
    obtain ⟨bs, r1⟩ := Dp.reads I d y uy hy ry
    have hxs : PyData.canLayAll0 ds = true := SeqAt.canLay_of_shaped sl
    have hroom : X.A.units + 1 + min (PyData.depthAll ds) d.depth < cLine := room_in_shaped sd hu
    cases hl with
    | lst hs ha =>
      obtain ⟨its, rv, ⟨⟨cls, dd, data, sls⟩, n, ho, hc, hdn, hdt⟩, hlen⟩ := I.list hs
      simp only at hc hdt
      subst hc hdt
      obtain ⟨as, h4⟩ := Dp.readsAll I ds _ its ha rv
      have hmap : its.map (SeqAt.readOf s.heap) = ds := SeqAt.readsAll_map ds its as hxs h4
      refine call_meets PySem.F.slot_list_count ⟨_, ho, rfl⟩ PySem.F.entry_list_count (PySem.F.args_list_count_2 _ _) (SeqAt.list_countAt a its.toArray n dd sls uy (fun u => PyData.eqv (SeqAt.readOf s.heap u) d))
        ⟨ho, SeqAt.items_eqAt (vs := its.toArray) (show ReadsAll s.heap its.toArray.toList ds as from h4) r1 hxs (SeqAt.canLay_of_shaped sd) hroom, ?_⟩
      refine ⟨.int (ds.countP (fun z => PyData.eqv z d) : Nat), H, I.tok _, ⟨s.toks, ?_⟩, q⟩
      show Value.int ((its.toArray.toList.countP (fun u => PyData.eqv (SeqAt.readOf s.heap u) d) : Nat) : Int) s.toks = _
      have e : its.toArray.toList.countP (fun u => PyData.eqv (SeqAt.readOf s.heap u) d) = ds.countP (fun z => PyData.eqv z d) := by
        rw [← hmap, List.countP_map]
        rfl
      rw [e]
end
end L2
namespace Dl
open PySem L2 PyProof.Rows
theorem pyL_map (ds : List D) : pyL ds = ds.map D.py := by
  induction ds with
  | nil => rfl
  | cons d ds ih => unfold pyL; rw [ih]; rfl
/-- a list told, as it is read -/
theorem rm_countD {K : PySem.W.Frag} {μ : Mu} {P : D → Mu → Prop} {x y d : D} {ds : List D} {n m : Nat} (hl : Fz μ x (.lst ds)) (hy : Fz μ y d) (h1 : shpL ds n = true) (h2 : d.shp m = true) (h : P (.int (ds.countP (fun z => eqvD z d) : Nat)) μ) (hn : n ≤ 63 := by decide) (hm : m ≤ 64 := by decide) : RM K (rCntD K) x [y] μ P := fun G H al v vs A r rs Q hQ => by
  obtain ⟨z, rfl, rz⟩ := rps1 rs
  have hs : (D.lst ds).shp (n + 1) = true := by unfold D.shp; simp [h1]
  have q := hl.dp A hs r
  have q2 := hy.dp A h2 rz
  have e : (D.lst ds).py = .list (ds.map D.py) := by unfold D.py; rw [pyL_map]
  have hr : ∃ a, v = V.ref a := by
    cases hl with
    | id => cases r with | lst e rs => exact ⟨_, rfl⟩
    | own hk => cases r with | own e => exact ⟨_, rfl⟩
  obtain ⟨a, rfl⟩ := hr
  refine ⟨a, z, d.py, ds.map D.py, rfl, rfl, by rw [← e]; exact q, q2, by rw [← e]; exact shaped_of (by omega) hs, shaped_of hm h2, ?_⟩
  have ec : (ds.map D.py).countP (fun w => PyData.eqv w d.py) = ds.countP (fun z => eqvD z d) := by
    rw [List.countP_map]
    rfl
  rw [ec]
  exact hQ.now A (.int _) h
theorem rm_indexD {K : PySem.W.Frag} {μ : Mu} {P : D → Mu → Prop} {x y d : D} {ds : List D} {n m j : Nat} {e0 : D} (hl : Fz μ x (.lst ds)) (hy : Fz μ y d) (h1 : shpL ds n = true) (h2 : d.shp m = true) (hj : ds[j]? = some e0) (he : eqvD e0 d = true) (hno : ∀ (i : Nat) (z : D), i < j → ds[i]? = some z → eqvD z d = false) (h : P (.int (j : Nat)) μ) (hn : n ≤ 63 := by decide) (hm : m ≤ 64 := by decide) : RM K (rIndexD K) x [y] μ P := fun G H al v vs A r rs Q hQ => by
  obtain ⟨z, rfl, rz⟩ := rps1 rs
  have hs : (D.lst ds).shp (n + 1) = true := by unfold D.shp; simp [h1]
  have q := hl.dp A hs r
  have q2 := hy.dp A h2 rz
  have e : (D.lst ds).py = .list (ds.map D.py) := by unfold D.py; rw [pyL_map]
  have hr : ∃ a, v = V.ref a := by
    cases hl with
    | id => cases r with | lst e rs => exact ⟨_, rfl⟩
    | own hk => cases r with | own e => exact ⟨_, rfl⟩
  obtain ⟨a, rfl⟩ := hr
  refine ⟨a, z, d.py, ds.map D.py, j, e0.py, rfl, rfl, by rw [← e]; exact q, q2, by rw [← e]; exact shaped_of (by omega) hs, shaped_of hm h2, by rw [List.getElem?_map, hj]; rfl, he, fun i z' hi hz => ?_, hQ.now A (.int _) h⟩
  rw [List.getElem?_map] at hz
  cases e2 : ds[i]? with
  | none => rw [e2] at hz; cases hz
  | some w =>
    rw [e2] at hz
    cases hz
    exact hno i w hi e2
end Dl
set_option Elab.async false
set_option linter.all false
set_option maxRecDepth 100000
namespace Dl
open PySem L2 PyProof.Rows
/-! ### looked at as it is now, however deep -/
inductive Al2 (R : D → D → Prop) : List D → List D → Prop
  | nil : Al2 R [] []
  | cons {x d : D} {xs ds : List D} : R x d → Al2 R xs ds → Al2 R (x :: xs) (d :: ds)
theorem Al2.refl {R : D → D → Prop} (h : ∀ x, R x x) : ∀ xs : List D, Al2 R xs xs
  | [] => .nil
  | x :: xs => .cons (h x) (Al2.refl h xs)
theorem Al2.app {R : D → D → Prop} : ∀ {xs ds ys es : List D}, Al2 R xs ds → Al2 R ys es → Al2 R (xs ++ ys) (ds ++ es)
  | _, _, _, _, .nil, h => h
  | _, _, _, _, .cons a b, h => .cons a (b.app h)
/-- to a depth -/
def FzN (μ : Mu) : Nat → D → D → Prop
  | 0, x, d => x = d
  | n + 1, x, d => x = d ∨ (∃ k xs ds, x = .own k ∧ d = .lst ds ∧ μ[k]? = some (.lst xs) ∧ Al2 (FzN μ n) xs ds) ∨ (∃ xs ds, x = .tup xs ∧ d = .tup ds ∧ Al2 (FzN μ n) xs ds) ∨ (∃ xs ds, x = .lst xs ∧ d = .lst ds ∧ Al2 (FzN μ n) xs ds)
theorem FzN.id {μ : Mu} : ∀ {n : Nat} (d : D), FzN μ n d d
  | 0, _ => rfl
  | _ + 1, _ => .inl rfl
theorem al2_dp {K : PySem.W.Frag} {G H : Hp} {al : List Addr} {R : D → D → Prop} (h : ∀ {v : V} {x d : D} {n : Nat}, R x d → d.shp n = true → Rp K G al v x → Dp K H v d.py) : ∀ {vs : List V} {xs ds : List D} {n : Nat}, Al2 R xs ds → shpL ds n = true → Rps K G al vs xs → DpAll K H vs (pyL ds)
  | _, _, _, _, .nil, _, .nil => by unfold pyL; exact .nil
  | _, _, _, n, .cons a b, hs, .cons r t => by
    unfold pyL; unfold shpL at hs; simp at hs
    exact .cons (h a hs.1 r) (al2_dp h b hs.2 t)
theorem FzN.dp {K : PySem.W.Frag} {G H : Hp} {al : List Addr} {μ : Mu} (A : As K G H al μ) : ∀ {q : Nat} {v : V} {x d : D} {n : Nat}, FzN μ q x d → d.shp n = true → Rp K G al v x → Dp K H v d.py
  | 0, _, _, _, _, h, hs, r => by
    cases h
    exact dp_of A.sub hs r
  | q + 1, v, x, d, n, h, hs, r => by
    rcases h with rfl | ⟨k, xs, ds, rfl, rfl, hk, hl⟩ | ⟨xs, ds, rfl, rfl, hl⟩ | ⟨xs, ds, rfl, rfl, hl⟩
    · exact dp_of A.sub hs r
    · obtain ⟨a, ha, ga, ws, hv, rw'⟩ := A.get hk
      cases r with
      | own e =>
        rw [ha] at e; cases e
        unfold D.py; unfold D.shp at hs; simp at hs
        exact .lst (.inl (.inl hv)) (al2_dp (fun a b c => FzN.dp A a b c) hl hs.2 rw')
    · cases r with
      | tup e r =>
        unfold D.py; unfold D.shp at hs; simp at hs
        exact .tup (.inl (.inl (A.sub _ _ e))) (al2_dp (fun a b c => FzN.dp A a b c) hl hs.2 r)
    · cases r with
      | lst e r =>
        unfold D.py; unfold D.shp at hs; simp at hs
        exact .lst (.inl (.inl (A.sub _ _ e))) (al2_dp (fun a b c => FzN.dp A a b c) hl hs.2 r)
end Dl
set_option Elab.async false
set_option linter.all false
set_option maxRecDepth 100000
namespace L2
open PySem
end L2
namespace Dl
open PySem L2 PyProof.Rows
theorem rs_anyS {K : PySem.W.Frag} {μ : Mu} {P : D → Mu → Prop} {z : Str} {lo hi : Option Int} (hz : z.length ≤ 100000) (h : P (.str (cutS z lo hi)) μ) : RS K (rSlA K) (.str z) lo hi μ P := fun G H al v A r Q hQ => by
  cases r
  exact .inr (.inl ⟨z, rfl, Nat.le_trans hz (by decide), hQ.now A (.str _) h⟩)
theorem strOk_iff {s : Str} : PyData.strOk s = true ↔ ∀ c ∈ s.cps.toList, c < 1114112 := by
  unfold PyData.strOk
  rw [Array.all_eq_true']
  simp
end Dl
set_option Elab.async false
set_option linter.all false
set_option maxRecDepth 100000
/-! dicts with tuple keys -/
namespace Dl
open PySem PySem.Spec PyProof.Rows L2
/-! ### .. over data -/
/-! ### a dict with tuple keys stands locked while it is walked -/
section
variable {K : PySem.W.Frag} {G G' : Hp} {al al' : List Addr} {a : Addr}
def Un (G G' : Hp) (a : Addr) : Prop := (∃ o kvs, G a = some (.frz o (.dT kvs))) ∧ ∀ b, b ≠ a → G' b = G b
theorem Un.plain (s : Un G G' a) {b : Addr} {o : HO} (h : G b = some o) (n : ∀ o' kvs, o ≠ .frz o' (.dT kvs)) : G' b = some o := by
  obtain ⟨⟨o1, kvs, e⟩, u⟩ := s
  rw [u b fun z => by rw [z, e] at h; cases h; exact n _ _ rfl]
  exact h
theorem Un.rd (s : Un G G' a) {b : Addr} {kvs : List (Key × V)} (h : Rd G b (.dK kvs)) : Rd G' b (.dK kvs) := by
  rcases h with h | ⟨o, h⟩
  · exact .inl (s.plain h fun _ _ => nofun)
  · exact .inr ⟨o, s.plain h fun _ _ => nofun⟩
theorem Un.sql (s : Un G G' a) {b : Addr} {xs : List V} (h : SqL K G b xs) : SqL K G' b xs := by
  rcases h with (h | ⟨o, h⟩) | h
  · exact .inl (.inl (s.plain h fun _ _ => nofun))
  · exact .inl (.inr ⟨o, s.plain h fun _ _ => nofun⟩)
  · exact .inr h
theorem Un.sqt (s : Un G G' a) {b : Addr} {xs : List V} (h : SqT K G b xs) : SqT K G' b xs := by
  rcases h with (h | ⟨o, h⟩) | h
  · exact .inl (.inl (s.plain h fun _ _ => nofun))
  · exact .inl (.inr ⟨o, s.plain h fun _ _ => nofun⟩)
  · exact .inr h
mutual
theorem Rp.un (s : Un G G' a) : ∀ {v : V} {d : D}, Rp K G al v d → Rp K G' al v d
  | _, _, .non => .non
  | _, _, .bl b => .bl b
  | _, _, .int i => .int i
  | _, _, .str x => .str x
  | _, _, .ty x => .ty x
  | _, _, .tup h r => .tup (s.plain h fun _ _ => nofun) (Rps.un s r)
  | _, _, .lst h r => .lst (s.plain h fun _ _ => nofun) (Rps.un s r)
  | _, _, .rdl h r => .rdl (s.sql h) (Rps.un s r)
  | _, _, .rdt h r => .rdt (s.sqt h) (Rps.un s r)
  | _, _, .obj h r => .obj (s.plain h fun _ _ => nofun) (Rpf.un s r)
  | _, _, .dct h r => .dct (s.rd h) (Rpk.un s r)
  | _, _, .own h => .own h
  | _, _, .loc a => .loc a
  | _, _, .exc h hd r => .exc (s.plain h fun _ _ => nofun) (hd.imp id fun ⟨dx, e, g⟩ => ⟨dx, e, s.plain g fun _ _ => nofun⟩) (Rpf.un s r)
theorem Rps.un (s : Un G G' a) : ∀ {v : List V} {d : List D}, Rps K G al v d → Rps K G' al v d
  | _, _, .nil => .nil
  | _, _, .cons h r => .cons (Rp.un s h) (Rps.un s r)
theorem Rpf.un (s : Un G G' a) : ∀ {v : List (Str × V)} {d : List (Str × D)}, Rpf K G al v d → Rpf K G' al v d
  | _, _, .nil => .nil
  | _, _, .cons h r => .cons (Rp.un s h) (Rpf.un s r)
theorem Rpk.un (s : Un G G' a) : ∀ {v : List (Key × V)} {d : List (Key × D)}, Rpk K G al v d → Rpk K G' al v d
  | _, _, .nil => .nil
  | _, _, .cons h r => .cons (Rp.un s h) (Rpk.un s r)
end
theorem RpS.un (s : Un G G' a) {σ : L2.St} {ρ : En} (h : RpS K G al σ ρ) : RpS K G' al σ ρ := ⟨h.1, fun i d e => by
  obtain ⟨v, e2, r⟩ := h.2 i d e
  exact ⟨v, e2, r.un s⟩⟩
theorem OkO.un {H H' : Hp} {b : Addr} {o : MO} (s : Un G G' a) (hb : b ≠ a) (hh : H' b = H b) (h : OkO K G H al b o) : OkO K G' H' al b o := by
  have gb : G b = none → G' b = none := fun e => by rw [s.2 b hb]; exact e
  cases o with
  | dead => trivial
  | lst ds => obtain ⟨g, vs, e, r⟩ := h; exact ⟨gb g, vs, hh.trans e, r.un s⟩
  | ins C gs => obtain ⟨g, dx, vs, e, r⟩ := h; exact ⟨gb g, dx, vs, hh.trans e, r.un s⟩
  | dK gs => obtain ⟨g, vs, e, r⟩ := h; exact ⟨gb g, vs, hh.trans e, r.un s⟩
  | dT gs => obtain ⟨g, vs, e, k, r⟩ := h; exact ⟨gb g, vs, hh.trans e, k, r.un s⟩
  | tab p q => obtain ⟨g, ep, ps, e, k, r⟩ := h; exact ⟨gb g, ep, ps, hh.trans e, k, fun pos cv hc => let ⟨c, e1, e2⟩ := r pos cv hc; ⟨c, e1, s.plain e2 fun _ _ => nofun⟩⟩
end
end Dl
/-! d.get(None), d.pop(k), dict(d): dicts with tuple keys -/
/-! dicts with tuple keys, as data -/
namespace Dl
open PySem L2
section
variable {K : PySem.W.Frag} {G H : Hp} {al : List Addr}
theorem Rps.app {us vs : List V} {ds es : List D} (h : Rps K G al us ds) (h' : Rps K G al vs es) : Rps K G al (us ++ vs) (ds ++ es) := by
  induction ds generalizing us with
  | nil => cases h; exact h'
  | cons d ds ih => cases h with | cons r t => exact .cons r (ih t)
end
end Dl
/-! zip of two lists or two tuples; isinstance(x, (list, tuple)) -/
set_option Elab.async false
set_option linter.all false
set_option maxRecDepth 100000
/-! a tuple of texts that stands in a module -/
set_option Elab.async false
set_option linter.all false
set_option maxRecDepth 100000
/-! dicts with tuple keys: their keys walked -/
namespace Dl
open PySem PySem.Spec PyProof.Rows L2
theorem Al2.len {R : D → D → Prop} : ∀ {xs ds : List D}, Al2 R xs ds → xs.length = ds.length
  | _, _, .nil => rfl
  | _, _, .cons _ t => by simp [t.len]
theorem Al2.get {R : D → D → Prop} : ∀ {xs ds : List D}, Al2 R xs ds → ∀ {i : Nat} {x : D}, xs[i]? = some x → ∃ d, ds[i]? = some d ∧ R x d
  | _, _, .cons a t, 0, x, h => by cases h; exact ⟨_, rfl, a⟩
  | _, _, .cons a t, i + 1, x, h => t.get (by simpa using h)
end Dl
set_option Elab.async false
set_option linter.all false
set_option maxRecDepth 100000
/-! sorted(..) of data -/
namespace L2
open PySem PySem.Spec PyProof.Rows PySem.Calls
end L2
set_option Elab.async false
set_option linter.all false
set_option maxRecDepth 100000
/-! a method called with its two arguments by name, the other way about, in a try's body -/
set_option Elab.async false
set_option linter.all false
set_option maxRecDepth 100000
/-! try: .. with except clauses that keep no name -/
namespace L2
open PySem PySem.Spec PyProof.Rows
inductive HdsM (X : Cx) : List ExceptHandler → List (Value × TS) → Prop
  | nil : HdsM X [] []
  | cons {x : Str} {c : Value} {ts : TS} {b₀ : Stmt} {suite : List Stmt} {np pos' : Pos} {hds : List ExceptHandler} {l : List (Value × TS)} (hc : Names X x c)
      (hsu : ∀ (a : Addr) (pn : List (Addr × Obj)), PSs (X.suite a pn) (b₀ :: suite) ts) (r : HdsM X hds l) :
      HdsM X (.ExceptHandler (some (.Name x np)) none (b₀ :: suite) pos' :: hds) ((c, ts) :: l)
def many3 (l : List (Value × TS)) : List (Value × (Addr → Value → Option Addr → TS)) := l.map fun p => (p.1, fun _ _ _ => p.2)
theorem HdsM.ok {X : Cx} : ∀ {hds : List ExceptHandler} {l : List (Value × TS)}, HdsM X hds l → HdsOk X hds (many3 l)
  | _, _, .nil => .nil
  | _, _, .cons hc hsu r => .cons hc (fun a oe cls d pn _ _ => hsu a ((a, oe) :: pn)) r.ok
end L2
set_option Elab.async false
set_option linter.all false
set_option maxRecDepth 100000
/-! xs.insert(i, y) -/
set_option Elab.async false
set_option linter.all false
set_option maxRecDepth 100000
/-! dicts with tuple keys: sorted(d), d.pop(k) -/
namespace L2
open PySem PySem.Spec PyProof.Rows PySem.Calls
end L2
namespace L2.DX
open PySem PySem.Spec PyProof.Rows L2
end L2.DX
set_option Elab.async false
set_option linter.all false
set_option maxRecDepth 100000
/-! for k in reversed(range(n)) -/
set_option Elab.async false
set_option linter.all false
set_option maxRecDepth 100000
/-! texts: split, int(text), str of both, steps of two -/
namespace L2
open PySem
end L2
set_option Elab.async false
set_option linter.all false
set_option maxRecDepth 100000
/-! [G a for a in xs] told by what the data are of -/
set_option Elab.async false
set_option linter.all false
set_option maxRecDepth 100000
/-! len(x) of a thing whose class has its own __len__ -/
namespace L2
open PySem Builtin
end L2
set_option Elab.async false
set_option linter.all false
set_option maxRecDepth 100000
/-! text * int -/
namespace L2
open PySem PySem.Spec PyProof.Rows
end L2
set_option Elab.async false
set_option linter.all false
set_option maxRecDepth 100000
/-! a dict display that is frozen at once -/
set_option Elab.async false
set_option linter.all false
set_option maxRecDepth 100000
/-! a constructor called with keywords: the arguments in the parameters' order -/
namespace L2
open PySem PySem.Spec PyProof.Rows
/-- the values by keyword, put in the order of the parameters -/
def permL {α : Type} (perm : List Nat) (ws : List α) : List α := perm.filterMap fun i => ws[i]?
def gK (perm : List Nat) {α : Type} (us ws : List α) : List α := us ++ permL perm ws
def tPerm (n m : Nat) (perm : List Nat) (t tk : TA) : TA := fun σ H Q => t σ H fun vs H1 => tk σ H1 fun zs H2 => vs.length = n ∧ zs.length = m ∧ Q (vs ++ permL perm zs) H2
theorem vals_get : ∀ {vs : List V} {us : List Value}, Vals vs us → ∀ i : Nat, (vs[i]? = none ∧ us[i]? = none) ∨ ∃ v u, vs[i]? = some v ∧ us[i]? = some u ∧ RelV v u
  | _, _, .nil, i => .inl ⟨by simp, by simp⟩
  | _, _, .cons r t, 0 => .inr ⟨_, _, rfl, rfl, r⟩
  | _, _, .cons r t, i + 1 => by simpa using vals_get t i
theorem vals_perm {vs : List V} {us : List Value} (h : Vals vs us) : ∀ perm : List Nat, Vals (permL perm vs) (permL perm us)
  | [] => .nil
  | i :: perm => by
    unfold permL
    rcases vals_get h i with ⟨e1, e2⟩ | ⟨v, u, e1, e2, r⟩
    · rw [List.filterMap_cons_none e1, List.filterMap_cons_none e2]
      exact vals_perm h perm
    · rw [List.filterMap_cons_some e1, List.filterMap_cons_some e2]
      exact .cons r (vals_perm h perm)
section
variable {K : PySem.W.Frag} {x qual : Str} {params : Arguments} {body : List Stmt} {scope : Scope} {dvs : List V} {kws : List (Str × V)} {f : Addr} {fd : FuncData} {ps : List Str}
theorem kbn_non (F : FunD K x qual params body scope [] kws f fd) (n : Nat) (ks : List Str) (perm : List Nat)
    (h : ∀ (kV doc pm : Value) (an : Option Addr) (cdv ct : Value) (us ws : List Value), us.length = n → ws.length = ks.length → bindArgs (PySem.W.fnOf x qual params body scope .none kV doc pm an cdv ct) ⟨us, ks.zip ws⟩ = pure (ps.zip (gK perm us ws))) :
    KBn K fd ps n ks (gK perm) (gK perm) := by
  obtain ⟨oc, od, dV, kV, doc, pm, an, cdv, ct, osl, rfl, lk, hcd, hD, hK⟩ := F.ex
  rcases hD with ⟨_, rfl⟩ | ⟨e, _⟩
  · exact ⟨fun s us ws X l1 l2 => .of_eq (h kV doc pm an cdv ct us ws l1 l2), fun r1 r2 => r1.append (vals_perm r2 perm)⟩
  · exact absurd rfl e
theorem kbn_def (F : FunD K x qual params body scope dvs kws f fd) (hd : dvs ≠ []) (n : Nat) (ks : List Str) (perm : List Nat)
    (h : ∀ (T : Addr) (kV doc pm : Value) (an : Option Addr) (cdv ct : Value) (us its ws : List Value), us.length = n → its.length = dvs.length → ws.length = ks.length →
      ∃ k, bindArgs (PySem.W.fnOf x qual params body scope (.ref T) kV doc pm an cdv ct) ⟨us, ks.zip ws⟩ = seqItems? (.ref T) >>= k ∧ k (some its.toArray) = pure (ps.zip (gK perm us ws))) :
    KBn K fd ps n ks (gK perm) (gK perm) := by
  obtain ⟨its, hb⟩ := FunD.kbindsD F n ks (fun {α} us _ ws => gK perm (α := α) us ws) hd (fun r1 _ r3 => r1.append (vals_perm r3 perm)) h
  exact hb
end
section
variable {X : Cx} {CX : CXT} {k n : Nat} {f C : Addr} {fd : FuncData} {ps ks : List Str} {sp : Sp} {x : Str} {p pos : Pos} {e : Expr} {es : List Expr} {kws : List Keyword} {t tk : TA} {perm : List Nat}
theorem run_makeNS {E : L2.St → XK} {pins : List (Addr × Obj)} {σ : L2.St} {H : Hp} {s : Shared} {Q : VK} {us ws : List Value} {vs zs : List V} (M : Mk X.K C f) (F : FnOk X.prog X.w X.K X.mg X.base CX k f fd ps sp) (hr : Room (k + 1) X.A) (hb : KBn X.K fd ps (n + 1) ks (gK perm) (gK perm))
    (hx : PassesAt CX X σ (E σ)) (I : Inv X pins σ H s) (r : Vals vs us) (rz : Vals zs ws) (l1 : vs.length = n) (l2 : zs.length = ks.length)
    (h : ∀ x dx, H x = none → H dx = none → dx ≠ x → sp (.ref x :: (vs ++ permL perm zs)) (upd (upd H dx (.own x)) x (.ins C dx [])) (fun v H2 => v = .non ∧ Q (.ref x) H2) (E σ)) :
    wpAny (model X.prog X.w) X.A (call (.ref C) us (ks.zip ws)) (EP X pins σ Q) X.xe s := by
  have hq := h (s.heap.objs.size + 1) s.heap.objs.size (I.hok.fresh (Nat.le_succ _)) (I.hok.fresh (Nat.le_refl _)) (Nat.ne_of_lt (Nat.lt_succ_self _))
  have J := Inv.made (C := C) I
  have r1 : Vals (V.ref (s.heap.objs.size + 1) :: vs) (Value.ref (s.heap.objs.size + 1) :: us) := .cons rfl r
  have r2 := hb.rel r1 rz
  have e1 : (Value.ref (s.heap.objs.size + 1) :: us).length = n + 1 := r1.length.symm.trans (congrArg Nat.succ l1)
  have e2 : ws.length = ks.length := rz.length.symm.trans l2
  refine wpAny_call (make_map (f := f) I.kIn M.makes M.init (beq_iff_eq.mp M.fn) (codeAny_mono (F.run _ X.stack _ _ ⟨Value.ref (s.heap.objs.size + 1) :: us, ks.zip ws⟩ (gK perm (Value.ref (s.heap.objs.size + 1) :: us) ws) _ _ (E σ) (hr.make C us (ks.zip ws))
    (J.env0.make C us (ks.zip ws)) (hb.to _ (Value.ref (s.heap.objs.size + 1) :: us) ws J.kIn e1 e2) r2 hq) fun r s' hq' => ?_))
  cases r with
  | error e => exact hx pins _ _ e s' J hq'
  | ok fl =>
    cases fl with
    | ret u =>
      obtain ⟨v, H', J3, rv, ev, q3⟩ := J.after hq'
      cases ev
      exact ⟨rv, ⟨V.ref (s.heap.objs.size + 1), H', J3, rfl, q3⟩⟩
    | next => exact False.elim hq'
    | brk => exact False.elim hq'
    | cont => exact False.elim hq'
/-- C(e, .., k = v, ..) in a try's body -/
theorem pe_makeNS {E : L2.St → XK} (M : Mk X.K C f) (F : FnOk X.prog X.w X.K X.mg X.base CX k f fd ps sp) (hr : Room (k + 1) X.A) (hg : Gl X x) (hm : X.mg x = some (.ref C)) (hb : KBn X.K fd ps (n + 1) ks (gK perm) (gK perm)) (hx : ∀ σ, PassesAt CX X σ (E σ))
    (ha : PA X (e :: es) t) (hkw : PK X kws tk) (hall : (backToKw pos (keywordEach kws X.env)).all (·.1.isSome) = true := by rfl) (hks : (backToKw pos (keywordEach kws X.env)).filterMap (·.1) = ks := by rfl)
    (hdb : (x == ("__debug__" : Str)) = false := by decide) (he : starEach (e :: es) X.env = (false, eval e X.env) :: starEach es X.env := by rfl)
    (hpl : ((backTo pos (starEach (e :: es) X.env)).any (·.1) || (backToKw pos (keywordEach kws X.env)).any (·.1.isNone)) = false := by rfl) :
    PE X (.Call (.Name x p) (e :: es) kws pos) (Dl.tMakeS C sp [] E (tPerm n ks.length perm t tk)) := by
  refine ⟨fun pins s σ H Q I h => ?_⟩
  refine wpAny_Call_Name_kw (ld_glob I hg hm ?_ hdb)
  refine PySem.W.callWith_KW (h₀ := X.base) I.ok.mod.kin M.kp hall (thn (ha.run pos pins s σ H _ I h) fun us s1 ⟨vs, H1, I1, r, q⟩ => ?_) hpl he
  refine thn (hkw.run pos pins s1 σ H1 _ I1 q) fun ws s2 ⟨zs, H2, I2, rz, l1, l2, q2⟩ => ⟨I2.kIn, ?_⟩
  rw [hks]
  exact run_makeNS (E := E) M F hr hb (hx σ) I2 r rz l1 l2 fun x dx h1 h2 h3 => by
    have := q2 x dx h1 h2 h3
    rwa [List.append_nil] at this
/-- C(k = v, ..) in a try's body -/
theorem pe_makeNS0 {E : L2.St → XK} (M : Mk X.K C f) (F : FnOk X.prog X.w X.K X.mg X.base CX k f fd ps sp) (hr : Room (k + 1) X.A) (hg : Gl X x) (hm : X.mg x = some (.ref C)) (hb : KBn X.K fd ps 1 ks (gK perm) (gK perm)) (hx : ∀ σ, PassesAt CX X σ (E σ))
    (hkw : PK X kws tk) (hall : (backToKw pos (keywordEach kws X.env)).all (·.1.isSome) = true := by rfl) (hks : (backToKw pos (keywordEach kws X.env)).filterMap (·.1) = ks := by rfl)
    (hdb : (x == ("__debug__" : Str)) = false := by decide)
    (hpl : ((backTo pos (starEach [] X.env)).any (·.1) || (backToKw pos (keywordEach kws X.env)).any (·.1.isNone)) = false := by rfl) :
    PE X (.Call (.Name x p) [] kws pos) (Dl.tMakeS C sp [] E (tPerm 0 ks.length perm tNil tk)) := by
  refine ⟨fun pins s σ H Q I h => ?_⟩
  refine wpAny_Call_Name_kw (ld_glob I hg hm ?_ hdb)
  refine PySem.W.callWith_KW0 (h₀ := X.base) I.ok.mod.kin M.kp hall ?_ hpl
  refine thn (hkw.run pos pins s σ H _ I h) fun ws s2 ⟨zs, H2, I2, rz, l1, l2, q2⟩ => ⟨I2.kIn, ?_⟩
  rw [hks]
  exact run_makeNS (E := E) (us := []) (vs := []) M F hr hb (hx σ) I2 .nil rz rfl l2 fun x dx h1 h2 h3 => by
    have := q2 x dx h1 h2 h3
    rwa [List.append_nil] at this
end
end L2
namespace Dl
open PySem L2 PyProof.Rows
section
variable {K : PySem.W.Frag} {B : Bs} {ρ : En} {μ : Mu}
theorem rps_get {G : Hp} {al : List Addr} : ∀ {vs : List V} {ds : List D}, Rps K G al vs ds → ∀ i : Nat, (vs[i]? = none ∧ ds[i]? = none) ∨ ∃ v d, vs[i]? = some v ∧ ds[i]? = some d ∧ Rp K G al v d
  | _, _, .nil, i => .inl ⟨by simp, by simp⟩
  | _, _, .cons r t, 0 => .inr ⟨_, _, rfl, rfl, r⟩
  | _, _, .cons r t, i + 1 => by simpa using rps_get t i
theorem rps_perm {G : Hp} {al : List Addr} {vs : List V} {ds : List D} (h : Rps K G al vs ds) : ∀ perm : List Nat, Rps K G al (permL perm vs) (permL perm ds)
  | [] => .nil
  | i :: perm => by
    unfold permL
    rcases rps_get h i with ⟨e1, e2⟩ | ⟨v, u, e1, e2, r⟩
    · rw [List.filterMap_cons_none e1, List.filterMap_cons_none e2]
      exact rps_perm h perm
    · rw [List.filterMap_cons_some e1, List.filterMap_cons_some e2]
      exact .cons r (rps_perm h perm)
theorem da_perm {n m : Nat} {perm : List Nat} {ts tks : TA} {P : List D → Mu → Prop} (h : DA K B ts ρ μ fun ds μ1 => DA K B tks ρ μ1 fun es μ2 => ds.length = n ∧ es.length = m ∧ P (ds ++ permL perm es) μ2) : DA K B (tPerm n m perm ts tks) ρ μ P := fun σ G H al hB hσ hA Q hQ =>
  h σ G H al hB hσ hA _ fun vs ds μ1 G1 H1 al1 n1 A1 r1 p1 => p1 σ G1 H1 al1 (hB.trans n1) (hσ.nx n1) A1 _ fun zs es μ2 G2 H2 al2 n2 A2 r2 p2 =>
    ⟨by rw [r1.length]; exact p2.1, by rw [r2.length]; exact p2.2.1, hQ _ _ μ2 G2 H2 al2 (n1.trans n2) A2 ((r1.nx n2).append (rps_perm r2 perm)) p2.2.2⟩
end
end Dl
set_option Elab.async false
set_option linter.all false
set_option maxRecDepth 100000
namespace Dl
open PySem L2 PyProof.Rows
def topS (i : Nat) : Stmt := PySem.Challenge.pw_readround_k23_rows_known.main.body.getD i (.Pass ⟨0, 0, 0, 0⟩)
abbrev R : PySem.W.OpenRow := PySem.W.OpenLaw.row PySem.Challenge.rw_readround_k23_rows_known
noncomputable section
open PySem.W PySem.Calls HandSHeadRun
noncomputable def env0 : Env := { scope := R.prog.main.scope, locals := mainNs, globals := mainNs, cells := [], code := (vr 13), frame := some 14 }
def o11 : Obj := ob_tu []
def o12 : Obj := ob_fi vn []
def o13 : Obj := ob_co [(vs "<module>" 182), (vs "<module>" 183), (vs "/claim/cut.py" 184), (vi 1 0), (vi 0 0), (vi 0 0), (vi 0 0), (vi 0 0), (vr 11), (.bool false), (vi 181 0), (vr 12), vn, vn, vn, vn, (vi 185 0), (vi 1 0), (vs "/claim/cut.py" 186)]
def o14 : Obj := ⟨(vt "frame"), none, .plain, #[some (vr 13), some (vr 3), some (vr 3), none, some (vs "__main__" 164), none, some (vr 0)]⟩
def o3 (P : Params) : Obj := ob_di [en P "__name__" 165 (vs "readround.errors" 194), en P "__doc__" 166 vn, en P "__package__" 167 vn, en P "__loader__" 168 (vb "__main__.__loader__#opaque"), en P "__spec__" 169 vn, en P "__annotations__" 170 (vr 6), en P "__builtins__" 171 (vr 4), en P "__file__" 173 (vs "/claim/cut.py" 172), en P "__cached__" 174 vn, en P "_wall" 193 (vr 21), en P "ReadError" 213 (vr 31), en P "BadBook" 229 (vr 44), en P "BadCalendar" 245 (vr 56), en P "BadFeast" 261 (vr 68), en P "BadRow" 277 (vr 80), en P "BadHouse" 293 (vr 92), en P "BadNumber" 309 (vr 104)] 17
def o12_1 : Obj := ob_fi vn [(vi 1 0), (vi 0 0), (vr 20), (vi 5 0), (vi 0 0), (vr 27), (vi 7 0), (vi 0 0), (vr 40), (vi 9 0), (vi 0 0), (vr 52), (vi 11 0), (vi 0 0), (vr 64), (vi 13 0), (vi 0 0), (vr 76), (vi 15 0), (vi 0 0), (vr 88), (vi 17 0), (vi 0 0), (vr 100)]
def o15 : Obj := ob_tu []
def o16 : Obj := ob_fi vn []
def o17 : Obj := ob_tu [(vs "k" 190)]
def o18 : Obj := ob_tu []
def o19 : Obj := ob_fu vn (topS 0) "_wall" "_wall" 0 vn vn vn vn none vn vn
def o20 : Obj := ob_co [(vs "_wall" 187), (vs "_wall" 188), (vs "/claim/cut.py" 189), (vi 1 0), (vi 1 0), (vi 0 0), (vi 0 0), (vi 3 0), (vr 15), (.bool true), (vi 181 0), (vr 16), vn, (vr 17), (vr 18), (vr 19), (vi 191 0), (vi 1 0), (vs "/claim/cut.py" 192)]
def o21 : Obj := ob_fu (vt "function") (topS 0) "_wall" "_wall" 3 vn vn vn (vs "__main__" 164) none (vr 20) vn
def o22 : Obj := ob_tu [(vt "ValueError")]
def o23 : Obj := ob_fi (vt "builtin_function_or_method") [(vb "type.__prepare__"), (vt "type")]
def o24 (P : Params) : Obj := ob_di [en P "__module__" 203 (vs "readround.errors" 194), en P "__qualname__" 205 (vs "ReadError" 204), en P "__firstlineno__" 207 (vi 5 206), en P "__static_attributes__" 208 (vr 29)] 4
def o25 : Obj := ob_tu []
def o26 : Obj := ob_fi vn []
def o27 : Obj := ob_co [(vs "ReadError" 198), (vs "ReadError" 199), (vs "/claim/cut.py" 200), (vi 5 0), (vi 0 0), (vi 0 0), (vi 0 0), (vi 0 0), (vr 25), (.bool false), (vi 181 0), (vr 26), vn, vn, vn, vn, (vi 201 0), (vi 5 0), (vs "/claim/cut.py" 202)]
def o28 : Obj := ⟨(vt "frame"), none, .plain, #[some (vr 27), some (vr 3), some (vr 24), none, some (vs "readround.errors" 194), none, some (vr 0)]⟩
def o29 : Obj := ob_tu []
def o30 (P : Params) : Obj := ob_di [en P "__module__" 203 (vs "readround.errors" 194), en P "__firstlineno__" 207 (vi 5 206), en P "__static_attributes__" 208 (vr 29), en P "__weakref__" 210 (vr 32), en P "__doc__" 211 vn] 3
def o31 : Obj := ⟨(vt "type"), none, .cls (ClassData.mk (Str.ofString "ReadError") [(vt "ValueError")] [(vr 31), (vt "ValueError"), (vt "Exception"), (vt "BaseException"), (vt "object")] 30 (Str.ofString "ReadError") true [] [(vr 44), (vr 56), (vr 68), (vr 80), (vr 92), (vr 104)] false none false), #[some (vr 22), none, some (vs "ReadError" 196), some (vs "ReadError" 204), some (vb "ValueError.__new__"), some (.bool true)]⟩
def o32 : Obj := ob_fi (vt "getset_descriptor") [(vs "__weakref__" 209), (vr 31), (vb "ExceptionGroup.__weakref__"), vn]
def o33 : Obj := ob_fi (vt "super") [(vr 31), (vr 31), (vr 31)]
def o34 : Obj := ob_fi (vt "builtin_function_or_method") [(vb "object.__init_subclass__"), (vr 31)]
def o35 : Obj := ob_tu [(vr 31)]
def o36 : Obj := ob_fi (vt "builtin_function_or_method") [(vb "type.__prepare__"), (vt "type")]
def o37 (P : Params) : Obj := ob_di [en P "__module__" 221 (vs "readround.errors" 194), en P "__qualname__" 223 (vs "BadBook" 222), en P "__firstlineno__" 225 (vi 7 224), en P "__static_attributes__" 226 (vr 42)] 4
def o38 : Obj := ob_tu []
def o39 : Obj := ob_fi vn []
def o40 : Obj := ob_co [(vs "BadBook" 216), (vs "BadBook" 217), (vs "/claim/cut.py" 218), (vi 7 0), (vi 0 0), (vi 0 0), (vi 0 0), (vi 0 0), (vr 38), (.bool false), (vi 181 0), (vr 39), vn, vn, vn, vn, (vi 219 0), (vi 7 0), (vs "/claim/cut.py" 220)]
def o41 : Obj := ⟨(vt "frame"), none, .plain, #[some (vr 40), some (vr 3), some (vr 37), none, some (vs "readround.errors" 194), none, some (vr 0)]⟩
def o42 : Obj := ob_tu []
def o43 (P : Params) : Obj := ob_di [en P "__module__" 221 (vs "readround.errors" 194), en P "__firstlineno__" 225 (vi 7 224), en P "__static_attributes__" 226 (vr 42), en P "__doc__" 227 vn] 2
def o44 : Obj := ⟨(vt "type"), none, .cls (ClassData.mk (Str.ofString "BadBook") [(vr 31)] [(vr 44), (vr 31), (vt "ValueError"), (vt "Exception"), (vt "BaseException"), (vt "object")] 43 (Str.ofString "BadBook") true [] [] false none false), #[some (vr 35), none, some (vs "BadBook" 214), some (vs "BadBook" 222), some (vb "ValueError.__new__"), some (.bool true)]⟩
def o45 : Obj := ob_fi (vt "super") [(vr 44), (vr 44), (vr 44)]
def o46 : Obj := ob_fi (vt "builtin_function_or_method") [(vb "object.__init_subclass__"), (vr 44)]
def o47 : Obj := ob_tu [(vr 31)]
def o48 : Obj := ob_fi (vt "builtin_function_or_method") [(vb "type.__prepare__"), (vt "type")]
def o49 (P : Params) : Obj := ob_di [en P "__module__" 237 (vs "readround.errors" 194), en P "__qualname__" 239 (vs "BadCalendar" 238), en P "__firstlineno__" 241 (vi 9 240), en P "__static_attributes__" 242 (vr 54)] 4
def o50 : Obj := ob_tu []
def o51 : Obj := ob_fi vn []
def o52 : Obj := ob_co [(vs "BadCalendar" 232), (vs "BadCalendar" 233), (vs "/claim/cut.py" 234), (vi 9 0), (vi 0 0), (vi 0 0), (vi 0 0), (vi 0 0), (vr 50), (.bool false), (vi 181 0), (vr 51), vn, vn, vn, vn, (vi 235 0), (vi 9 0), (vs "/claim/cut.py" 236)]
def o53 : Obj := ⟨(vt "frame"), none, .plain, #[some (vr 52), some (vr 3), some (vr 49), none, some (vs "readround.errors" 194), none, some (vr 0)]⟩
def o54 : Obj := ob_tu []
def o55 (P : Params) : Obj := ob_di [en P "__module__" 237 (vs "readround.errors" 194), en P "__firstlineno__" 241 (vi 9 240), en P "__static_attributes__" 242 (vr 54), en P "__doc__" 243 vn] 2
def o56 : Obj := ⟨(vt "type"), none, .cls (ClassData.mk (Str.ofString "BadCalendar") [(vr 31)] [(vr 56), (vr 31), (vt "ValueError"), (vt "Exception"), (vt "BaseException"), (vt "object")] 55 (Str.ofString "BadCalendar") true [] [] false none false), #[some (vr 47), none, some (vs "BadCalendar" 230), some (vs "BadCalendar" 238), some (vb "ValueError.__new__"), some (.bool true)]⟩
def o57 : Obj := ob_fi (vt "super") [(vr 56), (vr 56), (vr 56)]
def o58 : Obj := ob_fi (vt "builtin_function_or_method") [(vb "object.__init_subclass__"), (vr 56)]
def o59 : Obj := ob_tu [(vr 31)]
def o60 : Obj := ob_fi (vt "builtin_function_or_method") [(vb "type.__prepare__"), (vt "type")]
def o61 (P : Params) : Obj := ob_di [en P "__module__" 253 (vs "readround.errors" 194), en P "__qualname__" 255 (vs "BadFeast" 254), en P "__firstlineno__" 257 (vi 11 256), en P "__static_attributes__" 258 (vr 66)] 4
def o62 : Obj := ob_tu []
def o63 : Obj := ob_fi vn []
def o64 : Obj := ob_co [(vs "BadFeast" 248), (vs "BadFeast" 249), (vs "/claim/cut.py" 250), (vi 11 0), (vi 0 0), (vi 0 0), (vi 0 0), (vi 0 0), (vr 62), (.bool false), (vi 181 0), (vr 63), vn, vn, vn, vn, (vi 251 0), (vi 11 0), (vs "/claim/cut.py" 252)]
def o65 : Obj := ⟨(vt "frame"), none, .plain, #[some (vr 64), some (vr 3), some (vr 61), none, some (vs "readround.errors" 194), none, some (vr 0)]⟩
def o66 : Obj := ob_tu []
def o67 (P : Params) : Obj := ob_di [en P "__module__" 253 (vs "readround.errors" 194), en P "__firstlineno__" 257 (vi 11 256), en P "__static_attributes__" 258 (vr 66), en P "__doc__" 259 vn] 2
def o68 : Obj := ⟨(vt "type"), none, .cls (ClassData.mk (Str.ofString "BadFeast") [(vr 31)] [(vr 68), (vr 31), (vt "ValueError"), (vt "Exception"), (vt "BaseException"), (vt "object")] 67 (Str.ofString "BadFeast") true [] [] false none false), #[some (vr 59), none, some (vs "BadFeast" 246), some (vs "BadFeast" 254), some (vb "ValueError.__new__"), some (.bool true)]⟩
def o69 : Obj := ob_fi (vt "super") [(vr 68), (vr 68), (vr 68)]
def o70 : Obj := ob_fi (vt "builtin_function_or_method") [(vb "object.__init_subclass__"), (vr 68)]
def o71 : Obj := ob_tu [(vr 31)]
def o72 : Obj := ob_fi (vt "builtin_function_or_method") [(vb "type.__prepare__"), (vt "type")]
def o73 (P : Params) : Obj := ob_di [en P "__module__" 269 (vs "readround.errors" 194), en P "__qualname__" 271 (vs "BadRow" 270), en P "__firstlineno__" 273 (vi 13 272), en P "__static_attributes__" 274 (vr 78)] 4
def o74 : Obj := ob_tu []
def o75 : Obj := ob_fi vn []
def o76 : Obj := ob_co [(vs "BadRow" 264), (vs "BadRow" 265), (vs "/claim/cut.py" 266), (vi 13 0), (vi 0 0), (vi 0 0), (vi 0 0), (vi 0 0), (vr 74), (.bool false), (vi 181 0), (vr 75), vn, vn, vn, vn, (vi 267 0), (vi 13 0), (vs "/claim/cut.py" 268)]
def o77 : Obj := ⟨(vt "frame"), none, .plain, #[some (vr 76), some (vr 3), some (vr 73), none, some (vs "readround.errors" 194), none, some (vr 0)]⟩
def o78 : Obj := ob_tu []
def o79 (P : Params) : Obj := ob_di [en P "__module__" 269 (vs "readround.errors" 194), en P "__firstlineno__" 273 (vi 13 272), en P "__static_attributes__" 274 (vr 78), en P "__doc__" 275 vn] 2
def o80 : Obj := ⟨(vt "type"), none, .cls (ClassData.mk (Str.ofString "BadRow") [(vr 31)] [(vr 80), (vr 31), (vt "ValueError"), (vt "Exception"), (vt "BaseException"), (vt "object")] 79 (Str.ofString "BadRow") true [] [] false none false), #[some (vr 71), none, some (vs "BadRow" 262), some (vs "BadRow" 270), some (vb "ValueError.__new__"), some (.bool true)]⟩
def o81 : Obj := ob_fi (vt "super") [(vr 80), (vr 80), (vr 80)]
def o82 : Obj := ob_fi (vt "builtin_function_or_method") [(vb "object.__init_subclass__"), (vr 80)]
def o83 : Obj := ob_tu [(vr 31)]
def o84 : Obj := ob_fi (vt "builtin_function_or_method") [(vb "type.__prepare__"), (vt "type")]
def o85 (P : Params) : Obj := ob_di [en P "__module__" 285 (vs "readround.errors" 194), en P "__qualname__" 287 (vs "BadHouse" 286), en P "__firstlineno__" 289 (vi 15 288), en P "__static_attributes__" 290 (vr 90)] 4
def o86 : Obj := ob_tu []
def o87 : Obj := ob_fi vn []
def o88 : Obj := ob_co [(vs "BadHouse" 280), (vs "BadHouse" 281), (vs "/claim/cut.py" 282), (vi 15 0), (vi 0 0), (vi 0 0), (vi 0 0), (vi 0 0), (vr 86), (.bool false), (vi 181 0), (vr 87), vn, vn, vn, vn, (vi 283 0), (vi 15 0), (vs "/claim/cut.py" 284)]
def o89 : Obj := ⟨(vt "frame"), none, .plain, #[some (vr 88), some (vr 3), some (vr 85), none, some (vs "readround.errors" 194), none, some (vr 0)]⟩
def o90 : Obj := ob_tu []
def o91 (P : Params) : Obj := ob_di [en P "__module__" 285 (vs "readround.errors" 194), en P "__firstlineno__" 289 (vi 15 288), en P "__static_attributes__" 290 (vr 90), en P "__doc__" 291 vn] 2
def o92 : Obj := ⟨(vt "type"), none, .cls (ClassData.mk (Str.ofString "BadHouse") [(vr 31)] [(vr 92), (vr 31), (vt "ValueError"), (vt "Exception"), (vt "BaseException"), (vt "object")] 91 (Str.ofString "BadHouse") true [] [] false none false), #[some (vr 83), none, some (vs "BadHouse" 278), some (vs "BadHouse" 286), some (vb "ValueError.__new__"), some (.bool true)]⟩
def o93 : Obj := ob_fi (vt "super") [(vr 92), (vr 92), (vr 92)]
def o94 : Obj := ob_fi (vt "builtin_function_or_method") [(vb "object.__init_subclass__"), (vr 92)]
def o95 : Obj := ob_tu [(vr 31)]
def o96 : Obj := ob_fi (vt "builtin_function_or_method") [(vb "type.__prepare__"), (vt "type")]
def o97 (P : Params) : Obj := ob_di [en P "__module__" 301 (vs "readround.errors" 194), en P "__qualname__" 303 (vs "BadNumber" 302), en P "__firstlineno__" 305 (vi 17 304), en P "__static_attributes__" 306 (vr 102)] 4
def o98 : Obj := ob_tu []
def o99 : Obj := ob_fi vn []
def o100 : Obj := ob_co [(vs "BadNumber" 296), (vs "BadNumber" 297), (vs "/claim/cut.py" 298), (vi 17 0), (vi 0 0), (vi 0 0), (vi 0 0), (vi 0 0), (vr 98), (.bool false), (vi 181 0), (vr 99), vn, vn, vn, vn, (vi 299 0), (vi 17 0), (vs "/claim/cut.py" 300)]
def o101 : Obj := ⟨(vt "frame"), none, .plain, #[some (vr 100), some (vr 3), some (vr 97), none, some (vs "readround.errors" 194), none, some (vr 0)]⟩
def o102 : Obj := ob_tu []
def o103 (P : Params) : Obj := ob_di [en P "__module__" 301 (vs "readround.errors" 194), en P "__firstlineno__" 305 (vi 17 304), en P "__static_attributes__" 306 (vr 102), en P "__doc__" 307 vn] 2
def o104 : Obj := ⟨(vt "type"), none, .cls (ClassData.mk (Str.ofString "BadNumber") [(vr 31)] [(vr 104), (vr 31), (vt "ValueError"), (vt "Exception"), (vt "BaseException"), (vt "object")] 103 (Str.ofString "BadNumber") true [] [] false none false), #[some (vr 95), none, some (vs "BadNumber" 294), some (vs "BadNumber" 302), some (vb "ValueError.__new__"), some (.bool true)]⟩
def o105 : Obj := ob_fi (vt "super") [(vr 104), (vr 104), (vr 104)]
def o106 : Obj := ob_fi (vt "builtin_function_or_method") [(vb "object.__init_subclass__"), (vr 104)]
def o3_1 (P : Params) : Obj := ob_di [en P "__name__" 165 (vs "readround.errors" 194), en P "__doc__" 166 vn, en P "__package__" 167 vn, en P "__loader__" 168 (vb "__main__.__loader__#opaque"), en P "__spec__" 169 vn, en P "__annotations__" 170 (vr 6), en P "__builtins__" 171 (vr 4), en P "__file__" 173 (vs "/claim/cut.py" 172), en P "__cached__" 174 vn, en P "_wall" 193 (vr 21), en P "ReadError" 213 (vr 31), en P "BadBook" 229 (vr 44), en P "BadCalendar" 245 (vr 56), en P "BadFeast" 261 (vr 68), en P "BadRow" 277 (vr 80), en P "BadHouse" 293 (vr 92), en P "BadNumber" 309 (vr 104), en P "NoDay" 325 (vr 116), en P "NoRow" 341 (vr 128), en P "NoPiece" 357 (vr 140), en P "TooTight" 382 (vr 159), en P "NeverDone" 411 (vr 178), en P "TooFar" 427 (vr 190), en P "NoDeed" 443 (vr 202)] 24
def o12_2 : Obj := ob_fi vn [(vi 1 0), (vi 0 0), (vr 20), (vi 5 0), (vi 0 0), (vr 27), (vi 7 0), (vi 0 0), (vr 40), (vi 9 0), (vi 0 0), (vr 52), (vi 11 0), (vi 0 0), (vr 64), (vi 13 0), (vi 0 0), (vr 76), (vi 15 0), (vi 0 0), (vr 88), (vi 17 0), (vi 0 0), (vr 100), (vi 19 0), (vi 0 0), (vr 112), (vi 21 0), (vi 0 0), (vr 124), (vi 23 0), (vi 0 0), (vr 136), (vi 25 0), (vi 0 0), (vr 148), (vi 30 0), (vi 0 0), (vr 167), (vi 37 0), (vi 0 0), (vr 186), (vi 39 0), (vi 0 0), (vr 198)]
def o31_1 : Obj := ⟨(vt "type"), none, .cls (ClassData.mk (Str.ofString "ReadError") [(vt "ValueError")] [(vr 31), (vt "ValueError"), (vt "Exception"), (vt "BaseException"), (vt "object")] 30 (Str.ofString "ReadError") true [] [(vr 44), (vr 56), (vr 68), (vr 80), (vr 92), (vr 104), (vr 116), (vr 128), (vr 140), (vr 159), (vr 178), (vr 190), (vr 202)] false none false), #[some (vr 22), none, some (vs "ReadError" 196), some (vs "ReadError" 204), some (vb "ValueError.__new__"), some (.bool true)]⟩
def o107 : Obj := ob_tu [(vr 31)]
def o108 : Obj := ob_fi (vt "builtin_function_or_method") [(vb "type.__prepare__"), (vt "type")]
def o109 (P : Params) : Obj := ob_di [en P "__module__" 317 (vs "readround.errors" 194), en P "__qualname__" 319 (vs "NoDay" 318), en P "__firstlineno__" 321 (vi 19 320), en P "__static_attributes__" 322 (vr 114)] 4
def o110 : Obj := ob_tu []
def o111 : Obj := ob_fi vn []
def o112 : Obj := ob_co [(vs "NoDay" 312), (vs "NoDay" 313), (vs "/claim/cut.py" 314), (vi 19 0), (vi 0 0), (vi 0 0), (vi 0 0), (vi 0 0), (vr 110), (.bool false), (vi 181 0), (vr 111), vn, vn, vn, vn, (vi 315 0), (vi 19 0), (vs "/claim/cut.py" 316)]
def o113 : Obj := ⟨(vt "frame"), none, .plain, #[some (vr 112), some (vr 3), some (vr 109), none, some (vs "readround.errors" 194), none, some (vr 0)]⟩
def o114 : Obj := ob_tu []
def o115 (P : Params) : Obj := ob_di [en P "__module__" 317 (vs "readround.errors" 194), en P "__firstlineno__" 321 (vi 19 320), en P "__static_attributes__" 322 (vr 114), en P "__doc__" 323 vn] 2
def o116 : Obj := ⟨(vt "type"), none, .cls (ClassData.mk (Str.ofString "NoDay") [(vr 31)] [(vr 116), (vr 31), (vt "ValueError"), (vt "Exception"), (vt "BaseException"), (vt "object")] 115 (Str.ofString "NoDay") true [] [] false none false), #[some (vr 107), none, some (vs "NoDay" 310), some (vs "NoDay" 318), some (vb "ValueError.__new__"), some (.bool true)]⟩
def o117 : Obj := ob_fi (vt "super") [(vr 116), (vr 116), (vr 116)]
def o118 : Obj := ob_fi (vt "builtin_function_or_method") [(vb "object.__init_subclass__"), (vr 116)]
def o119 : Obj := ob_tu [(vr 31)]
def o120 : Obj := ob_fi (vt "builtin_function_or_method") [(vb "type.__prepare__"), (vt "type")]
def o121 (P : Params) : Obj := ob_di [en P "__module__" 333 (vs "readround.errors" 194), en P "__qualname__" 335 (vs "NoRow" 334), en P "__firstlineno__" 337 (vi 21 336), en P "__static_attributes__" 338 (vr 126)] 4
def o122 : Obj := ob_tu []
def o123 : Obj := ob_fi vn []
def o124 : Obj := ob_co [(vs "NoRow" 328), (vs "NoRow" 329), (vs "/claim/cut.py" 330), (vi 21 0), (vi 0 0), (vi 0 0), (vi 0 0), (vi 0 0), (vr 122), (.bool false), (vi 181 0), (vr 123), vn, vn, vn, vn, (vi 331 0), (vi 21 0), (vs "/claim/cut.py" 332)]
def o125 : Obj := ⟨(vt "frame"), none, .plain, #[some (vr 124), some (vr 3), some (vr 121), none, some (vs "readround.errors" 194), none, some (vr 0)]⟩
def o126 : Obj := ob_tu []
def o127 (P : Params) : Obj := ob_di [en P "__module__" 333 (vs "readround.errors" 194), en P "__firstlineno__" 337 (vi 21 336), en P "__static_attributes__" 338 (vr 126), en P "__doc__" 339 vn] 2
def o128 : Obj := ⟨(vt "type"), none, .cls (ClassData.mk (Str.ofString "NoRow") [(vr 31)] [(vr 128), (vr 31), (vt "ValueError"), (vt "Exception"), (vt "BaseException"), (vt "object")] 127 (Str.ofString "NoRow") true [] [] false none false), #[some (vr 119), none, some (vs "NoRow" 326), some (vs "NoRow" 334), some (vb "ValueError.__new__"), some (.bool true)]⟩
def o129 : Obj := ob_fi (vt "super") [(vr 128), (vr 128), (vr 128)]
def o130 : Obj := ob_fi (vt "builtin_function_or_method") [(vb "object.__init_subclass__"), (vr 128)]
def o131 : Obj := ob_tu [(vr 31)]
def o132 : Obj := ob_fi (vt "builtin_function_or_method") [(vb "type.__prepare__"), (vt "type")]
def o133 (P : Params) : Obj := ob_di [en P "__module__" 349 (vs "readround.errors" 194), en P "__qualname__" 351 (vs "NoPiece" 350), en P "__firstlineno__" 353 (vi 23 352), en P "__static_attributes__" 354 (vr 138)] 4
def o134 : Obj := ob_tu []
def o135 : Obj := ob_fi vn []
def o136 : Obj := ob_co [(vs "NoPiece" 344), (vs "NoPiece" 345), (vs "/claim/cut.py" 346), (vi 23 0), (vi 0 0), (vi 0 0), (vi 0 0), (vi 0 0), (vr 134), (.bool false), (vi 181 0), (vr 135), vn, vn, vn, vn, (vi 347 0), (vi 23 0), (vs "/claim/cut.py" 348)]
def o137 : Obj := ⟨(vt "frame"), none, .plain, #[some (vr 136), some (vr 3), some (vr 133), none, some (vs "readround.errors" 194), none, some (vr 0)]⟩
def o138 : Obj := ob_tu []
def o139 (P : Params) : Obj := ob_di [en P "__module__" 349 (vs "readround.errors" 194), en P "__firstlineno__" 353 (vi 23 352), en P "__static_attributes__" 354 (vr 138), en P "__doc__" 355 vn] 2
def o140 : Obj := ⟨(vt "type"), none, .cls (ClassData.mk (Str.ofString "NoPiece") [(vr 31)] [(vr 140), (vr 31), (vt "ValueError"), (vt "Exception"), (vt "BaseException"), (vt "object")] 139 (Str.ofString "NoPiece") true [] [] false none false), #[some (vr 131), none, some (vs "NoPiece" 342), some (vs "NoPiece" 350), some (vb "ValueError.__new__"), some (.bool true)]⟩
def o141 : Obj := ob_fi (vt "super") [(vr 140), (vr 140), (vr 140)]
def o142 : Obj := ob_fi (vt "builtin_function_or_method") [(vb "object.__init_subclass__"), (vr 140)]
def o143 : Obj := ob_tu [(vr 31)]
def o144 : Obj := ob_fi (vt "builtin_function_or_method") [(vb "type.__prepare__"), (vt "type")]
def o145 (P : Params) : Obj := ob_di [en P "__module__" 365 (vs "readround.errors" 194), en P "__qualname__" 367 (vs "TooTight" 366), en P "__firstlineno__" 369 (vi 25 368), en P "__init__" 377 (vr 156), en P "__static_attributes__" 379 (vr 157)] 5
def o146 : Obj := ob_tu []
def o147 : Obj := ob_fi vn [(vi 27 0), (vi 4 0), (vr 155)]
def o148 : Obj := ob_co [(vs "TooTight" 360), (vs "TooTight" 361), (vs "/claim/cut.py" 362), (vi 25 0), (vi 0 0), (vi 0 0), (vi 0 0), (vi 0 0), (vr 146), (.bool false), (vi 181 0), (vr 147), vn, vn, vn, vn, (vi 363 0), (vi 25 0), (vs "/claim/cut.py" 364)]
def o149 : Obj := ⟨(vt "frame"), none, .plain, #[some (vr 148), some (vr 3), some (vr 145), none, some (vs "readround.errors" 194), none, some (vr 0)]⟩
def o150 : Obj := ob_tu []
def o151 : Obj := ob_fi vn []
def o152 : Obj := ob_tu [(vs "self" 373), (vs "block" 374)]
def o153 : Obj := ob_tu []
def o154 : Obj := ob_fu vn (inClass (topS 12) 0) "__init__" "TooTight.__init__" 0 vn vn vn vn none vn vn
def o155 : Obj := ob_co [(vs "__init__" 370), (vs "TooTight.__init__" 371), (vs "/claim/cut.py" 372), (vi 27 0), (vi 2 0), (vi 0 0), (vi 0 0), (vi 3 0), (vr 150), (.bool true), (vi 181 0), (vr 151), vn, (vr 152), (vr 153), (vr 154), (vi 375 0), (vi 27 0), (vs "/claim/cut.py" 376)]
def o156 : Obj := ob_fu (vt "function") (inClass (topS 12) 0) "__init__" "TooTight.__init__" 3 vn vn vn (vs "readround.errors" 194) none (vr 155) vn
def o157 : Obj := ob_tu [(vs "block" 378)]
def o158 (P : Params) : Obj := ob_di [en P "__module__" 365 (vs "readround.errors" 194), en P "__firstlineno__" 369 (vi 25 368), en P "__init__" 377 (vr 156), en P "__static_attributes__" 379 (vr 157), en P "__doc__" 380 vn] 2
def o159 : Obj := ⟨(vt "type"), none, .cls (ClassData.mk (Str.ofString "TooTight") [(vr 31)] [(vr 159), (vr 31), (vt "ValueError"), (vt "Exception"), (vt "BaseException"), (vt "object")] 158 (Str.ofString "TooTight") true [] [] false none false), #[some (vr 143), none, some (vs "TooTight" 358), some (vs "TooTight" 366), some (vb "ValueError.__new__"), some (.bool true)]⟩
def o160 : Obj := ob_fi (vt "super") [(vr 159), (vr 159), (vr 159)]
def o161 : Obj := ob_fi (vt "builtin_function_or_method") [(vb "object.__init_subclass__"), (vr 159)]
def o162 : Obj := ob_tu [(vr 31)]
def o163 : Obj := ob_fi (vt "builtin_function_or_method") [(vb "type.__prepare__"), (vt "type")]
def o164 (P : Params) : Obj := ob_di [en P "__module__" 390 (vs "readround.errors" 194), en P "__qualname__" 392 (vs "NeverDone" 391), en P "__firstlineno__" 394 (vi 30 393), en P "__init__" 404 (vr 175), en P "__static_attributes__" 408 (vr 176)] 5
def o165 : Obj := ob_tu []
def o166 : Obj := ob_fi vn [(vi 32 0), (vi 4 0), (vr 174)]
def o167 : Obj := ob_co [(vs "NeverDone" 385), (vs "NeverDone" 386), (vs "/claim/cut.py" 387), (vi 30 0), (vi 0 0), (vi 0 0), (vi 0 0), (vi 0 0), (vr 165), (.bool false), (vi 181 0), (vr 166), vn, vn, vn, vn, (vi 388 0), (vi 30 0), (vs "/claim/cut.py" 389)]
def o168 : Obj := ⟨(vt "frame"), none, .plain, #[some (vr 167), some (vr 3), some (vr 164), none, some (vs "readround.errors" 194), none, some (vr 0)]⟩
def o169 : Obj := ob_tu []
def o170 : Obj := ob_fi vn []
def o171 : Obj := ob_tu [(vs "self" 398), (vs "name" 399), (vs "due" 400), (vs "room" 401)]
def o172 : Obj := ob_tu []
def o173 : Obj := ob_fu vn (inClass (topS 13) 0) "__init__" "NeverDone.__init__" 0 vn vn vn vn none vn vn
def o174 : Obj := ob_co [(vs "__init__" 395), (vs "NeverDone.__init__" 396), (vs "/claim/cut.py" 397), (vi 32 0), (vi 4 0), (vi 0 0), (vi 0 0), (vi 3 0), (vr 169), (.bool true), (vi 181 0), (vr 170), vn, (vr 171), (vr 172), (vr 173), (vi 402 0), (vi 32 0), (vs "/claim/cut.py" 403)]
def o175 : Obj := ob_fu (vt "function") (inClass (topS 13) 0) "__init__" "NeverDone.__init__" 3 vn vn vn (vs "readround.errors" 194) none (vr 174) vn
def o176 : Obj := ob_tu [(vs "due" 405), (vs "name" 406), (vs "room" 407)]
def o177 (P : Params) : Obj := ob_di [en P "__module__" 390 (vs "readround.errors" 194), en P "__firstlineno__" 394 (vi 30 393), en P "__init__" 404 (vr 175), en P "__static_attributes__" 408 (vr 176), en P "__doc__" 409 vn] 2
def o178 : Obj := ⟨(vt "type"), none, .cls (ClassData.mk (Str.ofString "NeverDone") [(vr 31)] [(vr 178), (vr 31), (vt "ValueError"), (vt "Exception"), (vt "BaseException"), (vt "object")] 177 (Str.ofString "NeverDone") true [] [] false none false), #[some (vr 162), none, some (vs "NeverDone" 383), some (vs "NeverDone" 391), some (vb "ValueError.__new__"), some (.bool true)]⟩
def o179 : Obj := ob_fi (vt "super") [(vr 178), (vr 178), (vr 178)]
def o180 : Obj := ob_fi (vt "builtin_function_or_method") [(vb "object.__init_subclass__"), (vr 178)]
def o181 : Obj := ob_tu [(vr 31)]
def o182 : Obj := ob_fi (vt "builtin_function_or_method") [(vb "type.__prepare__"), (vt "type")]
def o183 (P : Params) : Obj := ob_di [en P "__module__" 419 (vs "readround.errors" 194), en P "__qualname__" 421 (vs "TooFar" 420), en P "__firstlineno__" 423 (vi 37 422), en P "__static_attributes__" 424 (vr 188)] 4
def o184 : Obj := ob_tu []
def o185 : Obj := ob_fi vn []
def o186 : Obj := ob_co [(vs "TooFar" 414), (vs "TooFar" 415), (vs "/claim/cut.py" 416), (vi 37 0), (vi 0 0), (vi 0 0), (vi 0 0), (vi 0 0), (vr 184), (.bool false), (vi 181 0), (vr 185), vn, vn, vn, vn, (vi 417 0), (vi 37 0), (vs "/claim/cut.py" 418)]
def o187 : Obj := ⟨(vt "frame"), none, .plain, #[some (vr 186), some (vr 3), some (vr 183), none, some (vs "readround.errors" 194), none, some (vr 0)]⟩
def o188 : Obj := ob_tu []
def o189 (P : Params) : Obj := ob_di [en P "__module__" 419 (vs "readround.errors" 194), en P "__firstlineno__" 423 (vi 37 422), en P "__static_attributes__" 424 (vr 188), en P "__doc__" 425 vn] 2
def o190 : Obj := ⟨(vt "type"), none, .cls (ClassData.mk (Str.ofString "TooFar") [(vr 31)] [(vr 190), (vr 31), (vt "ValueError"), (vt "Exception"), (vt "BaseException"), (vt "object")] 189 (Str.ofString "TooFar") true [] [] false none false), #[some (vr 181), none, some (vs "TooFar" 412), some (vs "TooFar" 420), some (vb "ValueError.__new__"), some (.bool true)]⟩
def o191 : Obj := ob_fi (vt "super") [(vr 190), (vr 190), (vr 190)]
def o192 : Obj := ob_fi (vt "builtin_function_or_method") [(vb "object.__init_subclass__"), (vr 190)]
def o193 : Obj := ob_tu [(vr 31)]
def o194 : Obj := ob_fi (vt "builtin_function_or_method") [(vb "type.__prepare__"), (vt "type")]
def o195 (P : Params) : Obj := ob_di [en P "__module__" 435 (vs "readround.errors" 194), en P "__qualname__" 437 (vs "NoDeed" 436), en P "__firstlineno__" 439 (vi 39 438), en P "__static_attributes__" 440 (vr 200)] 4
def o196 : Obj := ob_tu []
def o197 : Obj := ob_fi vn []
def o198 : Obj := ob_co [(vs "NoDeed" 430), (vs "NoDeed" 431), (vs "/claim/cut.py" 432), (vi 39 0), (vi 0 0), (vi 0 0), (vi 0 0), (vi 0 0), (vr 196), (.bool false), (vi 181 0), (vr 197), vn, vn, vn, vn, (vi 433 0), (vi 39 0), (vs "/claim/cut.py" 434)]
def o199 : Obj := ⟨(vt "frame"), none, .plain, #[some (vr 198), some (vr 3), some (vr 195), none, some (vs "readround.errors" 194), none, some (vr 0)]⟩
def o200 : Obj := ob_tu []
def o201 (P : Params) : Obj := ob_di [en P "__module__" 435 (vs "readround.errors" 194), en P "__firstlineno__" 439 (vi 39 438), en P "__static_attributes__" 440 (vr 200), en P "__doc__" 441 vn] 2
def o202 : Obj := ⟨(vt "type"), none, .cls (ClassData.mk (Str.ofString "NoDeed") [(vr 31)] [(vr 202), (vr 31), (vt "ValueError"), (vt "Exception"), (vt "BaseException"), (vt "object")] 201 (Str.ofString "NoDeed") true [] [] false none false), #[some (vr 193), none, some (vs "NoDeed" 428), some (vs "NoDeed" 436), some (vb "ValueError.__new__"), some (.bool true)]⟩
def o203 : Obj := ob_fi (vt "super") [(vr 202), (vr 202), (vr 202)]
def o204 : Obj := ob_fi (vt "builtin_function_or_method") [(vb "object.__init_subclass__"), (vr 202)]
def o3_2 (P : Params) : Obj := ob_di [en P "__name__" 165 (vs "readround.rows" 494), en P "__doc__" 166 vn, en P "__package__" 167 vn, en P "__loader__" 168 (vb "__main__.__loader__#opaque"), en P "__spec__" 169 vn, en P "__annotations__" 170 (vr 6), en P "__builtins__" 171 (vr 4), en P "__file__" 173 (vs "/claim/cut.py" 172), en P "__cached__" 174 vn, en P "_wall" 193 (vr 21), en P "ReadError" 213 (vr 31), en P "BadBook" 229 (vr 44), en P "BadCalendar" 245 (vr 56), en P "BadFeast" 261 (vr 68), en P "BadRow" 277 (vr 80), en P "BadHouse" 293 (vr 92), en P "BadNumber" 309 (vr 104), en P "NoDay" 325 (vr 116), en P "NoRow" 341 (vr 128), en P "NoPiece" 357 (vr 140), en P "TooTight" 382 (vr 159), en P "NeverDone" 411 (vr 178), en P "TooFar" 427 (vr 190), en P "NoDeed" 443 (vr 202), en P "BadText" 468 (vr 221), en P "LETTERS" 472 (vs "abcdefghijklmnopqrstuvwxyz" 471), en P "is_number" 481 (vr 230), en P "is_name" 487 (vr 235), en P "are_numbers" 493 (vr 240), en P "Row" 571 (vr 292), en P "Going" 625 (vr 335), en P "Yearly" 700 (vr 396)] 32
def o12_3 : Obj := ob_fi vn [(vi 1 0), (vi 0 0), (vr 20), (vi 5 0), (vi 0 0), (vr 27), (vi 7 0), (vi 0 0), (vr 40), (vi 9 0), (vi 0 0), (vr 52), (vi 11 0), (vi 0 0), (vr 64), (vi 13 0), (vi 0 0), (vr 76), (vi 15 0), (vi 0 0), (vr 88), (vi 17 0), (vi 0 0), (vr 100), (vi 19 0), (vi 0 0), (vr 112), (vi 21 0), (vi 0 0), (vr 124), (vi 23 0), (vi 0 0), (vr 136), (vi 25 0), (vi 0 0), (vr 148), (vi 30 0), (vi 0 0), (vr 167), (vi 37 0), (vi 0 0), (vr 186), (vi 39 0), (vi 0 0), (vr 198), (vi 41 0), (vi 0 0), (vr 210), (vi 48 0), (vi 0 0), (vr 229), (vi 50 0), (vi 0 0), (vr 234), (vi 54 0), (vi 0 0), (vr 239), (vi 59 0), (vi 0 0), (vr 246), (vi 82 0), (vi 0 0), (vr 302), (vi 98 0), (vi 0 0), (vr 343)]
def o31_2 : Obj := ⟨(vt "type"), none, .cls (ClassData.mk (Str.ofString "ReadError") [(vt "ValueError")] [(vr 31), (vt "ValueError"), (vt "Exception"), (vt "BaseException"), (vt "object")] 30 (Str.ofString "ReadError") true [] [(vr 44), (vr 56), (vr 68), (vr 80), (vr 92), (vr 104), (vr 116), (vr 128), (vr 140), (vr 159), (vr 178), (vr 190), (vr 202), (vr 221)] false none false), #[some (vr 22), none, some (vs "ReadError" 196), some (vs "ReadError" 204), some (vb "ValueError.__new__"), some (.bool true)]⟩
def o205 : Obj := ob_tu [(vr 31)]
def o206 : Obj := ob_fi (vt "builtin_function_or_method") [(vb "type.__prepare__"), (vt "type")]
def o207 (P : Params) : Obj := ob_di [en P "__module__" 451 (vs "readround.errors" 194), en P "__qualname__" 453 (vs "BadText" 452), en P "__firstlineno__" 455 (vi 41 454), en P "__init__" 463 (vr 218), en P "__static_attributes__" 465 (vr 219)] 5
def o208 : Obj := ob_tu []
def o209 : Obj := ob_fi vn [(vi 43 0), (vi 4 0), (vr 217)]
def o210 : Obj := ob_co [(vs "BadText" 446), (vs "BadText" 447), (vs "/claim/cut.py" 448), (vi 41 0), (vi 0 0), (vi 0 0), (vi 0 0), (vi 0 0), (vr 208), (.bool false), (vi 181 0), (vr 209), vn, vn, vn, vn, (vi 449 0), (vi 41 0), (vs "/claim/cut.py" 450)]
def o211 : Obj := ⟨(vt "frame"), none, .plain, #[some (vr 210), some (vr 3), some (vr 207), none, some (vs "readround.errors" 194), none, some (vr 0)]⟩
def o212 : Obj := ob_tu []
def o213 : Obj := ob_fi vn []
def o214 : Obj := ob_tu [(vs "self" 459), (vs "place" 460)]
def o215 : Obj := ob_tu []
def o216 : Obj := ob_fu vn (inClass (topS 16) 0) "__init__" "BadText.__init__" 0 vn vn vn vn none vn vn
def o217 : Obj := ob_co [(vs "__init__" 456), (vs "BadText.__init__" 457), (vs "/claim/cut.py" 458), (vi 43 0), (vi 2 0), (vi 0 0), (vi 0 0), (vi 3 0), (vr 212), (.bool true), (vi 181 0), (vr 213), vn, (vr 214), (vr 215), (vr 216), (vi 461 0), (vi 43 0), (vs "/claim/cut.py" 462)]
def o218 : Obj := ob_fu (vt "function") (inClass (topS 16) 0) "__init__" "BadText.__init__" 3 vn vn vn (vs "readround.errors" 194) none (vr 217) vn
def o219 : Obj := ob_tu [(vs "place" 464)]
def o220 (P : Params) : Obj := ob_di [en P "__module__" 451 (vs "readround.errors" 194), en P "__firstlineno__" 455 (vi 41 454), en P "__init__" 463 (vr 218), en P "__static_attributes__" 465 (vr 219), en P "__doc__" 466 vn] 2
def o221 : Obj := ⟨(vt "type"), none, .cls (ClassData.mk (Str.ofString "BadText") [(vr 31)] [(vr 221), (vr 31), (vt "ValueError"), (vt "Exception"), (vt "BaseException"), (vt "object")] 220 (Str.ofString "BadText") true [] [] false none false), #[some (vr 205), none, some (vs "BadText" 444), some (vs "BadText" 452), some (vb "ValueError.__new__"), some (.bool true)]⟩
def o222 : Obj := ob_fi (vt "super") [(vr 221), (vr 221), (vr 221)]
def o223 : Obj := ob_fi (vt "builtin_function_or_method") [(vb "object.__init_subclass__"), (vr 221)]
def o224 : Obj := ob_tu []
def o225 : Obj := ob_fi vn []
def o226 : Obj := ob_tu [(vs "thing" 476), (vs "least" 477), (vs "most" 478)]
def o227 : Obj := ob_tu []
def o228 : Obj := ob_fu vn (topS 19) "is_number" "is_number" 0 vn vn vn vn none vn vn
def o229 : Obj := ob_co [(vs "is_number" 473), (vs "is_number" 474), (vs "/claim/cut.py" 475), (vi 48 0), (vi 3 0), (vi 0 0), (vi 0 0), (vi 3 0), (vr 224), (.bool true), (vi 181 0), (vr 225), vn, (vr 226), (vr 227), (vr 228), (vi 479 0), (vi 48 0), (vs "/claim/cut.py" 480)]
def o230 : Obj := ob_fu (vt "function") (topS 19) "is_number" "is_number" 3 vn vn vn (vs "readround.kinds" 469) none (vr 229) vn
def o231 : Obj := ob_tu []
def o232 : Obj := ob_fi vn []
def o233 : Obj := ob_fu vn (topS 20) "is_name" "is_name" 0 vn vn vn vn none vn vn
def o234 : Obj := ob_co [(vs "is_name" 482), (vs "is_name" 483), (vs "/claim/cut.py" 484), (vi 50 0), (vi 1 0), (vi 0 0), (vi 0 0), (vi 3 0), (vr 231), (.bool true), (vi 181 0), (vr 232), vn, vn, vn, (vr 233), (vi 485 0), (vi 50 0), (vs "/claim/cut.py" 486)]
def o235 : Obj := ob_fu (vt "function") (topS 20) "is_name" "is_name" 3 vn vn vn (vs "readround.kinds" 469) none (vr 234) vn
def o236 : Obj := ob_tu []
def o237 : Obj := ob_fi vn []
def o238 : Obj := ob_fu vn (topS 21) "are_numbers" "are_numbers" 0 vn vn vn vn none vn vn
def o239 : Obj := ob_co [(vs "are_numbers" 488), (vs "are_numbers" 489), (vs "/claim/cut.py" 490), (vi 54 0), (vi 4 0), (vi 0 0), (vi 0 0), (vi 3 0), (vr 236), (.bool true), (vi 181 0), (vr 237), vn, vn, vn, (vr 238), (vi 491 0), (vi 54 0), (vs "/claim/cut.py" 492)]
def o240 : Obj := ob_fu (vt "function") (topS 21) "are_numbers" "are_numbers" 3 vn vn vn (vs "readround.kinds" 469) none (vr 239) vn
def o241 : Obj := ob_tu []
def o242 : Obj := ob_fi (vt "builtin_function_or_method") [(vb "type.__prepare__"), (vt "type")]
def o243 (P : Params) : Obj := ob_di [en P "__module__" 503 (vs "readround.rows" 494), en P "__qualname__" 505 (vs "Row" 504), en P "__firstlineno__" 507 (vi 59 506), en P "__init__" 517 (vr 254), en P "coming" 526 (vr 261), en P "begins_anew" 533 (vr 268), en P "holds" 541 (vr 275), en P "over" 551 (vr 282), en P "step" 560 (vr 289), en P "__static_attributes__" 564 (vr 290)] 10
def o244 : Obj := ob_tu []
def o245 : Obj := ob_fi vn [(vi 61 0), (vi 4 0), (vr 253), (vi 68 0), (vi 4 0), (vr 260), (vi 71 0), (vi 4 0), (vr 267), (vi 74 0), (vi 4 0), (vr 274), (vi 77 0), (vi 4 0), (vr 281), (vi 80 0), (vi 4 0), (vr 288)]
def o246 : Obj := ob_co [(vs "Row" 498), (vs "Row" 499), (vs "/claim/cut.py" 500), (vi 59 0), (vi 0 0), (vi 0 0), (vi 0 0), (vi 0 0), (vr 244), (.bool false), (vi 181 0), (vr 245), vn, vn, vn, vn, (vi 501 0), (vi 59 0), (vs "/claim/cut.py" 502)]
def o247 : Obj := ⟨(vt "frame"), none, .plain, #[some (vr 246), some (vr 3), some (vr 243), none, some (vs "readround.rows" 494), none, some (vr 0)]⟩
def o248 : Obj := ob_tu []
def o249 : Obj := ob_fi vn []
def o250 : Obj := ob_tu [(vs "self" 511), (vs "name" 512), (vs "pieces" 513), (vs "most" 514)]
def o251 : Obj := ob_tu []
def o252 : Obj := ob_fu vn (inClass (topS 23) 0) "__init__" "Row.__init__" 0 vn vn vn vn none vn vn
def o253 : Obj := ob_co [(vs "__init__" 508), (vs "Row.__init__" 509), (vs "/claim/cut.py" 510), (vi 61 0), (vi 4 0), (vi 0 0), (vi 0 0), (vi 3 0), (vr 248), (.bool true), (vi 181 0), (vr 249), vn, (vr 250), (vr 251), (vr 252), (vi 515 0), (vi 61 0), (vs "/claim/cut.py" 516)]
def o254 : Obj := ob_fu (vt "function") (inClass (topS 23) 0) "__init__" "Row.__init__" 3 vn vn vn (vs "readround.rows" 494) none (vr 253) vn
def o255 : Obj := ob_tu []
def o256 : Obj := ob_fi vn []
def o257 : Obj := ob_tu [(vs "self" 521), (vs "due" 522), (vs "days" 523)]
def o258 : Obj := ob_tu []
def o259 : Obj := ob_fu vn (inClass (topS 23) 1) "coming" "Row.coming" 0 vn vn vn vn none vn vn
def o260 : Obj := ob_co [(vs "coming" 518), (vs "Row.coming" 519), (vs "/claim/cut.py" 520), (vi 68 0), (vi 3 0), (vi 0 0), (vi 0 0), (vi 3 0), (vr 255), (.bool true), (vi 181 0), (vr 256), vn, (vr 257), (vr 258), (vr 259), (vi 524 0), (vi 68 0), (vs "/claim/cut.py" 525)]
def o261 : Obj := ob_fu (vt "function") (inClass (topS 23) 1) "coming" "Row.coming" 3 vn vn vn (vs "readround.rows" 494) none (vr 260) vn
def o262 : Obj := ob_tu []
def o263 : Obj := ob_fi vn []
def o264 : Obj := ob_tu [(vs "self" 530)]
def o265 : Obj := ob_tu []
def o266 : Obj := ob_fu vn (inClass (topS 23) 2) "begins_anew" "Row.begins_anew" 0 vn vn vn vn none vn vn
def o267 : Obj := ob_co [(vs "begins_anew" 527), (vs "Row.begins_anew" 528), (vs "/claim/cut.py" 529), (vi 71 0), (vi 1 0), (vi 0 0), (vi 0 0), (vi 3 0), (vr 262), (.bool true), (vi 181 0), (vr 263), vn, (vr 264), (vr 265), (vr 266), (vi 531 0), (vi 71 0), (vs "/claim/cut.py" 532)]
def o268 : Obj := ob_fu (vt "function") (inClass (topS 23) 2) "begins_anew" "Row.begins_anew" 3 vn vn vn (vs "readround.rows" 494) none (vr 267) vn
def o269 : Obj := ob_tu []
def o270 : Obj := ob_fi vn []
def o271 : Obj := ob_tu [(vs "self" 537), (vs "pair" 538)]
def o272 : Obj := ob_tu []
def o273 : Obj := ob_fu vn (inClass (topS 23) 3) "holds" "Row.holds" 0 vn vn vn vn none vn vn
def o274 : Obj := ob_co [(vs "holds" 534), (vs "Row.holds" 535), (vs "/claim/cut.py" 536), (vi 74 0), (vi 2 0), (vi 0 0), (vi 0 0), (vi 3 0), (vr 269), (.bool true), (vi 181 0), (vr 270), vn, (vr 271), (vr 272), (vr 273), (vi 539 0), (vi 74 0), (vs "/claim/cut.py" 540)]
def o275 : Obj := ob_fu (vt "function") (inClass (topS 23) 3) "holds" "Row.holds" 3 vn vn vn (vs "readround.rows" 494) none (vr 274) vn
def o276 : Obj := ob_tu []
def o277 : Obj := ob_fi vn []
def o278 : Obj := ob_tu [(vs "self" 545), (vs "pair" 546), (vs "sort" 547), (vs "days" 548)]
def o279 : Obj := ob_tu []
def o280 : Obj := ob_fu vn (inClass (topS 23) 4) "over" "Row.over" 0 vn vn vn vn none vn vn
def o281 : Obj := ob_co [(vs "over" 542), (vs "Row.over" 543), (vs "/claim/cut.py" 544), (vi 77 0), (vi 4 0), (vi 0 0), (vi 0 0), (vi 3 0), (vr 276), (.bool true), (vi 181 0), (vr 277), vn, (vr 278), (vr 279), (vr 280), (vi 549 0), (vi 77 0), (vs "/claim/cut.py" 550)]
def o282 : Obj := ob_fu (vt "function") (inClass (topS 23) 4) "over" "Row.over" 3 vn vn vn (vs "readround.rows" 494) none (vr 281) vn
def o283 : Obj := ob_tu []
def o284 : Obj := ob_fi vn []
def o285 : Obj := ob_tu [(vs "self" 555), (vs "pair" 556), (vs "sort" 557)]
def o286 : Obj := ob_tu []
def o287 : Obj := ob_fu vn (inClass (topS 23) 5) "step" "Row.step" 0 vn vn vn vn none vn vn
def o288 : Obj := ob_co [(vs "step" 552), (vs "Row.step" 553), (vs "/claim/cut.py" 554), (vi 80 0), (vi 3 0), (vi 0 0), (vi 0 0), (vi 3 0), (vr 283), (.bool true), (vi 181 0), (vr 284), vn, (vr 285), (vr 286), (vr 287), (vi 558 0), (vi 80 0), (vs "/claim/cut.py" 559)]
def o289 : Obj := ob_fu (vt "function") (inClass (topS 23) 5) "step" "Row.step" 3 vn vn vn (vs "readround.rows" 494) none (vr 288) vn
def o290 : Obj := ob_tu [(vs "most" 561), (vs "name" 562), (vs "pieces" 563)]
def o291 (P : Params) : Obj := ob_di [en P "__module__" 503 (vs "readround.rows" 494), en P "__firstlineno__" 507 (vi 59 506), en P "__init__" 517 (vr 254), en P "coming" 526 (vr 261), en P "begins_anew" 533 (vr 268), en P "holds" 541 (vr 275), en P "over" 551 (vr 282), en P "step" 560 (vr 289), en P "__static_attributes__" 564 (vr 290), en P "__dict__" 566 (vr 293), en P "__weakref__" 568 (vr 294), en P "__doc__" 569 vn] 4
def o292 : Obj := ⟨(vt "type"), none, .cls (ClassData.mk (Str.ofString "Row") [(vt "object")] [(vr 292), (vt "object")] 291 (Str.ofString "Row") true [] [(vr 335), (vr 396)] false none false), #[none, none, some (vs "Row" 496), some (vs "Row" 504), some (vb "object.__new__"), some (.bool true)]⟩
def o293 : Obj := ob_fi (vt "getset_descriptor") [(vs "__dict__" 565), (vr 292), (vb "function.__dict__"), (vb "function.__dict__#set")]
def o294 : Obj := ob_fi (vt "getset_descriptor") [(vs "__weakref__" 567), (vr 292), (vb "ExceptionGroup.__weakref__"), vn]
def o295 : Obj := ob_fi (vt "super") [(vr 292), (vr 292), (vr 292)]
def o296 : Obj := ob_fi (vt "builtin_function_or_method") [(vb "object.__init_subclass__"), (vr 292)]
def o297 : Obj := ob_tu [(vr 292)]
def o298 : Obj := ob_fi (vt "builtin_function_or_method") [(vb "type.__prepare__"), (vt "type")]
def o299 (P : Params) : Obj := ob_di [en P "__module__" 579 (vs "readround.rows" 494), en P "__qualname__" 581 (vs "Going" 580), en P "__firstlineno__" 583 (vi 82 582), en P "__init__" 595 (vr 311), en P "__eq__" 603 (vr 318), en P "told" 610 (vr 325), en P "piece" 619 (vr 332), en P "__static_attributes__" 621 (vr 333)] 8
def o300 : Obj := ob_tu []
def o301 : Obj := ob_fi vn [(vi 84 0), (vi 4 0), (vr 310), (vi 90 0), (vi 4 0), (vr 317), (vi 93 0), (vi 4 0), (vr 324), (vi 96 0), (vi 4 0), (vr 331)]
def o302 : Obj := ob_co [(vs "Going" 574), (vs "Going" 575), (vs "/claim/cut.py" 576), (vi 82 0), (vi 0 0), (vi 0 0), (vi 0 0), (vi 0 0), (vr 300), (.bool false), (vi 181 0), (vr 301), vn, vn, vn, vn, (vi 577 0), (vi 82 0), (vs "/claim/cut.py" 578)]
def o303 : Obj := ⟨(vt "frame"), none, .plain, #[some (vr 302), some (vr 3), some (vr 299), none, some (vs "readround.rows" 494), none, some (vr 0)]⟩
def o304 : Obj := ob_tu [(vi 0 584)]
def o305 : Obj := ob_tu []
def o306 : Obj := ob_fi vn []
def o307 : Obj := ob_tu [(vs "self" 588), (vs "name" 589), (vs "many" 590), (vs "most" 591), (vs "begin" 592)]
def o308 : Obj := ob_tu []
def o309 : Obj := ob_fu vn (inClass (topS 24) 0) "__init__" "Going.__init__" 0 vn vn vn vn none vn vn
def o310 : Obj := ob_co [(vs "__init__" 585), (vs "Going.__init__" 586), (vs "/claim/cut.py" 587), (vi 84 0), (vi 5 0), (vi 0 0), (vi 0 0), (vi 3 0), (vr 305), (.bool true), (vi 181 0), (vr 306), vn, (vr 307), (vr 308), (vr 309), (vi 593 0), (vi 84 0), (vs "/claim/cut.py" 594)]
def o311 : Obj := ob_fu (vt "function") (inClass (topS 24) 0) "__init__" "Going.__init__" 3 (vr 304) vn vn (vs "readround.rows" 494) none (vr 310) vn
def o312 : Obj := ob_tu []
def o313 : Obj := ob_fi vn []
def o314 : Obj := ob_tu [(vs "self" 599), (vs "other" 600)]
def o315 : Obj := ob_tu []
def o316 : Obj := ob_fu vn (inClass (topS 24) 1) "__eq__" "Going.__eq__" 0 vn vn vn vn none vn vn
def o317 : Obj := ob_co [(vs "__eq__" 596), (vs "Going.__eq__" 597), (vs "/claim/cut.py" 598), (vi 90 0), (vi 2 0), (vi 0 0), (vi 0 0), (vi 3 0), (vr 312), (.bool true), (vi 181 0), (vr 313), vn, (vr 314), (vr 315), (vr 316), (vi 601 0), (vi 90 0), (vs "/claim/cut.py" 602)]
def o318 : Obj := ob_fu (vt "function") (inClass (topS 24) 1) "__eq__" "Going.__eq__" 3 vn vn vn (vs "readround.rows" 494) none (vr 317) vn
def o319 : Obj := ob_tu []
def o320 : Obj := ob_fi vn []
def o321 : Obj := ob_tu [(vs "self" 607)]
def o322 : Obj := ob_tu []
def o323 : Obj := ob_fu vn (inClass (topS 24) 2) "told" "Going.told" 0 vn vn vn vn none vn vn
def o324 : Obj := ob_co [(vs "told" 604), (vs "Going.told" 605), (vs "/claim/cut.py" 606), (vi 93 0), (vi 1 0), (vi 0 0), (vi 0 0), (vi 3 0), (vr 319), (.bool true), (vi 181 0), (vr 320), vn, (vr 321), (vr 322), (vr 323), (vi 608 0), (vi 93 0), (vs "/claim/cut.py" 609)]
def o325 : Obj := ob_fu (vt "function") (inClass (topS 24) 2) "told" "Going.told" 3 vn vn vn (vs "readround.rows" 494) none (vr 324) vn
def o326 : Obj := ob_tu []
def o327 : Obj := ob_fi vn []
def o328 : Obj := ob_tu [(vs "self" 614), (vs "number" 615), (vs "year" 616)]
def o329 : Obj := ob_tu []
def o330 : Obj := ob_fu vn (inClass (topS 24) 3) "piece" "Going.piece" 0 vn vn vn vn none vn vn
def o331 : Obj := ob_co [(vs "piece" 611), (vs "Going.piece" 612), (vs "/claim/cut.py" 613), (vi 96 0), (vi 3 0), (vi 0 0), (vi 0 0), (vi 3 0), (vr 326), (.bool true), (vi 181 0), (vr 327), vn, (vr 328), (vr 329), (vr 330), (vi 617 0), (vi 96 0), (vs "/claim/cut.py" 618)]
def o332 : Obj := ob_fu (vt "function") (inClass (topS 24) 3) "piece" "Going.piece" 3 vn vn vn (vs "readround.rows" 494) none (vr 331) vn
def o333 : Obj := ob_tu [(vs "begin" 620)]
def o334 (P : Params) : Obj := ob_di [en P "__module__" 579 (vs "readround.rows" 494), en P "__firstlineno__" 583 (vi 82 582), en P "__init__" 595 (vr 311), en P "__eq__" 603 (vr 318), en P "told" 610 (vr 325), en P "piece" 619 (vr 332), en P "__static_attributes__" 621 (vr 333), en P "__doc__" 622 vn, en P "__hash__" 623 vn] 3
def o335 : Obj := ⟨(vt "type"), none, .cls (ClassData.mk (Str.ofString "Going") [(vr 292)] [(vr 335), (vr 292), (vt "object")] 334 (Str.ofString "Going") true [] [] false none false), #[some (vr 297), none, some (vs "Going" 572), some (vs "Going" 580), some (vb "object.__new__"), some (.bool true)]⟩
def o336 : Obj := ob_fi (vt "super") [(vr 335), (vr 335), (vr 335)]
def o337 : Obj := ob_fi (vt "builtin_function_or_method") [(vb "object.__init_subclass__"), (vr 335)]
def o338 : Obj := ob_tu [(vr 292)]
def o339 : Obj := ob_fi (vt "builtin_function_or_method") [(vb "type.__prepare__"), (vt "type")]
def o340 (P : Params) : Obj := ob_di [en P "__module__" 633 (vs "readround.rows" 494), en P "__qualname__" 635 (vs "Yearly" 634), en P "__firstlineno__" 637 (vi 98 636), en P "__init__" 647 (vr 351), en P "coming" 656 (vr 358), en P "begins_anew" 663 (vr 365), en P "holds" 671 (vr 372), en P "__eq__" 679 (vr 379), en P "told" 686 (vr 386), en P "piece" 695 (vr 393), en P "__static_attributes__" 696 (vr 394)] 11
def o341 : Obj := ob_tu []
def o342 : Obj := ob_fi vn [(vi 100 0), (vi 4 0), (vr 350), (vi 103 0), (vi 4 0), (vr 357), (vi 106 0), (vi 4 0), (vr 364), (vi 109 0), (vi 4 0), (vr 371), (vi 112 0), (vi 4 0), (vr 378), (vi 115 0), (vi 4 0), (vr 385), (vi 118 0), (vi 4 0), (vr 392)]
def o343 : Obj := ob_co [(vs "Yearly" 628), (vs "Yearly" 629), (vs "/claim/cut.py" 630), (vi 98 0), (vi 0 0), (vi 0 0), (vi 0 0), (vi 0 0), (vr 341), (.bool false), (vi 181 0), (vr 342), vn, vn, vn, vn, (vi 631 0), (vi 98 0), (vs "/claim/cut.py" 632)]
def o344 : Obj := ⟨(vt "frame"), none, .plain, #[some (vr 343), some (vr 3), some (vr 340), none, some (vs "readround.rows" 494), none, some (vr 0)]⟩
def o345 : Obj := ob_tu []
def o346 : Obj := ob_fi vn []
def o347 : Obj := ob_tu [(vs "self" 641), (vs "name" 642), (vs "many" 643), (vs "most" 644)]
def o348 : Obj := ob_tu []
def o349 : Obj := ob_fu vn (inClass (topS 25) 0) "__init__" "Yearly.__init__" 0 vn vn vn vn none vn vn
def o350 : Obj := ob_co [(vs "__init__" 638), (vs "Yearly.__init__" 639), (vs "/claim/cut.py" 640), (vi 100 0), (vi 4 0), (vi 0 0), (vi 0 0), (vi 3 0), (vr 345), (.bool true), (vi 181 0), (vr 346), vn, (vr 347), (vr 348), (vr 349), (vi 645 0), (vi 100 0), (vs "/claim/cut.py" 646)]
def o351 : Obj := ob_fu (vt "function") (inClass (topS 25) 0) "__init__" "Yearly.__init__" 3 vn vn vn (vs "readround.rows" 494) none (vr 350) vn
def o352 : Obj := ob_tu []
def o353 : Obj := ob_fi vn []
def o354 : Obj := ob_tu [(vs "self" 651), (vs "due" 652), (vs "days" 653)]
def o355 : Obj := ob_tu []
def o356 : Obj := ob_fu vn (inClass (topS 25) 1) "coming" "Yearly.coming" 0 vn vn vn vn none vn vn
def o357 : Obj := ob_co [(vs "coming" 648), (vs "Yearly.coming" 649), (vs "/claim/cut.py" 650), (vi 103 0), (vi 3 0), (vi 0 0), (vi 0 0), (vi 3 0), (vr 352), (.bool true), (vi 181 0), (vr 353), vn, (vr 354), (vr 355), (vr 356), (vi 654 0), (vi 103 0), (vs "/claim/cut.py" 655)]
def o358 : Obj := ob_fu (vt "function") (inClass (topS 25) 1) "coming" "Yearly.coming" 3 vn vn vn (vs "readround.rows" 494) none (vr 357) vn
def o359 : Obj := ob_tu []
def o360 : Obj := ob_fi vn []
def o361 : Obj := ob_tu [(vs "self" 660)]
def o362 : Obj := ob_tu []
def o363 : Obj := ob_fu vn (inClass (topS 25) 2) "begins_anew" "Yearly.begins_anew" 0 vn vn vn vn none vn vn
def o364 : Obj := ob_co [(vs "begins_anew" 657), (vs "Yearly.begins_anew" 658), (vs "/claim/cut.py" 659), (vi 106 0), (vi 1 0), (vi 0 0), (vi 0 0), (vi 3 0), (vr 359), (.bool true), (vi 181 0), (vr 360), vn, (vr 361), (vr 362), (vr 363), (vi 661 0), (vi 106 0), (vs "/claim/cut.py" 662)]
def o365 : Obj := ob_fu (vt "function") (inClass (topS 25) 2) "begins_anew" "Yearly.begins_anew" 3 vn vn vn (vs "readround.rows" 494) none (vr 364) vn
def o366 : Obj := ob_tu []
def o367 : Obj := ob_fi vn []
def o368 : Obj := ob_tu [(vs "self" 667), (vs "pair" 668)]
def o369 : Obj := ob_tu []
def o370 : Obj := ob_fu vn (inClass (topS 25) 3) "holds" "Yearly.holds" 0 vn vn vn vn none vn vn
def o371 : Obj := ob_co [(vs "holds" 664), (vs "Yearly.holds" 665), (vs "/claim/cut.py" 666), (vi 109 0), (vi 2 0), (vi 0 0), (vi 0 0), (vi 3 0), (vr 366), (.bool true), (vi 181 0), (vr 367), vn, (vr 368), (vr 369), (vr 370), (vi 669 0), (vi 109 0), (vs "/claim/cut.py" 670)]
def o372 : Obj := ob_fu (vt "function") (inClass (topS 25) 3) "holds" "Yearly.holds" 3 vn vn vn (vs "readround.rows" 494) none (vr 371) vn
def o373 : Obj := ob_tu []
def o374 : Obj := ob_fi vn []
def o375 : Obj := ob_tu [(vs "self" 675), (vs "other" 676)]
def o376 : Obj := ob_tu []
def o377 : Obj := ob_fu vn (inClass (topS 25) 4) "__eq__" "Yearly.__eq__" 0 vn vn vn vn none vn vn
def o378 : Obj := ob_co [(vs "__eq__" 672), (vs "Yearly.__eq__" 673), (vs "/claim/cut.py" 674), (vi 112 0), (vi 2 0), (vi 0 0), (vi 0 0), (vi 3 0), (vr 373), (.bool true), (vi 181 0), (vr 374), vn, (vr 375), (vr 376), (vr 377), (vi 677 0), (vi 112 0), (vs "/claim/cut.py" 678)]
def o379 : Obj := ob_fu (vt "function") (inClass (topS 25) 4) "__eq__" "Yearly.__eq__" 3 vn vn vn (vs "readround.rows" 494) none (vr 378) vn
def o380 : Obj := ob_tu []
def o381 : Obj := ob_fi vn []
def o382 : Obj := ob_tu [(vs "self" 683)]
def o383 : Obj := ob_tu []
def o384 : Obj := ob_fu vn (inClass (topS 25) 5) "told" "Yearly.told" 0 vn vn vn vn none vn vn
def o385 : Obj := ob_co [(vs "told" 680), (vs "Yearly.told" 681), (vs "/claim/cut.py" 682), (vi 115 0), (vi 1 0), (vi 0 0), (vi 0 0), (vi 3 0), (vr 380), (.bool true), (vi 181 0), (vr 381), vn, (vr 382), (vr 383), (vr 384), (vi 684 0), (vi 115 0), (vs "/claim/cut.py" 685)]
def o386 : Obj := ob_fu (vt "function") (inClass (topS 25) 5) "told" "Yearly.told" 3 vn vn vn (vs "readround.rows" 494) none (vr 385) vn
def o387 : Obj := ob_tu []
def o388 : Obj := ob_fi vn []
def o389 : Obj := ob_tu [(vs "self" 690), (vs "number" 691), (vs "year" 692)]
def o390 : Obj := ob_tu []
def o391 : Obj := ob_fu vn (inClass (topS 25) 6) "piece" "Yearly.piece" 0 vn vn vn vn none vn vn
def o392 : Obj := ob_co [(vs "piece" 687), (vs "Yearly.piece" 688), (vs "/claim/cut.py" 689), (vi 118 0), (vi 3 0), (vi 0 0), (vi 0 0), (vi 3 0), (vr 387), (.bool true), (vi 181 0), (vr 388), vn, (vr 389), (vr 390), (vr 391), (vi 693 0), (vi 118 0), (vs "/claim/cut.py" 694)]
def o393 : Obj := ob_fu (vt "function") (inClass (topS 25) 6) "piece" "Yearly.piece" 3 vn vn vn (vs "readround.rows" 494) none (vr 392) vn
def o394 : Obj := ob_tu []
def o395 (P : Params) : Obj := ob_di [en P "__module__" 633 (vs "readround.rows" 494), en P "__firstlineno__" 637 (vi 98 636), en P "__init__" 647 (vr 351), en P "coming" 656 (vr 358), en P "begins_anew" 663 (vr 365), en P "holds" 671 (vr 372), en P "__eq__" 679 (vr 379), en P "told" 686 (vr 386), en P "piece" 695 (vr 393), en P "__static_attributes__" 696 (vr 394), en P "__doc__" 697 vn, en P "__hash__" 698 vn] 3
def o396 : Obj := ⟨(vt "type"), none, .cls (ClassData.mk (Str.ofString "Yearly") [(vr 292)] [(vr 396), (vr 292), (vt "object")] 395 (Str.ofString "Yearly") true [] [] false none false), #[some (vr 338), none, some (vs "Yearly" 626), some (vs "Yearly" 634), some (vb "object.__new__"), some (.bool true)]⟩
def o397 : Obj := ob_fi (vt "super") [(vr 396), (vr 396), (vr 396)]
def o398 : Obj := ob_fi (vt "builtin_function_or_method") [(vb "object.__init_subclass__"), (vr 396)]
def o3_3 (P : Params) : Obj := ob_di [en P "__name__" 165 (vs "law_readround_k23_rows_known" 789), en P "__doc__" 166 vn, en P "__package__" 167 vn, en P "__loader__" 168 (vb "__main__.__loader__#opaque"), en P "__spec__" 169 vn, en P "__annotations__" 170 (vr 6), en P "__builtins__" 171 (vr 4), en P "__file__" 173 (vs "/claim/cut.py" 172), en P "__cached__" 174 vn, en P "_wall" 193 (vr 21), en P "ReadError" 213 (vr 31), en P "BadBook" 229 (vr 44), en P "BadCalendar" 245 (vr 56), en P "BadFeast" 261 (vr 68), en P "BadRow" 277 (vr 80), en P "BadHouse" 293 (vr 92), en P "BadNumber" 309 (vr 104), en P "NoDay" 325 (vr 116), en P "NoRow" 341 (vr 128), en P "NoPiece" 357 (vr 140), en P "TooTight" 382 (vr 159), en P "NeverDone" 411 (vr 178), en P "TooFar" 427 (vr 190), en P "NoDeed" 443 (vr 202), en P "BadText" 468 (vr 221), en P "LETTERS" 472 (vs "abcdefghijklmnopqrstuvwxyz" 471), en P "is_number" 481 (vr 230), en P "is_name" 487 (vr 235), en P "are_numbers" 493 (vr 240), en P "Row" 571 (vr 292), en P "Going" 625 (vr 335), en P "Yearly" 700 (vr 396), en P "need_day" 709 (vr 405), en P "Calendar" 788 (vr 462), en P "_law_begun" 796 (vr 471), en P "_law_take" 807 (vr 478), en P "_law_pick" 815 (vr 485), en P "_law_marks" 823 (vr 492), en P "_law_is_alone" 834 (vr 499), en P "_law_worth" 845 (vr 506), en P "_law_title" 851 (vr 511), en P "_law_is_number" 860 (vr 518), en P "_law_is_title" 866 (vr 523), en P "_law_is_row" 878 (vr 530), en P "_law_made" 894 (vr 537), en P "_law_others" 908 (vr 544), en P "_law_is_told" 921 (vr 551), en P "law" 938 (vr 558)] 48
def o12_4 : Obj := ob_fi vn [(vi 1 0), (vi 0 0), (vr 20), (vi 5 0), (vi 0 0), (vr 27), (vi 7 0), (vi 0 0), (vr 40), (vi 9 0), (vi 0 0), (vr 52), (vi 11 0), (vi 0 0), (vr 64), (vi 13 0), (vi 0 0), (vr 76), (vi 15 0), (vi 0 0), (vr 88), (vi 17 0), (vi 0 0), (vr 100), (vi 19 0), (vi 0 0), (vr 112), (vi 21 0), (vi 0 0), (vr 124), (vi 23 0), (vi 0 0), (vr 136), (vi 25 0), (vi 0 0), (vr 148), (vi 30 0), (vi 0 0), (vr 167), (vi 37 0), (vi 0 0), (vr 186), (vi 39 0), (vi 0 0), (vr 198), (vi 41 0), (vi 0 0), (vr 210), (vi 48 0), (vi 0 0), (vr 229), (vi 50 0), (vi 0 0), (vr 234), (vi 54 0), (vi 0 0), (vr 239), (vi 59 0), (vi 0 0), (vr 246), (vi 82 0), (vi 0 0), (vr 302), (vi 98 0), (vi 0 0), (vr 343), (vi 121 0), (vi 0 0), (vr 404), (vi 124 0), (vi 0 0), (vr 411), (vi 160 0), (vi 0 0), (vr 470), (vi 163 0), (vi 0 0), (vr 477), (vi 177 0), (vi 0 0), (vr 484), (vi 179 0), (vi 0 0), (vr 491), (vi 184 0), (vi 0 0), (vr 498), (vi 189 0), (vi 0 0), (vr 505), (vi 201 0), (vi 0 0), (vr 510), (vi 214 0), (vi 0 0), (vr 517), (vi 216 0), (vi 0 0), (vr 522), (vi 221 0), (vi 0 0), (vr 529), (vi 226 0), (vi 0 0), (vr 536), (vi 244 0), (vi 0 0), (vr 543), (vi 256 0), (vi 0 0), (vr 550), (vi 275 0), (vi 0 0), (vr 557)]
def o399 : Obj := ob_tu []
def o400 : Obj := ob_fi vn []
def o401 : Obj := ob_tu [(vs "number" 706)]
def o402 : Obj := ob_tu []
def o403 : Obj := ob_fu vn (topS 27) "need_day" "need_day" 0 vn vn vn vn none vn vn
def o404 : Obj := ob_co [(vs "need_day" 703), (vs "need_day" 704), (vs "/claim/cut.py" 705), (vi 121 0), (vi 1 0), (vi 0 0), (vi 0 0), (vi 3 0), (vr 399), (.bool true), (vi 181 0), (vr 400), vn, (vr 401), (vr 402), (vr 403), (vi 707 0), (vi 121 0), (vs "/claim/cut.py" 708)]
def o405 : Obj := ob_fu (vt "function") (topS 27) "need_day" "need_day" 3 vn vn vn (vs "readround.calendars" 701) none (vr 404) vn
def o406 : Obj := ob_tu []
def o407 : Obj := ob_fi (vt "builtin_function_or_method") [(vb "type.__prepare__"), (vt "type")]
def o408 (P : Params) : Obj := ob_di [en P "__module__" 717 (vs "readround.calendars" 701), en P "__qualname__" 719 (vs "Calendar" 718), en P "__firstlineno__" 721 (vi 124 720), en P "__init__" 730 (vr 419), en P "__eq__" 738 (vr 426), en P "years" 745 (vr 433), en P "turn" 752 (vr 440), en P "long" 760 (vr 447), en P "first" 770 (vr 454), en P "at" 776 (vr 459), en P "__static_attributes__" 780 (vr 460)] 11
def o409 : Obj := ob_tu []
def o410 : Obj := ob_fi vn [(vi 126 0), (vi 4 0), (vr 418), (vi 136 0), (vi 4 0), (vr 425), (vi 139 0), (vi 4 0), (vr 432), (vi 142 0), (vi 4 0), (vr 439), (vi 145 0), (vi 4 0), (vr 446), (vi 149 0), (vi 4 0), (vr 453), (vi 154 0), (vi 4 0), (vr 458)]
def o411 : Obj := ob_co [(vs "Calendar" 712), (vs "Calendar" 713), (vs "/claim/cut.py" 714), (vi 124 0), (vi 0 0), (vi 0 0), (vi 0 0), (vi 0 0), (vr 409), (.bool false), (vi 181 0), (vr 410), vn, vn, vn, vn, (vi 715 0), (vi 124 0), (vs "/claim/cut.py" 716)]
def o412 : Obj := ⟨(vt "frame"), none, .plain, #[some (vr 411), some (vr 3), some (vr 408), none, some (vs "readround.calendars" 701), none, some (vr 0)]⟩
def o413 : Obj := ob_tu []
def o414 : Obj := ob_fi vn []
def o415 : Obj := ob_tu [(vs "self" 725), (vs "years" 726), (vs "days" 727)]
def o416 : Obj := ob_tu []
def o417 : Obj := ob_fu vn (inClass (topS 28) 0) "__init__" "Calendar.__init__" 0 vn vn vn vn none vn vn
def o418 : Obj := ob_co [(vs "__init__" 722), (vs "Calendar.__init__" 723), (vs "/claim/cut.py" 724), (vi 126 0), (vi 2 0), (vi 0 0), (vi 0 0), (vi 3 0), (vr 413), (.bool true), (vi 181 0), (vr 414), vn, (vr 415), (vr 416), (vr 417), (vi 728 0), (vi 126 0), (vs "/claim/cut.py" 729)]
def o419 : Obj := ob_fu (vt "function") (inClass (topS 28) 0) "__init__" "Calendar.__init__" 3 vn vn vn (vs "readround.calendars" 701) none (vr 418) vn
def o420 : Obj := ob_tu []
def o421 : Obj := ob_fi vn []
def o422 : Obj := ob_tu [(vs "self" 734), (vs "other" 735)]
def o423 : Obj := ob_tu []
def o424 : Obj := ob_fu vn (inClass (topS 28) 1) "__eq__" "Calendar.__eq__" 0 vn vn vn vn none vn vn
def o425 : Obj := ob_co [(vs "__eq__" 731), (vs "Calendar.__eq__" 732), (vs "/claim/cut.py" 733), (vi 136 0), (vi 2 0), (vi 0 0), (vi 0 0), (vi 3 0), (vr 420), (.bool true), (vi 181 0), (vr 421), vn, (vr 422), (vr 423), (vr 424), (vi 736 0), (vi 136 0), (vs "/claim/cut.py" 737)]
def o426 : Obj := ob_fu (vt "function") (inClass (topS 28) 1) "__eq__" "Calendar.__eq__" 3 vn vn vn (vs "readround.calendars" 701) none (vr 425) vn
def o427 : Obj := ob_tu []
def o428 : Obj := ob_fi vn []
def o429 : Obj := ob_tu [(vs "self" 742)]
def o430 : Obj := ob_tu []
def o431 : Obj := ob_fu vn (inClass (topS 28) 2) "years" "Calendar.years" 0 vn vn vn vn none vn vn
def o432 : Obj := ob_co [(vs "years" 739), (vs "Calendar.years" 740), (vs "/claim/cut.py" 741), (vi 139 0), (vi 1 0), (vi 0 0), (vi 0 0), (vi 3 0), (vr 427), (.bool true), (vi 181 0), (vr 428), vn, (vr 429), (vr 430), (vr 431), (vi 743 0), (vi 139 0), (vs "/claim/cut.py" 744)]
def o433 : Obj := ob_fu (vt "function") (inClass (topS 28) 2) "years" "Calendar.years" 3 vn vn vn (vs "readround.calendars" 701) none (vr 432) vn
def o434 : Obj := ob_tu []
def o435 : Obj := ob_fi vn []
def o436 : Obj := ob_tu [(vs "self" 749)]
def o437 : Obj := ob_tu []
def o438 : Obj := ob_fu vn (inClass (topS 28) 3) "turn" "Calendar.turn" 0 vn vn vn vn none vn vn
def o439 : Obj := ob_co [(vs "turn" 746), (vs "Calendar.turn" 747), (vs "/claim/cut.py" 748), (vi 142 0), (vi 1 0), (vi 0 0), (vi 0 0), (vi 3 0), (vr 434), (.bool true), (vi 181 0), (vr 435), vn, (vr 436), (vr 437), (vr 438), (vi 750 0), (vi 142 0), (vs "/claim/cut.py" 751)]
def o440 : Obj := ob_fu (vt "function") (inClass (topS 28) 3) "turn" "Calendar.turn" 3 vn vn vn (vs "readround.calendars" 701) none (vr 439) vn
def o441 : Obj := ob_tu []
def o442 : Obj := ob_fi vn []
def o443 : Obj := ob_tu [(vs "self" 756), (vs "year" 757)]
def o444 : Obj := ob_tu []
def o445 : Obj := ob_fu vn (inClass (topS 28) 4) "long" "Calendar.long" 0 vn vn vn vn none vn vn
def o446 : Obj := ob_co [(vs "long" 753), (vs "Calendar.long" 754), (vs "/claim/cut.py" 755), (vi 145 0), (vi 2 0), (vi 0 0), (vi 0 0), (vi 3 0), (vr 441), (.bool true), (vi 181 0), (vr 442), vn, (vr 443), (vr 444), (vr 445), (vi 758 0), (vi 145 0), (vs "/claim/cut.py" 759)]
def o447 : Obj := ob_fu (vt "function") (inClass (topS 28) 4) "long" "Calendar.long" 3 vn vn vn (vs "readround.calendars" 701) none (vr 446) vn
def o448 : Obj := ob_tu []
def o449 : Obj := ob_fi vn []
def o450 : Obj := ob_tu [(vs "self" 764), (vs "year" 765), (vs "turns" 766), (vs "place" 767)]
def o451 : Obj := ob_tu []
def o452 : Obj := ob_fu vn (inClass (topS 28) 5) "first" "Calendar.first" 0 vn vn vn vn none vn vn
def o453 : Obj := ob_co [(vs "first" 761), (vs "Calendar.first" 762), (vs "/claim/cut.py" 763), (vi 149 0), (vi 2 0), (vi 0 0), (vi 0 0), (vi 3 0), (vr 448), (.bool true), (vi 181 0), (vr 449), vn, (vr 450), (vr 451), (vr 452), (vi 768 0), (vi 149 0), (vs "/claim/cut.py" 769)]
def o454 : Obj := ob_fu (vt "function") (inClass (topS 28) 5) "first" "Calendar.first" 3 vn vn vn (vs "readround.calendars" 701) none (vr 453) vn
def o455 : Obj := ob_tu []
def o456 : Obj := ob_fi vn []
def o457 : Obj := ob_fu vn (inClass (topS 28) 6) "at" "Calendar.at" 0 vn vn vn vn none vn vn
def o458 : Obj := ob_co [(vs "at" 771), (vs "Calendar.at" 772), (vs "/claim/cut.py" 773), (vi 154 0), (vi 2 0), (vi 0 0), (vi 0 0), (vi 3 0), (vr 455), (.bool true), (vi 181 0), (vr 456), vn, vn, vn, (vr 457), (vi 774 0), (vi 154 0), (vs "/claim/cut.py" 775)]
def o459 : Obj := ob_fu (vt "function") (inClass (topS 28) 6) "at" "Calendar.at" 3 vn vn vn (vs "readround.calendars" 701) none (vr 458) vn
def o460 : Obj := ob_tu [(vs "begins" 777), (vs "lengths" 778), (vs "whole" 779)]
def o461 (P : Params) : Obj := ob_di [en P "__module__" 717 (vs "readround.calendars" 701), en P "__firstlineno__" 721 (vi 124 720), en P "__init__" 730 (vr 419), en P "__eq__" 738 (vr 426), en P "years" 745 (vr 433), en P "turn" 752 (vr 440), en P "long" 760 (vr 447), en P "first" 770 (vr 454), en P "at" 776 (vr 459), en P "__static_attributes__" 780 (vr 460), en P "__dict__" 782 (vr 463), en P "__weakref__" 784 (vr 464), en P "__doc__" 785 vn, en P "__hash__" 786 vn] 5
def o462 : Obj := ⟨(vt "type"), none, .cls (ClassData.mk (Str.ofString "Calendar") [(vt "object")] [(vr 462), (vt "object")] 461 (Str.ofString "Calendar") true [] [] false none false), #[none, none, some (vs "Calendar" 710), some (vs "Calendar" 718), some (vb "object.__new__"), some (.bool true)]⟩
def o463 : Obj := ob_fi (vt "getset_descriptor") [(vs "__dict__" 781), (vr 462), (vb "function.__dict__"), (vb "function.__dict__#set")]
def o464 : Obj := ob_fi (vt "getset_descriptor") [(vs "__weakref__" 783), (vr 462), (vb "ExceptionGroup.__weakref__"), vn]
def o465 : Obj := ob_fi (vt "super") [(vr 462), (vr 462), (vr 462)]
def o466 : Obj := ob_fi (vt "builtin_function_or_method") [(vb "object.__init_subclass__"), (vr 462)]
def o467 : Obj := ob_tu []
def o468 : Obj := ob_fi vn []
def o469 : Obj := ob_fu vn (topS 30) "_law_begun" "_law_begun" 0 vn vn vn vn none vn vn
def o470 : Obj := ob_co [(vs "_law_begun" 791), (vs "_law_begun" 792), (vs "/claim/cut.py" 793), (vi 160 0), (vi 1 0), (vi 0 0), (vi 0 0), (vi 3 0), (vr 467), (.bool true), (vi 181 0), (vr 468), vn, vn, vn, (vr 469), (vi 794 0), (vi 160 0), (vs "/claim/cut.py" 795)]
def o471 : Obj := ob_fu (vt "function") (topS 30) "_law_begun" "_law_begun" 3 vn vn vn (vs "law_readround_k23_rows_known" 789) none (vr 470) vn
def o472 : Obj := ob_tu []
def o473 : Obj := ob_fi vn []
def o474 : Obj := ob_tu [(vs "_law_draw" 800), (vs "_law_size" 801), (vs "_law_found" 802), (vs "_law_cell" 803), (vs "_law_mixed" 804)]
def o475 : Obj := ob_tu []
def o476 : Obj := ob_fu vn (topS 31) "_law_take" "_law_take" 0 vn vn vn vn none vn vn
def o477 : Obj := ob_co [(vs "_law_take" 797), (vs "_law_take" 798), (vs "/claim/cut.py" 799), (vi 163 0), (vi 2 0), (vi 0 0), (vi 0 0), (vi 3 0), (vr 472), (.bool true), (vi 181 0), (vr 473), vn, (vr 474), (vr 475), (vr 476), (vi 805 0), (vi 163 0), (vs "/claim/cut.py" 806)]
def o478 : Obj := ob_fu (vt "function") (topS 31) "_law_take" "_law_take" 3 vn vn vn (vs "law_readround_k23_rows_known" 789) none (vr 477) vn
def o479 : Obj := ob_tu []
def o480 : Obj := ob_fi vn []
def o481 : Obj := ob_tu [(vs "_law_draw" 811), (vs "_law_some" 812)]
def o482 : Obj := ob_tu []
def o483 : Obj := ob_fu vn (topS 32) "_law_pick" "_law_pick" 0 vn vn vn vn none vn vn
def o484 : Obj := ob_co [(vs "_law_pick" 808), (vs "_law_pick" 809), (vs "/claim/cut.py" 810), (vi 177 0), (vi 2 0), (vi 0 0), (vi 0 0), (vi 3 0), (vr 479), (.bool true), (vi 181 0), (vr 480), vn, (vr 481), (vr 482), (vr 483), (vi 813 0), (vi 177 0), (vs "/claim/cut.py" 814)]
def o485 : Obj := ob_fu (vt "function") (topS 32) "_law_pick" "_law_pick" 3 vn vn vn (vs "law_readround_k23_rows_known" 789) none (vr 484) vn
def o486 : Obj := ob_tu []
def o487 : Obj := ob_fi vn []
def o488 : Obj := ob_tu [(vs "_law_e" 819), (vs "_law_marks_here" 820)]
def o489 : Obj := ob_tu []
def o490 : Obj := ob_fu vn (topS 33) "_law_marks" "_law_marks" 0 vn vn vn vn none vn vn
def o491 : Obj := ob_co [(vs "_law_marks" 816), (vs "_law_marks" 817), (vs "/claim/cut.py" 818), (vi 179 0), (vi 1 0), (vi 0 0), (vi 0 0), (vi 3 0), (vr 486), (.bool true), (vi 181 0), (vr 487), vn, (vr 488), (vr 489), (vr 490), (vi 821 0), (vi 179 0), (vs "/claim/cut.py" 822)]
def o492 : Obj := ob_fu (vt "function") (topS 33) "_law_marks" "_law_marks" 3 vn vn vn (vs "law_readround_k23_rows_known" 789) none (vr 491) vn
def o493 : Obj := ob_tu []
def o494 : Obj := ob_fi vn []
def o495 : Obj := ob_tu [(vs "_law_e" 827), (vs "_law_word" 828), (vs "_law_words" 829), (vs "_law_place" 830), (vs "_law_marks_here" 831)]
def o496 : Obj := ob_tu []
def o497 : Obj := ob_fu vn (topS 34) "_law_is_alone" "_law_is_alone" 0 vn vn vn vn none vn vn
def o498 : Obj := ob_co [(vs "_law_is_alone" 824), (vs "_law_is_alone" 825), (vs "/claim/cut.py" 826), (vi 184 0), (vi 2 0), (vi 0 0), (vi 0 0), (vi 3 0), (vr 493), (.bool true), (vi 181 0), (vr 494), vn, (vr 495), (vr 496), (vr 497), (vi 832 0), (vi 184 0), (vs "/claim/cut.py" 833)]
def o499 : Obj := ob_fu (vt "function") (topS 34) "_law_is_alone" "_law_is_alone" 3 vn vn vn (vs "law_readround_k23_rows_known" 789) none (vr 498) vn
def o500 : Obj := ob_tu []
def o501 : Obj := ob_fi vn []
def o502 : Obj := ob_tu [(vs "_law_draw" 838), (vs "_law_low" 839), (vs "_law_top" 840), (vs "_law_kind" 841), (vs "_law_beyond" 842)]
def o503 : Obj := ob_tu []
def o504 : Obj := ob_fu vn (topS 35) "_law_worth" "_law_worth" 0 vn vn vn vn none vn vn
def o505 : Obj := ob_co [(vs "_law_worth" 835), (vs "_law_worth" 836), (vs "/claim/cut.py" 837), (vi 189 0), (vi 3 0), (vi 0 0), (vi 0 0), (vi 3 0), (vr 500), (.bool true), (vi 181 0), (vr 501), vn, (vr 502), (vr 503), (vr 504), (vi 843 0), (vi 189 0), (vs "/claim/cut.py" 844)]
def o506 : Obj := ob_fu (vt "function") (topS 35) "_law_worth" "_law_worth" 3 vn vn vn (vs "law_readround_k23_rows_known" 789) none (vr 505) vn
def o507 : Obj := ob_tu []
def o508 : Obj := ob_fi vn []
def o509 : Obj := ob_fu vn (topS 36) "_law_title" "_law_title" 0 vn vn vn vn none vn vn
def o510 : Obj := ob_co [(vs "_law_title" 846), (vs "_law_title" 847), (vs "/claim/cut.py" 848), (vi 201 0), (vi 1 0), (vi 0 0), (vi 0 0), (vi 3 0), (vr 507), (.bool true), (vi 181 0), (vr 508), vn, vn, vn, (vr 509), (vi 849 0), (vi 201 0), (vs "/claim/cut.py" 850)]
def o511 : Obj := ob_fu (vt "function") (topS 36) "_law_title" "_law_title" 3 vn vn vn (vs "law_readround_k23_rows_known" 789) none (vr 510) vn
def o512 : Obj := ob_tu []
def o513 : Obj := ob_fi vn []
def o514 : Obj := ob_tu [(vs "_law_thing" 855), (vs "_law_low" 856), (vs "_law_top" 857)]
def o515 : Obj := ob_tu []
def o516 : Obj := ob_fu vn (topS 37) "_law_is_number" "_law_is_number" 0 vn vn vn vn none vn vn
def o517 : Obj := ob_co [(vs "_law_is_number" 852), (vs "_law_is_number" 853), (vs "/claim/cut.py" 854), (vi 214 0), (vi 3 0), (vi 0 0), (vi 0 0), (vi 3 0), (vr 512), (.bool true), (vi 181 0), (vr 513), vn, (vr 514), (vr 515), (vr 516), (vi 858 0), (vi 214 0), (vs "/claim/cut.py" 859)]
def o518 : Obj := ob_fu (vt "function") (topS 37) "_law_is_number" "_law_is_number" 3 vn vn vn (vs "law_readround_k23_rows_known" 789) none (vr 517) vn
def o519 : Obj := ob_tu []
def o520 : Obj := ob_fi vn []
def o521 : Obj := ob_fu vn (topS 38) "_law_is_title" "_law_is_title" 0 vn vn vn vn none vn vn
def o522 : Obj := ob_co [(vs "_law_is_title" 861), (vs "_law_is_title" 862), (vs "/claim/cut.py" 863), (vi 216 0), (vi 1 0), (vi 0 0), (vi 0 0), (vi 3 0), (vr 519), (.bool true), (vi 181 0), (vr 520), vn, vn, vn, (vr 521), (vi 864 0), (vi 216 0), (vs "/claim/cut.py" 865)]
def o523 : Obj := ob_fu (vt "function") (topS 38) "_law_is_title" "_law_is_title" 3 vn vn vn (vs "law_readround_k23_rows_known" 789) none (vr 522) vn
def o524 : Obj := ob_tu []
def o525 : Obj := ob_fi vn []
def o526 : Obj := ob_tu [(vs "_law_row" 870), (vs "_law_kind" 871), (vs "_law_title_here" 872), (vs "_law_often" 873), (vs "_law_top" 874), (vs "_law_start" 875)]
def o527 : Obj := ob_tu []
def o528 : Obj := ob_fu vn (topS 39) "_law_is_row" "_law_is_row" 0 vn vn vn vn none vn vn
def o529 : Obj := ob_co [(vs "_law_is_row" 867), (vs "_law_is_row" 868), (vs "/claim/cut.py" 869), (vi 221 0), (vi 1 0), (vi 0 0), (vi 0 0), (vi 3 0), (vr 524), (.bool true), (vi 181 0), (vr 525), vn, (vr 526), (vr 527), (vr 528), (vi 876 0), (vi 221 0), (vs "/claim/cut.py" 877)]
def o530 : Obj := ob_fu (vt "function") (topS 39) "_law_is_row" "_law_is_row" 3 vn vn vn (vs "law_readround_k23_rows_known" 789) none (vr 529) vn
def o531 : Obj := ob_tu []
def o532 : Obj := ob_fi vn []
def o533 : Obj := ob_tu [(vs "_law_row" 882), (vs "_law_way" 883), (vs "_law_kind" 884), (vs "_law_title_here" 885), (vs "_law_often" 886), (vs "_law_top" 887), (vs "_law_start" 888), (vs "_law_found" 889), (vs "_law_e" 890), (vs "error" 891)]
def o534 : Obj := ob_tu []
def o535 : Obj := ob_fu vn (topS 40) "_law_made" "_law_made" 0 vn vn vn vn none vn vn
def o536 : Obj := ob_co [(vs "_law_made" 879), (vs "_law_made" 880), (vs "/claim/cut.py" 881), (vi 226 0), (vi 2 0), (vi 0 0), (vi 0 0), (vi 3 0), (vr 531), (.bool true), (vi 181 0), (vr 532), vn, (vr 533), (vr 534), (vr 535), (vi 892 0), (vi 226 0), (vs "/claim/cut.py" 893)]
def o537 : Obj := ob_fu (vt "function") (topS 40) "_law_made" "_law_made" 3 vn vn vn (vs "law_readround_k23_rows_known" 789) none (vr 536) vn
def o538 : Obj := ob_tu []
def o539 : Obj := ob_fi vn []
def o540 : Obj := ob_tu [(vs "_law_row" 898), (vs "_law_kind" 899), (vs "_law_title_here" 900), (vs "_law_often" 901), (vs "_law_top" 902), (vs "_law_start" 903), (vs "_law_more" 904), (vs "_law_found" 905)]
def o541 : Obj := ob_tu []
def o542 : Obj := ob_fu vn (topS 41) "_law_others" "_law_others" 0 vn vn vn vn none vn vn
def o543 : Obj := ob_co [(vs "_law_others" 895), (vs "_law_others" 896), (vs "/claim/cut.py" 897), (vi 244 0), (vi 1 0), (vi 0 0), (vi 0 0), (vi 3 0), (vr 538), (.bool true), (vi 181 0), (vr 539), vn, (vr 540), (vr 541), (vr 542), (vi 906 0), (vi 244 0), (vs "/claim/cut.py" 907)]
def o544 : Obj := ob_fu (vt "function") (topS 41) "_law_others" "_law_others" 3 vn vn vn (vs "law_readround_k23_rows_known" 789) none (vr 543) vn
def o545 : Obj := ob_tu []
def o546 : Obj := ob_fi vn []
def o547 : Obj := ob_tu [(vs "_law_found" 912), (vs "_law_row" 913), (vs "_law_due" 914), (vs "_law_other" 915), (vs "_law_more" 916), (vs "_law_one" 917), (vs "_law_near" 918)]
def o548 : Obj := ob_tu []
def o549 : Obj := ob_fu vn (topS 42) "_law_is_told" "_law_is_told" 0 vn vn vn vn none vn vn
def o550 : Obj := ob_co [(vs "_law_is_told" 909), (vs "_law_is_told" 910), (vs "/claim/cut.py" 911), (vi 256 0), (vi 2 0), (vi 0 0), (vi 0 0), (vi 3 0), (vr 545), (.bool true), (vi 181 0), (vr 546), vn, (vr 547), (vr 548), (vr 549), (vi 919 0), (vi 256 0), (vs "/claim/cut.py" 920)]
def o551 : Obj := ob_fu (vt "function") (topS 42) "_law_is_told" "_law_is_told" 3 vn vn vn (vs "law_readround_k23_rows_known" 789) none (vr 550) vn
def o552 : Obj := ob_tu []
def o553 : Obj := ob_fi vn []
def o554 : Obj := ob_tu [(vs "_law_script" 925), (vs "_law_draw" 926), (vs "_law_before" 927), (vs "_law_turn" 928), (vs "_law_kind" 929), (vs "_law_way" 930), (vs "_law_which" 931), (vs "_law_row" 932), (vs "_law_at" 933), (vs "_law_found" 934), (vs "_law_e" 935)]
def o555 : Obj := ob_tu []
def o556 : Obj := ob_fu vn (topS 43) "law" "law" 0 vn vn vn vn none vn vn
def o557 : Obj := ob_co [(vs "law" 922), (vs "law" 923), (vs "/claim/cut.py" 924), (vi 275 0), (vi 1 0), (vi 0 0), (vi 0 0), (vi 3 0), (vr 552), (.bool true), (vi 181 0), (vr 553), vn, (vr 554), (vr 555), (vr 556), (vi 936 0), (vi 275 0), (vs "/claim/cut.py" 937)]
def o558 : Obj := ob_fu (vt "function") (topS 43) "law" "law" 3 vn vn vn (vs "law_readround_k23_rows_known" 789) none (vr 557) vn
def TB (P : Params) : BT := (bn (boot_o_0 P) (bn (boot_o_1 P) (bn (boot_o_3 P) (bn (boot_o_7 P) bz bz) bz) (bn (boot_o_5 P) (bn (boot_o_9 P) bz bz) bz)) (bn (boot_o_2 P) (bn (boot_o_4 P) (bn (boot_o_8 P) bz bz) bz) (bn (boot_o_6 P) (bn (boot_o_10 P) bz bz) bz)))
def T0 (P : Params) : BT := (bn (boot_o_0 P) (bn (boot_o_1 P) (bn (boot_o_3 P) (bn (boot_o_7 P) bz bz) (bn o11 bz bz)) (bn (boot_o_5 P) (bn (boot_o_9 P) bz bz) (bn o13 bz bz))) (bn (boot_o_2 P) (bn (boot_o_4 P) (bn (boot_o_8 P) bz bz) (bn o12 bz bz)) (bn (boot_o_6 P) (bn (boot_o_10 P) bz bz) (bn o14 bz bz))))
abbrev T1 : Params → BT := T0
def T2 (P : Params) : BT := (bn (boot_o_0 P) (bn (boot_o_1 P) (bn (o3 P) (bn (boot_o_7 P) (bn o15 (bn o31 (bn o63 bz bz) (bn o95 bz bz)) (bn o47 (bn (o79 P) bz bz) bz)) (bn o23 (bn o39 (bn o71 bz bz) (bn (o103 P) bz bz)) (bn (o55 P) (bn o87 bz bz) bz))) (bn o11 (bn o19 (bn o35 (bn (o67 P) bz bz) (bn o99 bz bz)) (bn o51 (bn o83 bz bz) bz)) (bn o27 (bn (o43 P) (bn o75 bz bz) bz) (bn o59 (bn (o91 P) bz bz) bz)))) (bn (boot_o_5 P) (bn (boot_o_9 P) (bn o17 (bn o33 (bn o65 bz bz) (bn (o97 P) bz bz)) (bn (o49 P) (bn o81 bz bz) bz)) (bn o25 (bn o41 (bn (o73 P) bz bz) (bn o105 bz bz)) (bn o57 (bn o89 bz bz) bz))) (bn o13 (bn o21 (bn (o37 P) (bn o69 bz bz) (bn o101 bz bz)) (bn o53 (bn (o85 P) bz bz) bz)) (bn o29 (bn o45 (bn o77 bz bz) bz) (bn (o61 P) (bn o93 bz bz) bz))))) (bn (boot_o_2 P) (bn (boot_o_4 P) (bn (boot_o_8 P) (bn o16 (bn o32 (bn o64 bz bz) (bn o96 bz bz)) (bn o48 (bn o80 bz bz) bz)) (bn (o24 P) (bn o40 (bn o72 bz bz) (bn o104 bz bz)) (bn o56 (bn o88 bz bz) bz))) (bn o12_1 (bn o20 (bn o36 (bn o68 bz bz) (bn o100 bz bz)) (bn o52 (bn o84 bz bz) bz)) (bn o28 (bn o44 (bn o76 bz bz) bz) (bn o60 (bn o92 bz bz) bz)))) (bn (boot_o_6 P) (bn (boot_o_10 P) (bn o18 (bn o34 (bn o66 bz bz) (bn o98 bz bz)) (bn o50 (bn o82 bz bz) bz)) (bn o26 (bn o42 (bn o74 bz bz) (bn o106 bz bz)) (bn o58 (bn o90 bz bz) bz))) (bn o14 (bn o22 (bn o38 (bn o70 bz bz) (bn o102 bz bz)) (bn o54 (bn o86 bz bz) bz)) (bn (o30 P) (bn o46 (bn o78 bz bz) bz) (bn o62 (bn o94 bz bz) bz))))))
def T3 (P : Params) : BT := (bn (boot_o_0 P) (bn (boot_o_1 P) (bn (o3_1 P) (bn (boot_o_7 P) (bn o15 (bn o31_1 (bn o63 (bn (o127 P) bz bz) (bn o191 bz bz)) (bn o95 (bn o159 bz bz) bz)) (bn o47 (bn (o79 P) (bn o143 bz bz) bz) (bn o111 (bn o175 bz bz) bz))) (bn o23 (bn o39 (bn o71 (bn o135 bz bz) (bn o199 bz bz)) (bn (o103 P) (bn o167 bz bz) bz)) (bn (o55 P) (bn o87 (bn o151 bz bz) bz) (bn o119 (bn (o183 P) bz bz) bz)))) (bn o11 (bn o19 (bn o35 (bn (o67 P) (bn o131 bz bz) (bn (o195 P) bz bz)) (bn o99 (bn o163 bz bz) bz)) (bn o51 (bn o83 (bn o147 bz bz) bz) (bn (o115 P) (bn o179 bz bz) bz))) (bn o27 (bn (o43 P) (bn o75 (bn (o139 P) bz bz) (bn o203 bz bz)) (bn o107 (bn o171 bz bz) bz)) (bn o59 (bn (o91 P) (bn o155 bz bz) bz) (bn o123 (bn o187 bz bz) bz))))) (bn (boot_o_5 P) (bn (boot_o_9 P) (bn o17 (bn o33 (bn o65 (bn o129 bz bz) (bn o193 bz bz)) (bn (o97 P) (bn o161 bz bz) bz)) (bn (o49 P) (bn o81 (bn (o145 P) bz bz) bz) (bn o113 (bn (o177 P) bz bz) bz))) (bn o25 (bn o41 (bn (o73 P) (bn o137 bz bz) (bn (o201 P) bz bz)) (bn o105 (bn o169 bz bz) bz)) (bn o57 (bn o89 (bn o153 bz bz) bz) (bn (o121 P) (bn o185 bz bz) bz)))) (bn o13 (bn o21 (bn (o37 P) (bn o69 (bn (o133 P) bz bz) (bn o197 bz bz)) (bn o101 (bn o165 bz bz) bz)) (bn o53 (bn (o85 P) (bn o149 bz bz) bz) (bn o117 (bn o181 bz bz) bz))) (bn o29 (bn o45 (bn o77 (bn o141 bz bz) bz) (bn (o109 P) (bn o173 bz bz) bz)) (bn (o61 P) (bn o93 (bn o157 bz bz) bz) (bn o125 (bn (o189 P) bz bz) bz)))))) (bn (boot_o_2 P) (bn (boot_o_4 P) (bn (boot_o_8 P) (bn o16 (bn o32 (bn o64 (bn o128 bz bz) (bn o192 bz bz)) (bn o96 (bn o160 bz bz) bz)) (bn o48 (bn o80 (bn o144 bz bz) bz) (bn o112 (bn o176 bz bz) bz))) (bn (o24 P) (bn o40 (bn o72 (bn o136 bz bz) (bn o200 bz bz)) (bn o104 (bn o168 bz bz) bz)) (bn o56 (bn o88 (bn o152 bz bz) bz) (bn o120 (bn o184 bz bz) bz)))) (bn o12_2 (bn o20 (bn o36 (bn o68 (bn o132 bz bz) (bn o196 bz bz)) (bn o100 (bn (o164 P) bz bz) bz)) (bn o52 (bn o84 (bn o148 bz bz) bz) (bn o116 (bn o180 bz bz) bz))) (bn o28 (bn o44 (bn o76 (bn o140 bz bz) (bn o204 bz bz)) (bn o108 (bn o172 bz bz) bz)) (bn o60 (bn o92 (bn o156 bz bz) bz) (bn o124 (bn o188 bz bz) bz))))) (bn (boot_o_6 P) (bn (boot_o_10 P) (bn o18 (bn o34 (bn o66 (bn o130 bz bz) (bn o194 bz bz)) (bn o98 (bn o162 bz bz) bz)) (bn o50 (bn o82 (bn o146 bz bz) bz) (bn o114 (bn o178 bz bz) bz))) (bn o26 (bn o42 (bn o74 (bn o138 bz bz) (bn o202 bz bz)) (bn o106 (bn o170 bz bz) bz)) (bn o58 (bn o90 (bn o154 bz bz) bz) (bn o122 (bn o186 bz bz) bz)))) (bn o14 (bn o22 (bn o38 (bn o70 (bn o134 bz bz) (bn o198 bz bz)) (bn o102 (bn o166 bz bz) bz)) (bn o54 (bn o86 (bn o150 bz bz) bz) (bn o118 (bn o182 bz bz) bz))) (bn (o30 P) (bn o46 (bn o78 (bn o142 bz bz) bz) (bn o110 (bn o174 bz bz) bz)) (bn o62 (bn o94 (bn (o158 P) bz bz) bz) (bn o126 (bn o190 bz bz) bz)))))))
def T4 (P : Params) : BT := (bn (boot_o_0 P) (bn (boot_o_1 P) (bn (o3_2 P) (bn (boot_o_7 P) (bn o15 (bn o31_2 (bn o63 (bn (o127 P) (bn o255 bz bz) (bn o383 bz bz)) (bn o191 (bn o319 bz bz) bz)) (bn o95 (bn o159 (bn o287 bz bz) bz) (bn o223 (bn o351 bz bz) bz))) (bn o47 (bn (o79 P) (bn o143 (bn o271 bz bz) bz) (bn (o207 P) (bn o335 bz bz) bz)) (bn o111 (bn o175 (bn o303 bz bz) bz) (bn o239 (bn o367 bz bz) bz)))) (bn o23 (bn o39 (bn o71 (bn o135 (bn o263 bz bz) (bn o391 bz bz)) (bn o199 (bn o327 bz bz) bz)) (bn (o103 P) (bn o167 (bn o295 bz bz) bz) (bn o231 (bn o359 bz bz) bz))) (bn (o55 P) (bn o87 (bn o151 (bn o279 bz bz) bz) (bn o215 (bn o343 bz bz) bz)) (bn o119 (bn (o183 P) (bn o311 bz bz) bz) (bn o247 (bn o375 bz bz) bz))))) (bn o11 (bn o19 (bn o35 (bn (o67 P) (bn o131 (bn o259 bz bz) (bn o387 bz bz)) (bn (o195 P) (bn o323 bz bz) bz)) (bn o99 (bn o163 (bn (o291 P) bz bz) bz) (bn o227 (bn o355 bz bz) bz))) (bn o51 (bn o83 (bn o147 (bn o275 bz bz) bz) (bn o211 (bn o339 bz bz) bz)) (bn (o115 P) (bn o179 (bn o307 bz bz) bz) (bn (o243 P) (bn o371 bz bz) bz)))) (bn o27 (bn (o43 P) (bn o75 (bn (o139 P) (bn o267 bz bz) (bn (o395 P) bz bz)) (bn o203 (bn o331 bz bz) bz)) (bn o107 (bn o171 (bn (o299 P) bz bz) bz) (bn o235 (bn o363 bz bz) bz))) (bn o59 (bn (o91 P) (bn o155 (bn o283 bz bz) bz) (bn o219 (bn o347 bz bz) bz)) (bn o123 (bn o187 (bn o315 bz bz) bz) (bn o251 (bn o379 bz bz) bz)))))) (bn (boot_o_5 P) (bn (boot_o_9 P) (bn o17 (bn o33 (bn o65 (bn o129 (bn o257 bz bz) (bn o385 bz bz)) (bn o193 (bn o321 bz bz) bz)) (bn (o97 P) (bn o161 (bn o289 bz bz) bz) (bn o225 (bn o353 bz bz) bz))) (bn (o49 P) (bn o81 (bn (o145 P) (bn o273 bz bz) bz) (bn o209 (bn o337 bz bz) bz)) (bn o113 (bn (o177 P) (bn o305 bz bz) bz) (bn o241 (bn o369 bz bz) bz)))) (bn o25 (bn o41 (bn (o73 P) (bn o137 (bn o265 bz bz) (bn o393 bz bz)) (bn (o201 P) (bn o329 bz bz) bz)) (bn o105 (bn o169 (bn o297 bz bz) bz) (bn o233 (bn o361 bz bz) bz))) (bn o57 (bn o89 (bn o153 (bn o281 bz bz) bz) (bn o217 (bn o345 bz bz) bz)) (bn (o121 P) (bn o185 (bn o313 bz bz) bz) (bn o249 (bn o377 bz bz) bz))))) (bn o13 (bn o21 (bn (o37 P) (bn o69 (bn (o133 P) (bn o261 bz bz) (bn o389 bz bz)) (bn o197 (bn o325 bz bz) bz)) (bn o101 (bn o165 (bn o293 bz bz) bz) (bn o229 (bn o357 bz bz) bz))) (bn o53 (bn (o85 P) (bn o149 (bn o277 bz bz) bz) (bn o213 (bn o341 bz bz) bz)) (bn o117 (bn o181 (bn o309 bz bz) bz) (bn o245 (bn o373 bz bz) bz)))) (bn o29 (bn o45 (bn o77 (bn o141 (bn o269 bz bz) (bn o397 bz bz)) (bn o205 (bn o333 bz bz) bz)) (bn (o109 P) (bn o173 (bn o301 bz bz) bz) (bn o237 (bn o365 bz bz) bz))) (bn (o61 P) (bn o93 (bn o157 (bn o285 bz bz) bz) (bn o221 (bn o349 bz bz) bz)) (bn o125 (bn (o189 P) (bn o317 bz bz) bz) (bn o253 (bn o381 bz bz) bz))))))) (bn (boot_o_2 P) (bn (boot_o_4 P) (bn (boot_o_8 P) (bn o16 (bn o32 (bn o64 (bn o128 (bn o256 bz bz) (bn o384 bz bz)) (bn o192 (bn o320 bz bz) bz)) (bn o96 (bn o160 (bn o288 bz bz) bz) (bn o224 (bn o352 bz bz) bz))) (bn o48 (bn o80 (bn o144 (bn o272 bz bz) bz) (bn o208 (bn o336 bz bz) bz)) (bn o112 (bn o176 (bn o304 bz bz) bz) (bn o240 (bn o368 bz bz) bz)))) (bn (o24 P) (bn o40 (bn o72 (bn o136 (bn o264 bz bz) (bn o392 bz bz)) (bn o200 (bn o328 bz bz) bz)) (bn o104 (bn o168 (bn o296 bz bz) bz) (bn o232 (bn o360 bz bz) bz))) (bn o56 (bn o88 (bn o152 (bn o280 bz bz) bz) (bn o216 (bn o344 bz bz) bz)) (bn o120 (bn o184 (bn o312 bz bz) bz) (bn o248 (bn o376 bz bz) bz))))) (bn o12_3 (bn o20 (bn o36 (bn o68 (bn o132 (bn o260 bz bz) (bn o388 bz bz)) (bn o196 (bn o324 bz bz) bz)) (bn o100 (bn (o164 P) (bn o292 bz bz) bz) (bn o228 (bn o356 bz bz) bz))) (bn o52 (bn o84 (bn o148 (bn o276 bz bz) bz) (bn o212 (bn (o340 P) bz bz) bz)) (bn o116 (bn o180 (bn o308 bz bz) bz) (bn o244 (bn o372 bz bz) bz)))) (bn o28 (bn o44 (bn o76 (bn o140 (bn o268 bz bz) (bn o396 bz bz)) (bn o204 (bn o332 bz bz) bz)) (bn o108 (bn o172 (bn o300 bz bz) bz) (bn o236 (bn o364 bz bz) bz))) (bn o60 (bn o92 (bn o156 (bn o284 bz bz) bz) (bn (o220 P) (bn o348 bz bz) bz)) (bn o124 (bn o188 (bn o316 bz bz) bz) (bn o252 (bn o380 bz bz) bz)))))) (bn (boot_o_6 P) (bn (boot_o_10 P) (bn o18 (bn o34 (bn o66 (bn o130 (bn o258 bz bz) (bn o386 bz bz)) (bn o194 (bn o322 bz bz) bz)) (bn o98 (bn o162 (bn o290 bz bz) bz) (bn o226 (bn o354 bz bz) bz))) (bn o50 (bn o82 (bn o146 (bn o274 bz bz) bz) (bn o210 (bn o338 bz bz) bz)) (bn o114 (bn o178 (bn o306 bz bz) bz) (bn o242 (bn o370 bz bz) bz)))) (bn o26 (bn o42 (bn o74 (bn o138 (bn o266 bz bz) (bn o394 bz bz)) (bn o202 (bn o330 bz bz) bz)) (bn o106 (bn o170 (bn o298 bz bz) bz) (bn o234 (bn o362 bz bz) bz))) (bn o58 (bn o90 (bn o154 (bn o282 bz bz) bz) (bn o218 (bn o346 bz bz) bz)) (bn o122 (bn o186 (bn o314 bz bz) bz) (bn o250 (bn o378 bz bz) bz))))) (bn o14 (bn o22 (bn o38 (bn o70 (bn o134 (bn o262 bz bz) (bn o390 bz bz)) (bn o198 (bn o326 bz bz) bz)) (bn o102 (bn o166 (bn o294 bz bz) bz) (bn o230 (bn o358 bz bz) bz))) (bn o54 (bn o86 (bn o150 (bn o278 bz bz) bz) (bn o214 (bn o342 bz bz) bz)) (bn o118 (bn o182 (bn o310 bz bz) bz) (bn o246 (bn o374 bz bz) bz)))) (bn (o30 P) (bn o46 (bn o78 (bn o142 (bn o270 bz bz) (bn o398 bz bz)) (bn o206 (bn (o334 P) bz bz) bz)) (bn o110 (bn o174 (bn o302 bz bz) bz) (bn o238 (bn o366 bz bz) bz))) (bn o62 (bn o94 (bn (o158 P) (bn o286 bz bz) bz) (bn o222 (bn o350 bz bz) bz)) (bn o126 (bn o190 (bn o318 bz bz) bz) (bn o254 (bn o382 bz bz) bz))))))))
def T5 (P : Params) : BT := (bn (boot_o_0 P) (bn (boot_o_1 P) (bn (o3_3 P) (bn (boot_o_7 P) (bn o15 (bn o31_2 (bn o63 (bn (o127 P) (bn o255 (bn o511 bz bz) bz) (bn o383 bz bz)) (bn o191 (bn o319 bz bz) (bn o447 bz bz))) (bn o95 (bn o159 (bn o287 (bn o543 bz bz) bz) (bn o415 bz bz)) (bn o223 (bn o351 bz bz) (bn o479 bz bz)))) (bn o47 (bn (o79 P) (bn o143 (bn o271 (bn o527 bz bz) bz) (bn o399 bz bz)) (bn (o207 P) (bn o335 bz bz) (bn o463 bz bz))) (bn o111 (bn o175 (bn o303 bz bz) (bn o431 bz bz)) (bn o239 (bn o367 bz bz) (bn o495 bz bz))))) (bn o23 (bn o39 (bn o71 (bn o135 (bn o263 (bn o519 bz bz) bz) (bn o391 bz bz)) (bn o199 (bn o327 bz bz) (bn o455 bz bz))) (bn (o103 P) (bn o167 (bn o295 (bn o551 bz bz) bz) (bn o423 bz bz)) (bn o231 (bn o359 bz bz) (bn o487 bz bz)))) (bn (o55 P) (bn o87 (bn o151 (bn o279 (bn o535 bz bz) bz) (bn o407 bz bz)) (bn o215 (bn o343 bz bz) (bn o471 bz bz))) (bn o119 (bn (o183 P) (bn o311 bz bz) (bn o439 bz bz)) (bn o247 (bn o375 bz bz) (bn o503 bz bz)))))) (bn o11 (bn o19 (bn o35 (bn (o67 P) (bn o131 (bn o259 (bn o515 bz bz) bz) (bn o387 bz bz)) (bn (o195 P) (bn o323 bz bz) (bn o451 bz bz))) (bn o99 (bn o163 (bn (o291 P) (bn o547 bz bz) bz) (bn o419 bz bz)) (bn o227 (bn o355 bz bz) (bn o483 bz bz)))) (bn o51 (bn o83 (bn o147 (bn o275 (bn o531 bz bz) bz) (bn o403 bz bz)) (bn o211 (bn o339 bz bz) (bn o467 bz bz))) (bn (o115 P) (bn o179 (bn o307 bz bz) (bn o435 bz bz)) (bn (o243 P) (bn o371 bz bz) (bn o499 bz bz))))) (bn o27 (bn (o43 P) (bn o75 (bn (o139 P) (bn o267 (bn o523 bz bz) bz) (bn (o395 P) bz bz)) (bn o203 (bn o331 bz bz) (bn o459 bz bz))) (bn o107 (bn o171 (bn (o299 P) (bn o555 bz bz) bz) (bn o427 bz bz)) (bn o235 (bn o363 bz bz) (bn o491 bz bz)))) (bn o59 (bn (o91 P) (bn o155 (bn o283 (bn o539 bz bz) bz) (bn o411 bz bz)) (bn o219 (bn o347 bz bz) (bn o475 bz bz))) (bn o123 (bn o187 (bn o315 bz bz) (bn o443 bz bz)) (bn o251 (bn o379 bz bz) (bn o507 bz bz))))))) (bn (boot_o_5 P) (bn (boot_o_9 P) (bn o17 (bn o33 (bn o65 (bn o129 (bn o257 (bn o513 bz bz) bz) (bn o385 bz bz)) (bn o193 (bn o321 bz bz) (bn o449 bz bz))) (bn (o97 P) (bn o161 (bn o289 (bn o545 bz bz) bz) (bn o417 bz bz)) (bn o225 (bn o353 bz bz) (bn o481 bz bz)))) (bn (o49 P) (bn o81 (bn (o145 P) (bn o273 (bn o529 bz bz) bz) (bn o401 bz bz)) (bn o209 (bn o337 bz bz) (bn o465 bz bz))) (bn o113 (bn (o177 P) (bn o305 bz bz) (bn o433 bz bz)) (bn o241 (bn o369 bz bz) (bn o497 bz bz))))) (bn o25 (bn o41 (bn (o73 P) (bn o137 (bn o265 (bn o521 bz bz) bz) (bn o393 bz bz)) (bn (o201 P) (bn o329 bz bz) (bn o457 bz bz))) (bn o105 (bn o169 (bn o297 (bn o553 bz bz) bz) (bn o425 bz bz)) (bn o233 (bn o361 bz bz) (bn o489 bz bz)))) (bn o57 (bn o89 (bn o153 (bn o281 (bn o537 bz bz) bz) (bn o409 bz bz)) (bn o217 (bn o345 bz bz) (bn o473 bz bz))) (bn (o121 P) (bn o185 (bn o313 bz bz) (bn o441 bz bz)) (bn o249 (bn o377 bz bz) (bn o505 bz bz)))))) (bn o13 (bn o21 (bn (o37 P) (bn o69 (bn (o133 P) (bn o261 (bn o517 bz bz) bz) (bn o389 bz bz)) (bn o197 (bn o325 bz bz) (bn o453 bz bz))) (bn o101 (bn o165 (bn o293 (bn o549 bz bz) bz) (bn o421 bz bz)) (bn o229 (bn o357 bz bz) (bn o485 bz bz)))) (bn o53 (bn (o85 P) (bn o149 (bn o277 (bn o533 bz bz) bz) (bn o405 bz bz)) (bn o213 (bn o341 bz bz) (bn o469 bz bz))) (bn o117 (bn o181 (bn o309 bz bz) (bn o437 bz bz)) (bn o245 (bn o373 bz bz) (bn o501 bz bz))))) (bn o29 (bn o45 (bn o77 (bn o141 (bn o269 (bn o525 bz bz) bz) (bn o397 bz bz)) (bn o205 (bn o333 bz bz) (bn (o461 P) bz bz))) (bn (o109 P) (bn o173 (bn o301 (bn o557 bz bz) bz) (bn o429 bz bz)) (bn o237 (bn o365 bz bz) (bn o493 bz bz)))) (bn (o61 P) (bn o93 (bn o157 (bn o285 (bn o541 bz bz) bz) (bn o413 bz bz)) (bn o221 (bn o349 bz bz) (bn o477 bz bz))) (bn o125 (bn (o189 P) (bn o317 bz bz) (bn o445 bz bz)) (bn o253 (bn o381 bz bz) (bn o509 bz bz)))))))) (bn (boot_o_2 P) (bn (boot_o_4 P) (bn (boot_o_8 P) (bn o16 (bn o32 (bn o64 (bn o128 (bn o256 (bn o512 bz bz) bz) (bn o384 bz bz)) (bn o192 (bn o320 bz bz) (bn o448 bz bz))) (bn o96 (bn o160 (bn o288 (bn o544 bz bz) bz) (bn o416 bz bz)) (bn o224 (bn o352 bz bz) (bn o480 bz bz)))) (bn o48 (bn o80 (bn o144 (bn o272 (bn o528 bz bz) bz) (bn o400 bz bz)) (bn o208 (bn o336 bz bz) (bn o464 bz bz))) (bn o112 (bn o176 (bn o304 bz bz) (bn o432 bz bz)) (bn o240 (bn o368 bz bz) (bn o496 bz bz))))) (bn (o24 P) (bn o40 (bn o72 (bn o136 (bn o264 (bn o520 bz bz) bz) (bn o392 bz bz)) (bn o200 (bn o328 bz bz) (bn o456 bz bz))) (bn o104 (bn o168 (bn o296 (bn o552 bz bz) bz) (bn o424 bz bz)) (bn o232 (bn o360 bz bz) (bn o488 bz bz)))) (bn o56 (bn o88 (bn o152 (bn o280 (bn o536 bz bz) bz) (bn (o408 P) bz bz)) (bn o216 (bn o344 bz bz) (bn o472 bz bz))) (bn o120 (bn o184 (bn o312 bz bz) (bn o440 bz bz)) (bn o248 (bn o376 bz bz) (bn o504 bz bz)))))) (bn o12_4 (bn o20 (bn o36 (bn o68 (bn o132 (bn o260 (bn o516 bz bz) bz) (bn o388 bz bz)) (bn o196 (bn o324 bz bz) (bn o452 bz bz))) (bn o100 (bn (o164 P) (bn o292 (bn o548 bz bz) bz) (bn o420 bz bz)) (bn o228 (bn o356 bz bz) (bn o484 bz bz)))) (bn o52 (bn o84 (bn o148 (bn o276 (bn o532 bz bz) bz) (bn o404 bz bz)) (bn o212 (bn (o340 P) bz bz) (bn o468 bz bz))) (bn o116 (bn o180 (bn o308 bz bz) (bn o436 bz bz)) (bn o244 (bn o372 bz bz) (bn o500 bz bz))))) (bn o28 (bn o44 (bn o76 (bn o140 (bn o268 (bn o524 bz bz) bz) (bn o396 bz bz)) (bn o204 (bn o332 bz bz) (bn o460 bz bz))) (bn o108 (bn o172 (bn o300 (bn o556 bz bz) bz) (bn o428 bz bz)) (bn o236 (bn o364 bz bz) (bn o492 bz bz)))) (bn o60 (bn o92 (bn o156 (bn o284 (bn o540 bz bz) bz) (bn o412 bz bz)) (bn (o220 P) (bn o348 bz bz) (bn o476 bz bz))) (bn o124 (bn o188 (bn o316 bz bz) (bn o444 bz bz)) (bn o252 (bn o380 bz bz) (bn o508 bz bz))))))) (bn (boot_o_6 P) (bn (boot_o_10 P) (bn o18 (bn o34 (bn o66 (bn o130 (bn o258 (bn o514 bz bz) bz) (bn o386 bz bz)) (bn o194 (bn o322 bz bz) (bn o450 bz bz))) (bn o98 (bn o162 (bn o290 (bn o546 bz bz) bz) (bn o418 bz bz)) (bn o226 (bn o354 bz bz) (bn o482 bz bz)))) (bn o50 (bn o82 (bn o146 (bn o274 (bn o530 bz bz) bz) (bn o402 bz bz)) (bn o210 (bn o338 bz bz) (bn o466 bz bz))) (bn o114 (bn o178 (bn o306 bz bz) (bn o434 bz bz)) (bn o242 (bn o370 bz bz) (bn o498 bz bz))))) (bn o26 (bn o42 (bn o74 (bn o138 (bn o266 (bn o522 bz bz) bz) (bn o394 bz bz)) (bn o202 (bn o330 bz bz) (bn o458 bz bz))) (bn o106 (bn o170 (bn o298 (bn o554 bz bz) bz) (bn o426 bz bz)) (bn o234 (bn o362 bz bz) (bn o490 bz bz)))) (bn o58 (bn o90 (bn o154 (bn o282 (bn o538 bz bz) bz) (bn o410 bz bz)) (bn o218 (bn o346 bz bz) (bn o474 bz bz))) (bn o122 (bn o186 (bn o314 bz bz) (bn o442 bz bz)) (bn o250 (bn o378 bz bz) (bn o506 bz bz)))))) (bn o14 (bn o22 (bn o38 (bn o70 (bn o134 (bn o262 (bn o518 bz bz) bz) (bn o390 bz bz)) (bn o198 (bn o326 bz bz) (bn o454 bz bz))) (bn o102 (bn o166 (bn o294 (bn o550 bz bz) bz) (bn o422 bz bz)) (bn o230 (bn o358 bz bz) (bn o486 bz bz)))) (bn o54 (bn o86 (bn o150 (bn o278 (bn o534 bz bz) bz) (bn o406 bz bz)) (bn o214 (bn o342 bz bz) (bn o470 bz bz))) (bn o118 (bn o182 (bn o310 bz bz) (bn o438 bz bz)) (bn o246 (bn o374 bz bz) (bn o502 bz bz))))) (bn (o30 P) (bn o46 (bn o78 (bn o142 (bn o270 (bn o526 bz bz) bz) (bn o398 bz bz)) (bn o206 (bn (o334 P) bz bz) (bn o462 bz bz))) (bn o110 (bn o174 (bn o302 (bn o558 bz bz) bz) (bn o430 bz bz)) (bn o238 (bn o366 bz bz) (bn o494 bz bz)))) (bn o62 (bn o94 (bn (o158 P) (bn o286 (bn o542 bz bz) bz) (bn o414 bz bz)) (bn o222 (bn o350 bz bz) (bn o478 bz bz))) (bn o126 (bn o190 (bn o318 bz bz) (bn o446 bz bz)) (bn o254 (bn o382 bz bz) (bn o510 bz bz)))))))))
noncomputable abbrev S0 (w : World) (os : OsState) : SharedT := stA' T0 15 187 w os
noncomputable abbrev S1 (w : World) (os : OsState) : SharedT := stA' T1 15 187 w os
noncomputable abbrev S2 (w : World) (os : OsState) : SharedT := stA' T2 107 310 w os
noncomputable abbrev S3 (w : World) (os : OsState) : SharedT := stA' T3 205 444 w os
noncomputable abbrev S4 (w : World) (os : OsState) : SharedT := stA' T4 399 701 w os
noncomputable abbrev S5 (w : World) (os : OsState) : SharedT := stA' T5 559 939 w os
theorem cpB (w : World) : putAll (boot_heap w.params).objs.toList .nil 0 = some (TB w.params, 11) := by kernel_rfl
theorem cpP (w : World) (os : OsState) : stepsF (stQ R.prog w) 11 (bootAnn w) 12 (bootT w os (TB w.params, 11)) (topStub R.prog) = some (S0 w os, ⟨denQ tabQ (cdOf R.prog env0), cdOf R.prog env0, ⟨0, 0, 0, 0⟩, [topFrame ⟨0, 0, 0, 0⟩]⟩) := by kernel_rfl
theorem cpK (w : World) (os : OsState) : pieceF (stQ R.prog w) 11 (bootAnn w) 1 1 (S0 w os) (blockOf (behindTheImports R.prog) env0 (cdOf R.prog env0) ⟨0, 0, 0, 0⟩ [topFrame ⟨0, 0, 0, 0⟩]) = some (.next, S1 w os, cdOf R.prog env0, ⟨0, 0, 0, 0⟩) := by kernel_rfl
set_option maxHeartbeats 0 in
theorem cp1 (w : World) (os : OsState) : pieceF (stQ R.prog w) 11 (bootAnn w) 1 1503 (S1 w os) (piecesOf (((behindTheImports R.prog).drop 0).take 9) env0 (cdOf R.prog env0) ⟨0, 0, 0, 0⟩ [topFrame ⟨0, 0, 0, 0⟩]) = some (.next, S2 w os, cdOf R.prog env0, ⟨17, 0, 18, 8⟩) := by kernel_rfl
set_option maxHeartbeats 0 in
theorem cp2 (w : World) (os : OsState) : pieceF (stQ R.prog w) 11 (bootAnn w) 1 1560 (S2 w os) (piecesOf (((behindTheImports R.prog).drop 9).take 7) env0 (cdOf R.prog env0) ⟨17, 0, 18, 8⟩ [topFrame ⟨0, 0, 0, 0⟩]) = some (.next, S3 w os, cdOf R.prog env0, ⟨39, 0, 40, 8⟩) := by kernel_rfl
set_option maxHeartbeats 0 in
theorem cp3 (w : World) (os : OsState) : pieceF (stQ R.prog w) 11 (bootAnn w) 1 1541 (S3 w os) (piecesOf (((behindTheImports R.prog).drop 16).take 10) env0 (cdOf R.prog env0) ⟨39, 0, 40, 8⟩ [topFrame ⟨0, 0, 0, 0⟩]) = some (.next, S4 w os, cdOf R.prog env0, ⟨98, 0, 119, 29⟩) := by kernel_rfl
set_option maxHeartbeats 0 in
theorem cp4 (w : World) (os : OsState) : pieceF (stQ R.prog w) 11 (bootAnn w) 1 917 (S4 w os) (piecesOf (((behindTheImports R.prog).drop 26).take 18) env0 (cdOf R.prog env0) ⟨98, 0, 119, 29⟩ [topFrame ⟨0, 0, 0, 0⟩]) = some (.next, S5 w os, cdOf R.prog env0, ⟨275, 0, 301, 78⟩) := by kernel_rfl
theorem cpL (w : World) (os : OsState) : goF (stQ R.prog w) 11 (bootAnn w) 5 (S5 w os) ⟨doneF .next, cdOf R.prog env0, ⟨275, 0, 301, 78⟩, [topFrame ⟨0, 0, 0, 0⟩]⟩ = some (S5 w os) := by kernel_rfl
noncomputable abbrev SE (w : World) (os : OsState) : SharedT := S5 w os
set_option maxHeartbeats 0 in
theorem cpTop (w : World) (os : OsState) : topRun treeTable R.prog w (boot_heap w.params).objs.size (bootAnn w) 100000 ⟨boot_heap w.params, #[], boot_drawn, boot_toks, os⟩ (topStub R.prog) = some (SE w os).abs :=
  cp_mono (N := 5539) rfl (cp_boot (cpB w) (cp_pre (cpP w os) (cp_block (cpK w os) (cp_piece (cp1 w os) (cp_piece (cp2 w os) (cp_piece (cp3 w os) (cp_piece (cp4 w os) (cp_last (by kernel_rfl) (cpL w os)))))))))
end
abbrev s_law_begun : Stmt := topS 30
abbrev s_law_take : Stmt := topS 31
abbrev s_law_pick : Stmt := topS 32
abbrev s_law_worth : Stmt := topS 35
abbrev s_law_title : Stmt := topS 36
abbrev s_law_is_number : Stmt := topS 37
abbrev s_is_name : Stmt := topS 20
abbrev s_is_number : Stmt := topS 19
abbrev s_Row_init : Stmt := inClass (topS 23) 0
abbrev s_Yearly_init : Stmt := inClass (topS 25) 0
abbrev s_Going_init : Stmt := inClass (topS 24) 0
abbrev s_law_made : Stmt := topS 40
abbrev s_law_is_title : Stmt := topS 38
abbrev s_law_is_row : Stmt := topS 39
abbrev s_Going_told : Stmt := inClass (topS 24) 2
abbrev s_Yearly_told : Stmt := inClass (topS 25) 5
abbrev s_Going_eq : Stmt := inClass (topS 24) 1
abbrev s_Yearly_eq : Stmt := inClass (topS 25) 4
abbrev s_are_numbers : Stmt := topS 21
abbrev s_Calendar_init : Stmt := inClass (topS 28) 0
abbrev s_law_others : Stmt := topS 41
abbrev s_law_is_told : Stmt := topS 42
abbrev s_law_marks : Stmt := topS 33
abbrev s_law_is_alone : Stmt := topS 34
abbrev s_law : Stmt := topS 43
def dd_law_begun : He.DefD := ⟨("_law_begun", none), "_law_begun", "_law_begun", defArgs s_law_begun, defBody s_law_begun, defScope s_law_begun, [], []⟩
def dd_law_take : He.DefD := ⟨("_law_take", none), "_law_take", "_law_take", defArgs s_law_take, defBody s_law_take, defScope s_law_take, [], []⟩
def dd_law_pick : He.DefD := ⟨("_law_pick", none), "_law_pick", "_law_pick", defArgs s_law_pick, defBody s_law_pick, defScope s_law_pick, [], []⟩
def dd_law_worth : He.DefD := ⟨("_law_worth", none), "_law_worth", "_law_worth", defArgs s_law_worth, defBody s_law_worth, defScope s_law_worth, [], []⟩
def dd_law_title : He.DefD := ⟨("_law_title", none), "_law_title", "_law_title", defArgs s_law_title, defBody s_law_title, defScope s_law_title, [], []⟩
def dd_law_is_number : He.DefD := ⟨("_law_is_number", none), "_law_is_number", "_law_is_number", defArgs s_law_is_number, defBody s_law_is_number, defScope s_law_is_number, [], []⟩
def dd_is_name : He.DefD := ⟨("is_name", none), "is_name", "is_name", defArgs s_is_name, defBody s_is_name, defScope s_is_name, [], []⟩
def dd_is_number : He.DefD := ⟨("is_number", none), "is_number", "is_number", defArgs s_is_number, defBody s_is_number, defScope s_is_number, [], []⟩
def dd_Row_init : He.DefD := ⟨("Row", some "__init__"), "__init__", "Row.__init__", defArgs s_Row_init, defBody s_Row_init, defScope s_Row_init, [], []⟩
def dd_Yearly_init : He.DefD := ⟨("Yearly", some "__init__"), "__init__", "Yearly.__init__", defArgs s_Yearly_init, defBody s_Yearly_init, defScope s_Yearly_init, [], []⟩
def dd_Going_init : He.DefD := ⟨("Going", some "__init__"), "__init__", "Going.__init__", defArgs s_Going_init, defBody s_Going_init, defScope s_Going_init, [.int (0)], []⟩
def dd_law_made : He.DefD := ⟨("_law_made", none), "_law_made", "_law_made", defArgs s_law_made, defBody s_law_made, defScope s_law_made, [], []⟩
def dd_law_is_title : He.DefD := ⟨("_law_is_title", none), "_law_is_title", "_law_is_title", defArgs s_law_is_title, defBody s_law_is_title, defScope s_law_is_title, [], []⟩
def dd_law_is_row : He.DefD := ⟨("_law_is_row", none), "_law_is_row", "_law_is_row", defArgs s_law_is_row, defBody s_law_is_row, defScope s_law_is_row, [], []⟩
def dd_Going_told : He.DefD := ⟨("Going", some "told"), "told", "Going.told", defArgs s_Going_told, defBody s_Going_told, defScope s_Going_told, [], []⟩
def dd_Yearly_told : He.DefD := ⟨("Yearly", some "told"), "told", "Yearly.told", defArgs s_Yearly_told, defBody s_Yearly_told, defScope s_Yearly_told, [], []⟩
def dd_Going_eq : He.DefD := ⟨("Going", some "__eq__"), "__eq__", "Going.__eq__", defArgs s_Going_eq, defBody s_Going_eq, defScope s_Going_eq, [], []⟩
def dd_Yearly_eq : He.DefD := ⟨("Yearly", some "__eq__"), "__eq__", "Yearly.__eq__", defArgs s_Yearly_eq, defBody s_Yearly_eq, defScope s_Yearly_eq, [], []⟩
def dd_are_numbers : He.DefD := ⟨("are_numbers", none), "are_numbers", "are_numbers", defArgs s_are_numbers, defBody s_are_numbers, defScope s_are_numbers, [], []⟩
def dd_Calendar_init : He.DefD := ⟨("Calendar", some "__init__"), "__init__", "Calendar.__init__", defArgs s_Calendar_init, defBody s_Calendar_init, defScope s_Calendar_init, [], []⟩
def dd_law_others : He.DefD := ⟨("_law_others", none), "_law_others", "_law_others", defArgs s_law_others, defBody s_law_others, defScope s_law_others, [], []⟩
def dd_law_is_told : He.DefD := ⟨("_law_is_told", none), "_law_is_told", "_law_is_told", defArgs s_law_is_told, defBody s_law_is_told, defScope s_law_is_told, [], []⟩
def dd_law_marks : He.DefD := ⟨("_law_marks", none), "_law_marks", "_law_marks", defArgs s_law_marks, defBody s_law_marks, defScope s_law_marks, [], []⟩
def dd_law_is_alone : He.DefD := ⟨("_law_is_alone", none), "_law_is_alone", "_law_is_alone", defArgs s_law_is_alone, defBody s_law_is_alone, defScope s_law_is_alone, [], []⟩
def dd_law : He.DefD := ⟨("law", none), "law", "law", defArgs s_law, defBody s_law, defScope s_law, [], []⟩
def fns : List He.DefD := [dd_law_begun, dd_law_take, dd_law_pick, dd_law_worth, dd_law_title, dd_law_is_number, dd_is_name, dd_is_number, dd_Row_init, dd_Yearly_init, dd_Going_init, dd_law_made, dd_law_is_title, dd_law_is_row, dd_Going_told, dd_Yearly_told, dd_Going_eq, dd_Yearly_eq, dd_are_numbers, dd_Calendar_init, dd_law_others, dd_law_is_told, dd_law_marks, dd_law_is_alone, dd_law]
def fas : List He.Fa := [.free "abs", .free "len", .glo "_law_take", .glo "_law_pick", .free "min", .free "range", .free "int", .free "isinstance", .free "bool", .free "str", .str "LETTERS" "abcdefghijklmnopqrstuvwxyz", .free "all", .glo "is_name", .glo "is_number", .exc "BadRow", .glo "BadRow", .cls "Going", .cls "Yearly", .noat "Going" "name", .noat "Going" "pieces", .noat "Going" "most", .noat "Going" "begin", .noat "Yearly" "name", .noat "Yearly" "pieces", .noat "Yearly" "most", .glo "Row", .mkr "Yearly", .mkr "Going", .glo "_law_is_number", .glo "ReadError", .glo "Yearly", .glo "Going", .glo "_law_is_title", .meth "Going" "told", .meth "Yearly" "told", .free "list", .glo "are_numbers", .exc "BadCalendar", .glo "BadCalendar", .cls "Calendar", .noat "Calendar" "lengths", .noat "Calendar" "begins", .noat "Calendar" "whole", .mkr "Calendar", .glo "_law_made", .glo "_law_others", .free "tuple", .meth "Going" "__eq__", .meth "Yearly" "__eq__", .glo "Calendar", .glo "BadFeast", .glo "BadBook", .glo "NoRow", .glo "NoDay", .glo "BadNumber", .glo "BadHouse", .glo "TooFar", .glo "NeverDone", .glo "TooTight", .glo "NoPiece", .glo "BadText", .glo "NoDeed", .glo "_law_marks", .free "ValueError", .glo "_law_begun", .glo "_law_worth", .glo "_law_title", .glo "_law_is_row", .glo "_law_is_told", .glo "_law_is_alone", .glo "law"]
def loose : List PySem.Str := (["_wall", "ReadError", "BadBook", "BadCalendar", "BadFeast", "BadRow", "BadHouse", "BadNumber", "NoDay", "NoRow", "NoPiece", "TooTight", "NeverDone", "TooFar", "NoDeed", "BadText", "LETTERS", "is_number", "is_name", "are_numbers", "Row", "Going", "Yearly", "need_day", "Calendar", "_law_begun", "_law_take", "_law_pick", "_law_marks", "_law_is_alone"] : List PySem.Str) ++ (["_law_worth", "_law_title", "_law_is_number", "_law_is_title", "_law_is_row", "_law_made", "_law_others", "_law_is_told"] : List PySem.Str)
def adrs : List Addr := [3, 6, 4, 21, 31, 44, 56, 68, 80, 92, 104, 116, 128, 140, 159, 178, 190, 202, 221, 230, 235, 240, 292, 335, 396, 405, 462, 471, 478, 485, 492, 499, 506, 511, 518, 523, 530, 537, 544, 551, 558, 0, 20, 30, 43, 55, 67, 79, 91, 103, 115, 127, 139, 158, 177, 189, 201, 220, 229, 234, 239, 291, 334, 395, 404, 461, 470, 477, 484, 491, 498, 505, 510, 517, 522, 529, 536, 543, 550, 557, 15, 16, 17, 18, 19, 29, 32, 42, 54, 66, 78, 90, 102, 114, 126, 138, 156, 157, 175, 176, 188, 200, 218, 219, 224, 225, 226, 227, 228, 231, 232, 233, 236, 237, 238, 254, 261, 268, 275, 282, 289, 290, 293, 294, 311, 318, 325, 332, 333, 351, 358, 365, 372, 379, 386, 393, 394, 399, 400, 401, 402, 403, 419, 426, 433, 440, 447, 454, 459, 460, 463, 464, 467, 468, 469, 472, 473, 474, 475, 476, 479, 480, 481, 482, 483, 486, 487, 488, 489, 490, 493, 494, 495, 496, 497, 500, 501, 502, 503, 504, 507, 508, 509, 512, 513, 514, 515, 516, 519, 520, 521, 524, 525, 526, 527, 528, 531, 532, 533, 534, 535, 538, 539, 540, 541, 542, 545, 546, 547, 548, 549, 552, 553, 554, 555, 556, 155, 174, 217, 253, 260, 267, 274, 281, 288, 310, 304, 317, 324, 331, 350, 357, 364, 371, 378, 385, 392, 418, 425, 432, 439, 446, 453, 458, 150, 151, 152, 153, 154, 169, 170, 171, 172, 173, 212, 213, 214, 215, 216, 248, 249, 250, 251, 252, 255, 256, 257, 258, 259, 262, 263, 264, 265, 266, 269, 270, 271, 272, 273, 276, 277, 278, 279, 280, 283, 284, 285, 286, 287, 305, 306, 307, 308, 309, 312, 313, 314, 315, 316, 319, 320, 321, 322, 323, 326, 327, 328, 329, 330, 345, 346, 347, 348, 349, 352, 353, 354, 355, 356, 359, 360, 361, 362, 363, 366, 367, 368, 369, 370, 373, 374, 375, 376, 377, 380, 381, 382, 383, 384, 387, 388, 389, 390, 391, 413, 414, 415, 416, 417, 420, 421, 422, 423, 424, 427, 428, 429, 430, 431, 434, 435, 436, 437, 438, 441, 442, 443, 444, 445, 448, 449, 450, 451, 452, 455, 456, 457, 2]
def exs : List (PySem.W.Frag → Bool) := [clsFnB "Row" "__init__", kexcB excNames, keqB "Going", keqB "Yearly", neB "Going", neB "Yearly", obtB "Going", obtB "Yearly", isB "Going" "Row" true, isB "Yearly" "Row" true, kneB "Going" "Yearly", kneB "Yearly" "Going", kneB "Going" "Calendar", kneB "Yearly" "Calendar"]
abbrev hk : PySem.W.Hook := hookL adrs fas fns exs
def ob (s : PySem.W.SharedT) : AlX := obsLG adrs fas fns exs (HandSHeadRun.getT s)
theorem ob_eq (s : PySem.W.SharedT) : ob s = hk.obs s.abs := obsLG_eq (HandSHeadRun.getT_eq s)
set_option maxHeartbeats 0 in
open PySem.W PySem.Calls HandSHeadRun in
theorem look1 (w : World) (os : OsState) : HandSHeadRun.looksF R.prog (PySem.W.boot_heap w.params) (SE w os).abs = true := by kernel_rfl
set_option maxHeartbeats 0 in
open PySem.W PySem.Calls HandSHeadRun in
theorem look2 (w : World) (os : OsState) : HandSHeadRun.seenQ (PySem.W.view R.prog [43]) loose (importedModules R.prog.main.body) (fun s => PySem.W.xlAt (PySem.W.view R.prog [43]) [] s && PySem.W.recOk R.toRowW.records s) (SE w os).abs = PySem.W.openGood (PySem.W.view R.prog [43]) loose := by kernel_rfl
set_option maxHeartbeats 0 in
open PySem.W PySem.Calls HandSHeadRun in
theorem look3 (w : World) (os : OsState) : ob (SE w os) = hk.val w := by kernel_rfl
open PySem.W PySem.Calls HandSHeadRun in
theorem topEnd (w : World) (os : OsState) : ∃ s, TopEnd R (PySem.W.view R.prog [43]) loose hk ob 100000 w os s := ⟨SE w os, cpTop w os, look1 w os, look2 w os, look3 w os⟩
end Dl
section
open PySem PySem.W PySem.Calls PyProof.Rows
set_option maxRecDepth 100000
set_option maxHeartbeats 0
theorem Dl.law_name : (HandSHeadRun.topDef (OpenLaw.row PySem.Challenge.rw_readround_k23_rows_known).prog 43).name = ("law" : PySem.Str) := by kernel_rfl
theorem Dl.law_dflt : (HandSHeadRun.topDef (OpenLaw.row PySem.Challenge.rw_readround_k23_rows_known).prog 43).params.defaults = [] := by kernel_rfl
theorem Dl.lawOf (hc : WalkO (view (OpenLaw.row PySem.Challenge.rw_readround_k23_rows_known).prog [43]) Dl.loose (XL (view (OpenLaw.row PySem.Challenge.rw_readround_k23_rows_known).prog [43]) []) Dl.hk.says (OpenLaw.row PySem.Challenge.rw_readround_k23_rows_known).toRowW (HandSHeadRun.topDef (OpenLaw.row PySem.Challenge.rw_readround_k23_rows_known).prog 43) [] (fun f vs => PySem.call f vs)) : PySem.Challenge.rw_readround_k23_rows_known.Holds := by
  w_on; o_law
  refine Dl.head_cp (r := OpenLaw.row PySem.Challenge.rw_readround_k23_rows_known) (q := view (OpenLaw.row PySem.Challenge.rw_readround_k23_rows_known).prog [43]) (H := Dl.hk) (ob := Dl.ob) (M := 100000) (loose := Dl.loose) (d := HandSHeadRun.topDef (OpenLaw.row PySem.Challenge.rw_readround_k23_rows_known).prog 43) (kwd := []) Dl.ob_eq
    (by kernel_rfl) (fun s => by kernel_rfl) Dl.topEnd (by kernel_rfl) (by kernel_rfl) (by kernel_rfl) (by rfl) (by first | assumption | decide +kernel) (by decide +kernel) ⟨rfl, rfl, rfl, rfl, rfl, by decide +kernel⟩ ?hw ?hc
  case hw => w_witness2
  case hc => exact hc
end
namespace Dl
open PySem L2 PyProof.Rows
set_option Elab.async false
set_option linter.all false
set_option maxRecDepth 100000
open PySem L2 PyProof.Rows
/-! ### kinds, books: contracts -/
mutual
/-- data through and through -/
def D.dat : D → Bool
  | .non => true
  | .bl _ => true
  | .int _ => true
  | .str _ => true
  | .tup xs => datL xs
  | .lst xs => datL xs
  | .dct _ => true
  | _ => false
def datL : List D → Bool
  | [] => true
  | x :: xs => D.dat x && datL xs
end
theorem datL_iff {xs : List D} : datL xs = true ↔ ∀ x ∈ xs, x.dat = true := by
  induction xs with
  | nil => simp [datL]
  | cons x xs ih => simp [datL, ih]
/-- isinstance of data and a built-in type -/
def isTy : D → String → Bool
  | .bl _, n => n == "bool" || n == "int"
  | .int _, n => n == "int"
  | .str _, n => n == "str"
  | .tup _, n => n == "tuple"
  | .lst _, n => n == "list"
  | .dct _, n => n == "dict"
  | _, _ => false
theorem rc_isiD {K : PySem.W.Frag} {μ : Mu} {P : D → Mu → Prop} {x : D} {n : String} (hd : x.dat = true) (hn : n = "int" ∨ n = "bool" ∨ n = "str" ∨ n = "list" ∨ n = "tuple") (h : P (.bl (isTy x n)) μ) : RC K (rIsi K) [x, .ty n] μ P := by
  cases x <;> (try (simp [D.dat] at hd; done)) <;> rcases hn with rfl | rfl | rfl | rfl | rfl <;> exact rc_isiB rfl (by rfl) h
theorem isTy_int {x : D} (h : isTy x "int" = true) (h2 : isTy x "bool" = false) : ∃ i, x = .int i := by
  cases x <;> simp_all [isTy]
theorem isTy_list {x : D} (h : isTy x "list" = true) : ∃ i, x = .lst i := by
  cases x <;> simp_all [isTy]
def isNum : D → Int → Int → Bool
  | .int i, lo, hi => decide (lo ≤ i) && decide (i ≤ hi)
  | _, _, _ => false
def c_is_number (K : PySem.W.Frag) : CT := fun ds μ P PX => ∃ x lo hi, ds = [x, .int lo, .int hi] ∧ x.dat = true ∧ P (.bl (isNum x lo hi)) μ
def t_is_number (K : PySem.W.Frag) (E : XK) : TS :=
    (tRet (tAndV (tCB (rIsi K) (tCons (tVar 0) (tCons (tC (.ty "int")) tNil))) (tAndV (tNotV (tCB (rIsi K) (tCons (tVar 0) (tCons (tC (.ty "bool")) tNil)))) (tChain (rI0 fun i j => .bl (decide (i ≤ j))) (rI0 fun i j => .bl (decide (i ≤ j))) (tVar 1) (tVar 0) (tVar 2)))))
local macro_rules | `(tactic| wtm_at "dS") => `(tactic| with_reducible (show DS _ _ _ _ _ _; first
  | refine q_set ?_
  | refine q_when ?_
  | refine ds_ret ?_
  | refine ds_set ?_
  | refine q_drop ?_
  | refine q_if ?_
  | refine q_asg ?_
  | refine q_par ?_
  | refine q_fld ?_
  | refine ds_drop ?_
  | refine s_when ?_
  | refine ds_if ?_
  | refine ds_asg ?_
  | refine ds_next ?_
  | refine ds_par ?_
  | refine ds_fld ?_
  | refine ds_retN ?_))
local macro_rules | `(tactic| wtm_at "dE") => `(tactic| with_reducible (show DE _ _ _ _ _ _; first
  | refine de_op ?_
  | refine de_int ?_
  | refine de_cb ?_
  | refine de_bl ?_
  | refine de_non ?_
  | refine de_str ?_
  | refine de_ty ?_
  | refine de_loc ?_
  | refine de_un ?_
  | refine de_andV ?_
  | refine de_orV ?_
  | refine de_notV ?_
  | refine de_if ?_
  | refine de_chain ?_
  | refine de_chain3 ?_
  | refine de_isN ?_
  | refine de_notN ?_
  | refine de_sl ?_
  | refine de_bm ?_
  | refine de_bm0 ?_))
local macro_rules | `(tactic| wtm_at "dT") => `(tactic| with_reducible (show DT _ _ _ _ _ _; first
  | refine dt_test ?_
  | refine dt_truth ?_
  | refine dt_and ?_
  | refine dt_or ?_
  | refine dt_not ?_
  | refine dt_B ?_
  | refine dt_yes ?_))
local macro_rules | `(tactic| wtm_at "dO") => `(tactic| with_reducible (first
  | refine da_cons ?_
  | refine da_nil ?_
  | refine ro_i ?_
  | refine ro_b ?_
  | refine ro_addI ?_
  | refine ro_eqI ?_
  | refine ro_neI ?_
  | refine ru_i ?_
  | refine ro_ip ?_
  | refine rc_max2' ?_
  | refine rc_min2' ?_
  | refine ro_eqB ?_
  | refine ro_neB ?_
  | refine ro_isB ?_
  | refine ro_notB ?_
  | refine do_no ?_
  | refine do_part ?_
  | refine dg_name ?_
  | refine dgs_cons ?_
  | refine dgs_nil ?_
  | refine dg_sub ?_
  | refine di_range1 ?_
  | refine di_range2 ?_
  | refine di_any ?_
  | refine di_enum' ?_))
local macro_rules | `(tactic| wtm_at "v") => `(tactic| ((with_reducible show DE _ _ (tVar _) _ _ _); refine de_var (by first | rfl | assumption) ?_))
local macro_rules | `(tactic| wtm_at "h") => `(tactic| with_reducible refine ⟨_, rfl, ?_⟩)
local macro_rules | `(tactic| wtm_at "b") => `(tactic| ((first | refine ⟨_, rfl, br ?_ ?_⟩ | refine ⟨_, rfl, br' ?_ ?_⟩ | refine br ?_ ?_ | refine br' ?_ ?_ | fail) <;> intro hb <;> (try contradiction) <;> (try (simp only [decide_eq_true_eq, decide_eq_false_iff_not, Bool.not_eq_true', Bool.not_eq_false', Bool.not_true, Bool.not_false, Bool.not_eq_eq_eq_not, reduceCtorEq, List.length_map] at hb)) <;> (try (exfalso; omega; done))))
local macro_rules | `(tactic| wtm_at "i") => `(tactic| first | refine rc_isiD (by assumption) (by decide) ?_ | refine rc_isiB rfl (by first | rfl | decide +kernel) ?_)
local macro_rules | `(tactic| wtm_at "r") => `(tactic| refine ret_same0 (Nat.le_refl _) (by assumption) (by first | rfl | simp [D.cl, clL]) ?_)
local macro_rules | `(tactic| wtm_at "g") => `(tactic| repeat' first | wtm_at "v" | wtm_at "dE" | wtm_at "dO" | wtm_at "dT" | wtm_at "dS" | fail)
local macro_rules | `(tactic| wtm_at "a") => `(tactic| repeat' first | wtm_at "v" | wtm_at "dE" | wtm_at "dO" | wtm_at "dT" | wtm_at "dS" | wtm_at "i" | wtm_at "l" | wtm_at "x" | wtm_at "h" | wtm_at "b" | fail)
local macro_rules | `(tactic| wtm_at "l") => `(tactic| ((with_reducible show RC _ (rLen _) _ _ _); first | refine rc_lenL (.lst _) ?_ | refine rc_lenT' (.tup _) ?_ | refine rc_lenL (.rdl _) ?_ | refine rc_lenL (.own (by first | assumption | with_reducible exact mu_last)) ?_))
local macro_rules | `(tactic| wtm_at "x") => `(tactic| refine ro_ixT (.tup _) rfl ?_)
local macro_rules | `(tactic| wtm_at "ow") => `(tactic| first | assumption | with_reducible exact mu_last | exact mu_old (by assumption) | (simp; done) | fail)
local macro_rules | `(tactic| wtm_at "m") => `(tactic| refine ⟨ty_list (.own (by wtm_at "ow")), ?_⟩)
local macro_rules | `(tactic| wtm_at "e") => `(tactic| repeat' first | wtm_at "v" | wtm_at "dE" | wtm_at "dO" | wtm_at "dT" | wtm_at "i" | wtm_at "l" | wtm_at "x" | wtm_at "h" | wtm_at "b" | fail)
local macro_rules | `(tactic| wtm_at "sz") => `(tactic| ((with_reducible show Sz _ ∧ _); refine And.intro (by unfold Sz; first | decide | (simp; done) | (simp; omega) | omega) ?_))
local macro_rules | `(tactic| wtm_at "d2") => `(tactic| with_reducible (first
  | refine de_tupZ ?_
  | refine de_revL ?_
  | refine de_call (by assumption) ?_))
local macro_rules | `(tactic| wtm_at "o2") => `(tactic| first
  | refine ro_mod (by first | decide | omega) ?_
  | refine ro_pow ⟨by decide, by decide, by decide⟩ ?_
  | refine rs_anyL (.lst _) ?_
  | refine ro_mulI (by first | exact .inl ⟨by omega, by omega⟩ | exact .inr ⟨by omega, by omega⟩) ?_
  | refine rc_list (.lst _) ?_
  | refine dg_tup rfl ?_
  | fail)
local macro_rules | `(tactic| wtm_at "h2") => `(tactic| with_reducible (first | refine two_i ?_ | refine ⟨_, Ls.lst _, ?_⟩))
local macro_rules | `(tactic| wtm_at "sP") => `(tactic| with_reducible (first | refine q_parZ ?_ | refine ds_parZ ?_))
local macro_rules | `(tactic| wtm_at "f3") => `(tactic| with_reducible (first
  | refine de_fldZ ?_
  | refine de_methZ (by assumption) ?_))
local macro_rules | `(tactic| wtm_at "p3") => `(tactic| first
  | refine fp_obj (by assumption) (by assumption) (by rfl) ?_
  | refine fp_own (by assumption) (by assumption) (by assumption) (by rfl) ?_
  | refine mp_obj (by rfl) ?_
  | refine mp_own (by assumption) (by rfl) ?_)
local macro_rules | `(tactic| wtm_at "s3") => `(tactic| with_reducible (first | refine q_fldZ ?_ | refine ds_fldZ ?_))
local macro_rules | `(tactic| wtm_at "f4") => `(tactic| with_reducible (first | refine de_isNZ ?_ | refine de_notNZ ?_ | refine np_t ?_))
local macro_rules | `(tactic| wtm_at "g4") => `(tactic| first | refine np_int ?_ | refine np_lst ?_ | refine np_tup ?_ | refine np_obj ?_ | refine np_own ?_ | refine np_str ?_ | refine np_bl ?_)
local macro_rules | `(tactic| wtm_at "s5") => `(tactic| with_reducible (first | refine q_par3 ?_ | refine ds_par3 ?_ | refine three_i ?_ | refine di_range2W ?_))
local macro_rules | `(tactic| wtm_at "o5") => `(tactic| first | refine ro_eqNI ?_ | fail)
local macro_rules | `(tactic| wtm_at "d6") => `(tactic| with_reducible (first | refine de_dget ?_ | refine de_din ?_ | refine de_dnin ?_ | refine rc_abs ?_))
local macro_rules | `(tactic| wtm_at "g6") => `(tactic| first | refine dgp_s (.own (by assumption)) (by rfl) ?_ | refine dgp_s (.dct _) (by rfl) ?_)
local macro_rules | `(tactic| wtm_at "Q") => `(tactic| wtm_at "b")
local macro_rules | `(tactic| wtm_at "Q") => `(tactic| wtm_at "g4")
local macro_rules | `(tactic| wtm_at "Q") => `(tactic| wtm_at "p3")
local macro_rules | `(tactic| wtm_at "Q") => `(tactic| wtm_at "g6")
local macro_rules | `(tactic| wtm_at "Q") => `(tactic| wtm_at "sz")
local macro_rules | `(tactic| wtm_at "Q") => `(tactic| wtm_at "h2")
local macro_rules | `(tactic| wtm_at "Q") => `(tactic| wtm_at "h")
local macro_rules | `(tactic| wtm_at "Q") => `(tactic| wtm_at "o5")
local macro_rules | `(tactic| wtm_at "Q") => `(tactic| wtm_at "o2")
local macro_rules | `(tactic| wtm_at "Q") => `(tactic| wtm_at "x")
local macro_rules | `(tactic| wtm_at "Q") => `(tactic| wtm_at "l")
local macro_rules | `(tactic| wtm_at "Q") => `(tactic| wtm_at "i")
local macro_rules | `(tactic| wtm_at "Q") => `(tactic| wtm_at "f3")
local macro_rules | `(tactic| wtm_at "Q") => `(tactic| wtm_at "d2")
local macro_rules | `(tactic| wtm_at "Q") => `(tactic| wtm_at "dT")
local macro_rules | `(tactic| wtm_at "Q") => `(tactic| wtm_at "dO")
local macro_rules | `(tactic| wtm_at "Q") => `(tactic| wtm_at "d6")
local macro_rules | `(tactic| wtm_at "Q") => `(tactic| wtm_at "dE")
local macro_rules | `(tactic| wtm_at "Q") => `(tactic| wtm_at "f4")
local macro_rules | `(tactic| wtm_at "Q") => `(tactic| wtm_at "v")
local macro_rules | `(tactic| wtm_at "E") => `(tactic| repeat' first | wtm_at "Q" | fail)
local macro_rules | `(tactic| wtm_at "Qs") => `(tactic| wtm_at "dS")
local macro_rules | `(tactic| wtm_at "Qs") => `(tactic| wtm_at "s3")
local macro_rules | `(tactic| wtm_at "Qs") => `(tactic| wtm_at "sP")
local macro_rules | `(tactic| wtm_at "Qs") => `(tactic| wtm_at "s5")
local macro_rules | `(tactic| wtm_at "QA") => `(tactic| wtm_at "Q")
local macro_rules | `(tactic| wtm_at "QA") => `(tactic| wtm_at "Qs")
local macro_rules | `(tactic| wtm_at "A") => `(tactic| repeat' first | wtm_at "QA" | fail)
section
variable {K : PySem.W.Frag}
theorem d_is_number : ∀ ds μ P PX, c_is_number K ds μ P PX → MuCl μ μ.length → clL ds μ.length = true → ∀ B E, XAg K B (RetX μ.length PX) E → DS K B (t_is_number K E) (startD ["thing", "least", "most"] ds) μ (fnE μ.length P) := by
  intro ds μ P PX h hm hc B E hE
  obtain ⟨x, lo, hi, rfl, hd, h⟩ := h
  show DS K B _ [some x, some (.int lo), some (.int hi)] μ _
  unfold t_is_number
  wtm_at "a"
  · obtain ⟨i, rfl⟩ := isTy_int ‹_› ‹_›
    wtm_at "a" <;> wtm_at "r" <;> simp_all [isNum]
  · wtm_at "r"
    cases x <;> simp_all [isNum, isTy]
  · wtm_at "r"
    cases x <;> simp_all [isNum, isTy]
theorem atI_neg1 {α : Type} {xs : List α} {z : α} (h : xs.getLast? = some z) : atI xs (-1) = some z := by
  obtain ⟨ys, rfl⟩ := List.getLast?_eq_some_iff.mp h
  exact atI_last ys z
end
/-! ### calendars: contracts -/
def areNums : D → Int → Int → Int → Bool
  | .lst xs, long, lo, hi => decide (1 ≤ xs.length) && decide ((xs.length : Int) ≤ long) && xs.all (fun x => isNum x lo hi)
  | _, _, _, _ => false
/-- plain data, or a dict -/
def datA (d : D) : Prop := d.dat = true ∨ ∃ gs, d = .dct gs
def c_are_numbers (K : PySem.W.Frag) : CT := fun ds μ P PX => ∃ (x d : D) (long lo hi : Int), ds = [x, .int long, .int lo, .int hi] ∧ Fz μ x d ∧ datA d ∧ long ≤ 100000 ∧ P (.bl (areNums d long lo hi)) μ
abbrev cCal (K : PySem.W.Frag) : Addr := He.ga K "Calendar"
/-- days ahead of the i-th year -/
def preY (ls : List Int) (i : Nat) : Int := (ls.take i).sum
def begins (ls : List Int) : List Int := (List.range ls.length).map (preY ls)
def intsD (ls : List Int) : D := .lst (ls.map D.int)
def calF (ls : List Int) : List (Str × D) := [("lengths", intsD ls), ("begins", intsD (begins ls)), ("whole", .int ls.sum)]
def calD (K : PySem.W.Frag) (ls : List Int) : D := .obj (cCal K) (calF ls)
/-- the days of the years of a calendar -/
structure GCal (ls : List Int) : Prop where
  pos : 0 < ls.length
  most : ls.length ≤ 20
  each : ∀ x ∈ ls, 1 ≤ x ∧ x ≤ 400
structure KCal (K : PySem.W.Frag) : Prop where
  cl : Cls K (cCal K)
  lengths : NoAttr K (cCal K) "lengths"
  begins : NoAttr K (cCal K) "begins"
  whole : NoAttr K (cCal K) "whole"
def c_Calendar_init (K : PySem.W.Frag) : CT := fun ds μ P PX => ∃ k x d, ds = [.own k, x] ∧ μ[k]? = some (.ins (cCal K) []) ∧ Fz μ x d ∧ d.dat = true ∧
  (∀ ls, d = intsD ls → GCal ls → P .non (μ.set k (.ins (cCal K) (calF ls)))) ∧ (areNums d 20 1 400 = false → PX (He.ga K "BadCalendar") [] μ)
/-- how long the year is -/
def longY (ls : List Int) (y : Int) : Int := ls.getD (y % ls.length).toNat 0
def firstY (ls : List Int) (y : Int) : Int := y / ls.length * ls.sum + preY ls (y % ls.length).toNat
/-! ### .. in plain numbers -/
theorem preY_zero (ls : List Int) : preY ls 0 = 0 := by simp [preY]
theorem preY_succ {ls : List Int} {i : Nat} {x : Int} (h : ls[i]? = some x) : preY ls (i + 1) = preY ls i + x := by
  unfold preY
  rw [List.take_add_one, h]
  simp
theorem preY_all (ls : List Int) : preY ls ls.length = ls.sum := by simp [preY]
/-- day d is the s-th one of the year y -/
structure PosY (ls : List Int) (y s d : Int) : Prop where
  y0 : 0 ≤ y
  s0 : 0 ≤ s
  s1 : s < longY ls y
  d : d = firstY ls y + s
theorem longY_get {ls : List Int} (h : GCal ls) {y : Int} (hy : 0 ≤ y) : ls[(y % ls.length).toNat]? = some (longY ls y) := by
  have hp := h.pos
  have h1 := Int.emod_nonneg y (b := (ls.length : Int)) (by omega)
  have h2 := Int.emod_lt_of_pos y (b := (ls.length : Int)) (by omega)
  unfold longY
  rw [List.getD_eq_getElem?_getD, List.getElem?_eq_getElem (by omega)]
  rfl
theorem longY_bd {ls : List Int} (h : GCal ls) {y : Int} (hy : 0 ≤ y) : 1 ≤ longY ls y ∧ longY ls y ≤ 400 := h.each _ (List.mem_of_getElem? (longY_get h hy))
theorem firstY_succ {ls : List Int} (h : GCal ls) {y : Int} (hy : 0 ≤ y) : firstY ls (y + 1) = firstY ls y + longY ls y := by
  have hp := h.pos
  have h1 := Int.emod_nonneg y (b := (ls.length : Int)) (by omega)
  have h2 := Int.emod_lt_of_pos y (b := (ls.length : Int)) (by omega)
  have hy' := Int.ediv_mul_add_emod y ls.length
  have hs := preY_succ (longY_get h hy)
  by_cases hc : y % ls.length + 1 < ls.length
  · have e : y + 1 = ls.length * (y / ls.length) + (y % ls.length + 1) := by rw [Int.mul_comm]; omega
    have e1 : (y + 1) / ls.length = y / ls.length := by
      have z : (y % ls.length + 1) / ls.length = 0 := Int.ediv_eq_zero_of_lt (by omega) (by omega)
      rw [e, Int.mul_add_ediv_left _ _ (by omega), z]; simp
    have e2 : (y + 1) % ls.length = y % ls.length + 1 := by
      have z : (y % ls.length + 1) % ls.length = y % ls.length + 1 := Int.emod_eq_of_lt (by omega) (by omega)
      rw [e, Int.mul_add_emod_self_left, z]
    unfold firstY
    rw [e1, e2]
    have e3 : (y % ls.length + 1).toNat = (y % ls.length).toNat + 1 := by omega
    rw [e3, hs]
    omega
  · have hl : y % ls.length + 1 = ls.length := by omega
    have e : y + 1 = ls.length * (y / ls.length + 1) := by rw [Int.mul_add, Int.mul_one, Int.mul_comm]; omega
    have e1 : (y + 1) / ls.length = y / ls.length + 1 := by
      rw [e, Int.mul_ediv_cancel_left _ (by omega)]
    have e2 : (y + 1) % ls.length = 0 := by rw [e]; simp
    unfold firstY
    rw [e1, e2]
    have e3 : (y % ls.length).toNat + 1 = ls.length := by omega
    rw [e3, preY_all] at hs
    show (y / ls.length + 1) * ls.sum + preY ls 0 = _
    rw [preY_zero, Int.add_mul, Int.one_mul]
    omega
theorem PosY.next {ls : List Int} (h : GCal ls) {y s d : Int} (p : PosY ls y s d) : if s + 1 = longY ls y then PosY ls (y + 1) 0 (d + 1) else PosY ls y (s + 1) (d + 1) := by
  have := p.y0; have := p.s0; have := p.s1; have := p.d
  split
  · refine ⟨by omega, by omega, ?_, ?_⟩
    · have := longY_bd h (y := y + 1) (by omega); omega
    · rw [firstY_succ h p.y0]; omega
  · exact ⟨by omega, by omega, by omega, by omega⟩
def t_are_numbers (K : PySem.W.Frag) (E : XK) : TS :=
    (tSeq (tIfS (tOr (tNot (tTruth K (tCB (rIsi K) (tCons (tVar 0) (tCons (tC (.ty "list")) tNil))))) (tNot (tTest (tChain (rI0 fun i j => .bl (decide (i ≤ j))) (rI0 fun i j => .bl (decide (i ≤ j))) (tC (.int 1)) (tCB (rLen K) (tCons (tVar 0) tNil)) (tVar 1))))) (tRet (tC (.bl false))) tNext)
      (tRet (tCB (rAll K) (tCons (tLc (iAny K (tVar 0)) (gName 4) tYes (tCall (spD K (c_is_number K)) [] E0 (tCons (tVar 4) (tCons (tVar 2) (tCons (tVar 3) tNil)))) [4]) tNil))))
def t_Calendar_init (K : PySem.W.Frag) (E : XK) : TS :=
    (tSeq (tIfS (tNot (tTruth K (tCall (spD K (c_are_numbers K)) [] E (tCons (tVar 1) (tCons (tC (.int 20)) (tCons (tC (.int 1)) (tCons (tC (.int 400)) tNil))))))) (tRaise0 (He.ga K "BadCalendar") E) tNext)
      (tSeq (sFld K (tVar 0) (tCB (rListOf K) (tCons (tVar 1) tNil)) "lengths")
      (tSeq (sFld K (tVar 0) (tLst tNil) "begins")
      (tSeq (sFld K (tVar 0) (tC (.int 0)) "whole")
      (tFor (iAny K (tFld K (tVar 0) "lengths")) (gName 2) (tSeq (tDrop (tBM K "list" rAppend (tFld K (tVar 0) "begins") (tCons (tFld K (tVar 0) "whole") tNil)))
      (sFldAug K (tVar 0) (tVar 2) rAdd "whole")))))))
section
variable {K : PySem.W.Frag}
theorem d_are_numbers : ∀ ds μ P PX, c_are_numbers K ds μ P PX → MuCl μ μ.length → clL ds μ.length = true → ∀ B E, XAg K B (RetX μ.length PX) E → DS K B (t_are_numbers K E) (startD ["thing", "long", "least", "most", "one"] ds) μ (fnE μ.length P) := by
  intro ds μ P PX h hm hc B E hE
  obtain ⟨x, d, long, lo, hi, rfl, fz, hd, hlong, h⟩ := h
  show DS K B _ [some x, some (.int long), some (.int lo), some (.int hi), none] μ _
  rcases hd with hd | ⟨gs, rfl⟩
  rotate_left
  · obtain rfl : x = .dct gs := by cases fz; rfl
    unfold t_are_numbers
    wtm_at "g"
    refine rc_isiB (n := "dict") rfl (by rfl) ?_
    wtm_at "A"
    exact ret_same0 (Nat.le_refl _) hm rfl h
  have key : ∀ xs, d = .lst xs → tyD μ x = some "list" → Ls μ x xs → DS K B (t_are_numbers K E) [some x, some (.int long), some (.int lo), some (.int hi), none] μ (fnE μ.length P) := by
    rintro xs rfl ht hl
    have hdx : ∀ y ∈ xs, y.dat = true := by
      unfold D.dat at hd
      exact datL_iff.mp hd
    obtain ⟨S, wk⟩ := hl.wk
    unfold t_are_numbers
    wtm_at "g"
    refine rc_isiB ht (by rfl) ?_
    wtm_at "A"
    refine rc_lenL hl ?_
    have hf : ¬ (1 ≤ xs.length ∧ (xs.length : Int) ≤ long) → Ret μ.length P (.bl false) μ := fun hn => by
      wtm_at "r"
      have : areNums (.lst xs) long lo hi = false := by
        simp [areNums]
        omega
      rw [this] at h
      exact h
    wtm_at "A"
    · exact hf (by omega)
    · refine lc_map (fun d => .bl (isNum d lo hi)) (gw_name (by simp)) ?_
      wtm_at "A"
      refine ⟨xs, S, wk, wk.now, by omega, fun i d hd' => ?_, fun out ho => ?_⟩
      · wtm_at "A"
        refine ⟨rfl, de_call XAg.none ?_⟩
        wtm_at "A"
        exact ⟨d, lo, hi, rfl, hdx d (List.mem_of_getElem? hd'), rfl, rfl⟩
      · wtm_at "A"
        refine rc_all (bs := xs.map (isNum · lo hi)) (by rw [← ho, List.map_map]; exact .lst _) ?_
        wtm_at "r"
        have : areNums (.lst xs) long lo hi = (xs.map (isNum · lo hi)).all id := by
          simp only [areNums, List.all_map]
          rename_i hb
          simp [show 1 ≤ xs.length by omega, show (xs.length : Int) ≤ long by omega]
        rw [this] at h
        exact h
    · exact hf (by omega)
  cases fz with
  | id =>
    by_cases hl : isTy x "list" = true
    · obtain ⟨xs, rfl⟩ := isTy_list hl
      exact key xs rfl rfl (.lst xs)
    · unfold t_are_numbers
      wtm_at "A"
      · exact absurd ‹_› hl
      · wtm_at "r"
        have : areNums x long lo hi = false := by cases x <;> simp_all [areNums, isTy]
        rw [this] at h
        exact h
  | own hk => exact key _ rfl (by simp [tyD, hk]) (.own hk)
theorem nums_ints : ∀ {xs : List D} {lo hi : Int}, xs.all (fun x => isNum x lo hi) = true → ∃ ls : List Int, xs = ls.map D.int ∧ ∀ x ∈ ls, lo ≤ x ∧ x ≤ hi
  | [], _, _, _ => ⟨[], rfl, by simp⟩
  | x :: xs, lo, hi, h => by
    rw [List.all_cons, Bool.and_eq_true] at h
    obtain ⟨ls, rfl, hl⟩ := nums_ints h.2
    cases x <;> simp [isNum] at h
    rename_i n
    exact ⟨n :: ls, rfl, fun y hy => by
      rcases List.mem_cons.mp hy with m | m
      · subst m; exact h.1
      · exact hl y m⟩
theorem areNums_cal {d : D} (h : areNums d 20 1 400 = true) : ∃ ls, d = intsD ls ∧ GCal ls := by
  cases d <;> simp [areNums] at h
  rename_i xs
  obtain ⟨ls, rfl, hl⟩ := nums_ints (lo := 1) (hi := 400) (xs := xs) (by rw [List.all_eq_true]; exact h.2)
  simp at h
  exact ⟨ls, rfl, by omega, by omega, hl⟩
theorem areNums_of {ls : List Int} (h : GCal ls) : areNums (intsD ls) 20 1 400 = true := by
  have := h.pos; have := h.most
  simp [areNums, intsD]
  refine ⟨by omega, fun x hx => ?_⟩
  have := h.each x hx
  simp [isNum]; omega
theorem cl_ints (ls : List Int) (n : Nat) : clL (ls.map D.int) n = true := clL_map fun x _ => by simp [D.cl]
theorem d_Calendar_init (kc : KCal K) : ∀ ds μ P PX, c_Calendar_init K ds μ P PX → MuCl μ μ.length → clL ds μ.length = true → ∀ B E, XAg K B (RetX μ.length PX) E → DS K B (t_Calendar_init K E) (startD ["self", "years", "days"] ds) μ (fnE μ.length P) := by
  intro ds μ P PX h hm hc B E hE
  obtain ⟨k, x, d, rfl, hk, fz, hd, h1, h2⟩ := h
  show DS K B _ [some (.own k), some x, none] μ _
  have c1 := kc.cl; have c2 := kc.lengths; have c3 := kc.begins; have c4 := kc.whole
  unfold t_Calendar_init
  wtm_at "A"
  refine ⟨x, d, 20, 1, 400, rfl, fz, .inl hd, by decide, ?_⟩
  wtm_at "A"
  · exact ds_raise0 hE (retx_same0 hm rfl (h2 ‹_›))
  · rename_i hs
    obtain ⟨ls, rfl, hg⟩ := areNums_cal hs
    have hl : Ls μ x (ls.map D.int) := by
      cases fz with
      | id => exact .lst _
      | own h => exact .own h
    have kl := (List.getElem?_eq_some_iff.mp hk).1
    have hset : ∀ z, (μ.set k z)[k]? = some z := fun z => set_get hk
    have hlen : ∀ z : MO, (List.set μ k z).length = μ.length := fun z => by simp
    refine rc_list hl ?_
    wtm_at "A"
    refine pp_own hk c1 c2 (of_decide_eq_true (by rfl)) ?_
    wtm_at "A"
    refine de_lstOZ ?_
    wtm_at "A"
    rw [hlen]
    refine pp_own (mu_old (hset _)) c1 c3 (of_decide_eq_true (by rfl)) ?_
    rw [set_old (hset _), set_set']
    wtm_at "A"
    refine pp_own (mu_old (hset _)) c1 c4 (of_decide_eq_true (by rfl)) ?_
    rw [set_old (hset _), set_set']
    refine ds_ghostN ?_
    refine ds_for ?_
    wtm_at "A"
    refine fp_own (mu_old (hset _)) c1 c2 rfl ?_
    refine ⟨_, _, .lst _, fun i ρ μ' => ∃ y2, ρ = [some (.own k), some x, y2] ∧ μ' = μ.set k (.ins (cCal K) [("lengths", intsD ls), ("begins", .own μ.length), ("whole", .int (preY ls i))]) ++ [.lst (((List.range i).map (preY ls)).map D.int)],
      ⟨none, rfl, rfl⟩, fun _ _ _ _ _ => trivial, ?_, ?_⟩
    · rintro i d ρ μ' hd' ⟨y2, rfl, rfl⟩
      rw [List.getElem?_map] at hd'
      cases q : ls[i]? with
      | none => rw [q] at hd'; cases hd'
      | some n =>
        rw [q] at hd'
        obtain rfl : D.int n = d := Option.some.inj hd'
        have hi := (List.getElem?_eq_some_iff.mp q).1
        have hmost := hg.most
        have hlast : ∀ z : MO, ∀ o : MO, (μ.set k z ++ [o])[μ.length]? = some o := fun z o => by rw [← hlen z]; exact mu_last
        have hsetl : ∀ z : MO, ∀ o o' : MO, (μ.set k z ++ [o]).set μ.length o' = μ.set k z ++ [o'] := fun z o o' => by rw [← hlen z]; exact set_last
        wtm_at "A"
        refine fp_own (mu_old (hset _)) c1 c3 rfl ?_
        refine ⟨ty_list (.own (hlast _ _)), ?_⟩
        wtm_at "A"
        refine fp_own (mu_old (hset _)) c1 c4 rfl ?_
        wtm_at "A"
        refine rm_app (hlast _ _) (by simp; omega) ?_
        rw [hsetl]
        refine ds_fldAug ?_
        wtm_at "A"
        refine ⟨k, _, _, _, rfl, mu_old (hset _), c1, c4, rfl, ?_⟩
        wtm_at "A"
        refine ro_add ?_
        refine ⟨_, mu_old (hset _), by simp, ?_⟩
        rw [set_old (hset _), set_set']
        refine ⟨_, rfl, ?_⟩
        rw [← preY_succ q, List.range_succ, List.map_append, List.map_append]
        rfl
    · rintro ρ μ' ⟨y2, rfl, rfl⟩
      rw [List.length_map]
      have hlast : ∀ z : MO, ∀ o : MO, (μ.set k z ++ [o])[μ.length]? = some o := fun z o => by rw [← hlen z]; exact mu_last
      have hsetl : ∀ z : MO, ∀ o o' : MO, (μ.set k z ++ [o]).set μ.length o' = μ.set k z ++ [o'] := fun z o o' => by rw [← hlen z]; exact set_last
      refine ⟨_, gh_fld (f := "begins") (mu_old (hset _)) rfl (hlast _ _), ?_⟩
      rw [hsetl, set_old (hset _), set_set', preY_all]
      refine ret_same (by simp) ?_ rfl (h1 ls rfl hg)
      rw [hlen]
      refine hm.set ?_
      show clF (calF ls) _ = true
      simp only [clF, calF, D.cl, intsD, cl_ints, Bool.and_self]
theorem at_map {α : Type} {f : α → D} {xs : List α} {i : Int} {j : Nat} {x : α} (e : i = (j : Int)) (h : xs[j]? = some x) : atI (xs.map f) i = some (f x) := by
  rw [e]
  exact atI_nat (by rw [List.getElem?_map, h]; rfl)
end
/-! ### the year of a day -/
/-! ### feasts: contracts -/
def isNameD : D → Bool
  | .str s => decide (nameOk s)
  | _ => false
def c_is_name (K : PySem.W.Frag) : CT := fun ds μ P PX => ∃ x, ds = [x] ∧ x.dat = true ∧ (∀ s, x = .str s → s.length ≤ 100000) ∧ P (.bl (isNameD x)) μ
structure KeptOk (ys : List Int) : Prop where
  pos : 0 < ys.length
  most : ys.length ≤ 20
  each : ∀ y ∈ ys, 0 ≤ y ∧ y ≤ 19
  up : ∀ (i : Nat) (a b : Int), ys[i]? = some a → ys[i + 1]? = some b → a < b
def keptD : Option (List Int) → D
  | none => .non
  | some ys => intsD ys
def KeptO (k : Option (List Int)) : Prop := ∀ ys, k = some ys → KeptOk ys
def actD (p : Str × Str) : D := .tup [.str p.1, .str p.2]
def actsD (ps : List (Str × Str)) : D := .lst (ps.map actD)
structure ActsOk (ps : List (Str × Str)) : Prop where
  most : ps.length ≤ 4
  each : ∀ p ∈ ps, nameOk p.1 ∧ (p.2 = "off" ∨ p.2 = "rest")
  nd : (ps.map (·.1)).Nodup
/-- these may be puts -/
def PutsIs (d : D) (ps : List (Str × Str)) : Prop := ActsOk ps ∧ (d = actsD ps ∨ (d = .non ∧ ps = []))
structure FeT where
  name : Str
  place : Int
  lasts : Int
  kept : Option (List Int)
  acts : List (Str × Str)
structure GFe (f : FeT) : Prop where
  name : nameOk f.name
  p0 : -400 ≤ f.place
  p1 : f.place ≤ 399
  l0 : 1 ≤ f.lasts
  l1 : f.lasts ≤ 40
  kept : KeptO f.kept
  acts : ActsOk f.acts
/-- these make the feast -/
structure FeIs (a b c dk dp : D) (f : FeT) : Prop where
  good : GFe f
  a : a = .str f.name
  b : b = .int f.place
  c : c = .int f.lasts
  k : dk = keptD f.kept
  p : PutsIs dp f.acts
theorem keptD_inj {k k' : Option (List Int)} (h : keptD k = keptD k') : k = k' := by
  cases k with
  | none => cases k' with
    | none => rfl
    | some ys => simp [keptD, intsD] at h
  | some xs => cases k' with
    | none => simp [keptD, intsD] at h
    | some ys =>
      unfold keptD intsD at h
      injection h with h
      rw [(List.map_inj_right (fun a b h => by injection h)).mp h]
theorem actsD_inj {ps qs : List (Str × Str)} (h : actsD ps = actsD qs) : ps = qs := by
  unfold actsD at h
  injection h with h
  refine (List.map_inj_right (fun a b h => ?_)).mp h
  obtain ⟨a1, a2⟩ := a
  obtain ⟨b1, b2⟩ := b
  unfold actD at h
  simp at h
  rw [h.1, h.2]
theorem PutsIs.uniq {d : D} {ps qs : List (Str × Str)} (h : PutsIs d ps) (h' : PutsIs d qs) : ps = qs := by
  rcases h.2 with rfl | ⟨rfl, rfl⟩
  · rcases h'.2 with e | ⟨e, _⟩
    · exact actsD_inj e
    · simp [actsD] at e
  · rcases h'.2 with e | ⟨_, rfl⟩
    · simp [actsD] at e
    · rfl
theorem FeIs.uniq {a b c dk dp : D} {f g : FeT} (h : FeIs a b c dk dp f) (h' : FeIs a b c dk dp g) : f = g := by
  obtain ⟨n, p, l, k, as⟩ := f
  obtain ⟨n', p', l', k', as'⟩ := g
  have e1 := h.a.symm.trans h'.a
  have e2 := h.b.symm.trans h'.b
  have e3 := h.c.symm.trans h'.c
  have e4 := keptD_inj (h.k.symm.trans h'.k)
  have e5 := h.p.uniq h'.p
  simp at e1 e2 e3 e4 e5
  rw [e1, e2, e3, e4, e5]
theorem FeIs.of {f : FeT} (h : GFe f) : FeIs (.str f.name) (.int f.place) (.int f.lasts) (keptD f.kept) (actsD f.acts) f := ⟨h, rfl, rfl, rfl, rfl, h.acts, .inl rfl⟩
def t_is_name (K : PySem.W.Frag) (E : XK) : TS :=
    (tSeq (tIfS (tOr (tNot (tTruth K (tCB (rIsi K) (tCons (tVar 0) (tCons (tC (.ty "str")) tNil))))) (tNot (tTest (tChain (rI0 fun i j => .bl (decide (i ≤ j))) (rI0 fun i j => .bl (decide (i ≤ j))) (tC (.int 1)) (tCB (rLen K) (tCons (tVar 0) tNil)) (tC (.int 8)))))) (tRet (tC (.bl false))) tNext)
      (tRet (tCB (rAll K) (tCons (tLc (iAny K (tVar 0)) (gName 1) tYes (tOp (rInA K) (tVar 1) (tC (.str "abcdefghijklmnopqrstuvwxyz"))) [1]) tNil))))
section
variable {K : PySem.W.Frag}
theorem signs_get {s : Str} {i : Nat} {d : D} (h : (signsD s)[i]? = some d) : ∃ c, s.cps.toList[i]? = some c ∧ d = .str ⟨#[c]⟩ := by
  unfold signsD at h
  rw [List.getElem?_map] at h
  cases q : s.cps.toList[i]? with
  | none => rw [q] at h; cases h
  | some c => rw [q] at h; exact ⟨c, rfl, (Option.some.inj h).symm⟩
theorem d_is_name : ∀ ds μ P PX, c_is_name K ds μ P PX → MuCl μ μ.length → clL ds μ.length = true → ∀ B E, XAg K B (RetX μ.length PX) E → DS K B (t_is_name K E) (startD ["thing", "sign"] ds) μ (fnE μ.length P) := by
  intro ds μ P PX h hm hc B E hE
  obtain ⟨x, rfl, hd, hl, h⟩ := h
  show DS K B _ [some x, none] μ _
  unfold t_is_name
  by_cases hs : ∃ s, x = .str s
  · obtain ⟨s, rfl⟩ := hs
    have hl' := hl s rfl
    have no : ¬ (1 ≤ s.length ∧ s.length ≤ 8) → Ret μ.length P (.bl false) μ := fun hn => by
      have e : isNameD (.str s) = false := by
        simp only [isNameD, decide_eq_false_iff_not]
        exact fun hx => hn ⟨hx.1, hx.2.1⟩
      rw [e] at h
      wtm_at "r"
      exact h
    wtm_at "A"
    refine rc_lenS' hl' ?_
    wtm_at "A"
    · exact no (by omega)
    · refine lc_map (fun d => match d with | .str z => .bl (z.cps.toList.all fun c => decide (c ∈ letters)) | _ => .non) (gw_name (by simp)) ?_
      wtm_at "A"
      refine ⟨_, _, .str s, trivial, by simp [signsD]; unfold Str.length at hl'; omega, fun i d hd' => ?_, fun out ho => ?_⟩
      · obtain ⟨c, hc', rfl⟩ := signs_get hd'
        wtm_at "A"
        refine ⟨rfl, ?_⟩
        wtm_at "A"
        refine ro_inSg ?_
        refine ⟨?_, rfl⟩
        rw [letters_str]
        simp
      · wtm_at "A"
        refine rc_all (bs := s.cps.toList.map fun c => decide (c ∈ letters)) ?_ ?_
        · rw [← ho]
          unfold signsD
          rw [List.map_map, List.map_map]
          have : (fun c : Nat => D.bl (decide (c ∈ letters))) = ((fun d => match d with | .str z => D.bl (z.cps.toList.all fun c => decide (c ∈ letters)) | _ => .non) ∘ fun c => D.str ⟨#[c]⟩) := by
            funext c; simp
          rw [← this]
          exact .lst _
        wtm_at "r"
        rename_i h1 h2
        have e : isNameD (.str s) = ((s.cps.toList.map fun c => decide (c ∈ letters)).all id) := by
          simp only [isNameD]
          rw [Bool.eq_iff_iff]
          simp only [decide_eq_true_eq, List.all_map, List.all_eq_true, Function.comp, id]
          exact ⟨fun hx c hc => hx.2.2 c hc, fun hx => ⟨by omega, by omega, hx⟩⟩
        rw [e] at h
        exact h
    · exact no (by omega)
  · have hx : isTy x "str" = false := by
      cases x <;> first | rfl | exact absurd ⟨_, rfl⟩ hs
    wtm_at "A"
    · rename_i hb; rw [hx] at hb; cases hb
    · wtm_at "r"
      have e : isNameD x = false := by cases x <;> first | rfl | exact absurd ⟨_, rfl⟩ hs
      rw [e] at h
      exact h
theorem Fz.set {μ : Mu} {x d : D} {k : Nat} {o : MO} {C : Addr} {gs : List (Str × D)} (h : Fz μ x d) (hk : μ[k]? = some (.ins C gs)) : Fz (μ.set k o) x d := by
  cases h with
  | id => exact .id _
  | @own j ds h =>
    have : k ≠ j := fun e => by rw [e, h] at hk; cases hk
    exact .own (by rw [List.getElem?_set_ne this]; exact h)
theorem Fz.list {μ : Mu} {x : D} {ds : List D} (h : Fz μ x (.lst ds)) : Ls μ x ds := by
  cases h with
  | id => exact .lst _
  | own h => exact .own h
end
/-! ### rows of pieces -/
structure RwT where
  going : Bool
  name : Str
  many : Int
  most : Int
  begin : Int
structure GRw (r : RwT) : Prop where
  name : nameOk r.name
  m0 : 1 ≤ r.many
  m1 : r.many ≤ 1000000
  t0 : 1 ≤ r.most
  t1 : r.most ≤ 9
  b0 : 0 ≤ r.begin
  b1 : r.begin < r.many
  yb : r.going = false → r.begin = 0
abbrev cGo (K : PySem.W.Frag) : Addr := He.ga K "Going"
abbrev cYe (K : PySem.W.Frag) : Addr := He.ga K "Yearly"
def goF (name : Str) (many most begin : Int) : List (Str × D) := [("name", .str name), ("pieces", .int many), ("most", .int most), ("begin", .int begin)]
def yeF (name : Str) (many most : Int) : List (Str × D) := [("name", .str name), ("pieces", .int many), ("most", .int most)]
def rowD (K : PySem.W.Frag) (r : RwT) : D := if r.going = true then .obj (cGo K) (goF r.name r.many r.most r.begin) else .obj (cYe K) (yeF r.name r.many r.most)
inductive Srt where
  | free | off | rest
deriving DecidableEq
def Srt.s : Srt → Str
  | .free => "free"
  | .off => "off"
  | .rest => "rest"
structure KRw (K : PySem.W.Frag) : Prop where
  cg : Cls K (cGo K)
  cy : Cls K (cYe K)
  g1 : NoAttr K (cGo K) "name"
  g2 : NoAttr K (cGo K) "pieces"
  g3 : NoAttr K (cGo K) "most"
  g4 : NoAttr K (cGo K) "begin"
  y1 : NoAttr K (cYe K) "name"
  y2 : NoAttr K (cYe K) "pieces"
  y3 : NoAttr K (cYe K) "most"
/-- these make a row -/
structure RowIs (a b c : D) (name : Str) (many most : Int) : Prop where
  a : a = .str name
  b : b = .int many
  c : c = .int most
  n : nameOk name
  m0 : 1 ≤ many
  m1 : many ≤ 1000000
  t0 : 1 ≤ most
  t1 : most ≤ 9
structure RowX (a b c : D) : Prop where
  da : a.dat = true
  sa : ∀ s : Str, a = .str s → s.length ≤ 100000
  db : b.dat = true
  dc : c.dat = true
theorem RowX.ok {n : Str} {i j : Int} (h : nameOk n) : RowX (.str n) (.int i) (.int j) := ⟨rfl, fun s e => by cases e; have := h.2.1; omega, rfl, rfl⟩
def c_Row_init (K : PySem.W.Frag) : CT := fun ds μ P PX => ∃ (k : Nat) (C : Addr) (a b c : D), ds = [.own k, a, b, c] ∧ (C = cGo K ∨ C = cYe K) ∧ μ[k]? = some (.ins C []) ∧ RowX a b c ∧
  (∀ name many most, RowIs a b c name many most → P .non (μ.set k (.ins C (yeF name many most)))) ∧ ((∀ name many most, ¬ RowIs a b c name many most) → PX (He.ga K "BadRow") [] μ)
def c_Going_init (K : PySem.W.Frag) : CT := fun ds μ P PX => ∃ (k : Nat) (a b c e : D), ds = [.own k, a, b, c, e] ∧ μ[k]? = some (.ins (cGo K) []) ∧ RowX a b c ∧ e.dat = true ∧
  (∀ name many most begin, RowIs a b c name many most → e = .int begin → 0 ≤ begin → begin < many → P .non (μ.set k (.ins (cGo K) (goF name many most begin)))) ∧
  ((∀ name many most begin, RowIs a b c name many most → e = .int begin → 0 ≤ begin → begin < many → False) → ∀ μ', (μ' = μ ∨ ∃ gs, clF gs μ.length = true ∧ μ' = μ.set k (.ins (cGo K) gs)) → PX (He.ga K "BadRow") [] μ')
def c_Yearly_init (K : PySem.W.Frag) : CT := fun ds μ P PX => ∃ (k : Nat) (a b c : D), ds = [.own k, a, b, c] ∧ μ[k]? = some (.ins (cYe K) []) ∧ RowX a b c ∧
  (∀ name many most, RowIs a b c name many most → P .non (μ.set k (.ins (cYe K) (yeF name many most)))) ∧ ((∀ name many most, ¬ RowIs a b c name many most) → PX (He.ga K "BadRow") [] μ)
theorem RowIs.of {r : RwT} (h : GRw r) : RowIs (.str r.name) (.int r.many) (.int r.most) r.name r.many r.most := ⟨rfl, rfl, rfl, h.name, h.m0, h.m1, h.t0, h.t1⟩
def c_Going_told (K : PySem.W.Frag) : CT := fun ds μ P PX => ∃ r : RwT, ds = [rowD K r] ∧ r.going = true ∧ P (.tup [.str "going", .str r.name, .int r.many, .int r.most, .int r.begin]) μ
def c_Yearly_told (K : PySem.W.Frag) : CT := fun ds μ P PX => ∃ r : RwT, ds = [rowD K r] ∧ r.going = false ∧ P (.tup [.str "yearly", .str r.name, .int r.many, .int r.most]) μ
theorem rowD_go {K : PySem.W.Frag} {r : RwT} (h : r.going = true) : rowD K r = .obj (cGo K) (goF r.name r.many r.most r.begin) := by simp [rowD, h]
theorem rowD_ye {K : PySem.W.Frag} {r : RwT} (h : r.going = false) : rowD K r = .obj (cYe K) (yeF r.name r.many r.most) := by simp [rowD, h]
section
variable {K : PySem.W.Frag} {μ : Mu} {r : RwT} {F : D → Prop}
theorem fpr_name (kr : KRw K) (h : F (.str r.name)) : FldP K μ (rowD K r) "name" F := by
  cases hg : r.going with
  | true => rw [rowD_go hg]; exact fp_obj kr.cg kr.g1 rfl h
  | false => rw [rowD_ye hg]; exact fp_obj kr.cy kr.y1 rfl h
theorem fpr_pieces (kr : KRw K) (h : F (.int r.many)) : FldP K μ (rowD K r) "pieces" F := by
  cases hg : r.going with
  | true => rw [rowD_go hg]; exact fp_obj kr.cg kr.g2 rfl h
  | false => rw [rowD_ye hg]; exact fp_obj kr.cy kr.y2 rfl h
theorem fpr_most (kr : KRw K) (h : F (.int r.most)) : FldP K μ (rowD K r) "most" F := by
  cases hg : r.going with
  | true => rw [rowD_go hg]; exact fp_obj kr.cg kr.g3 rfl h
  | false => rw [rowD_ye hg]; exact fp_obj kr.cy kr.y3 rfl h
theorem fpr_begin (kr : KRw K) (hg : r.going = true) (h : F (.int r.begin)) : FldP K μ (rowD K r) "begin" F := by
  rw [rowD_go hg]; exact fp_obj kr.cg kr.g4 rfl h
end
/-- no field of a row -/
def NoF (m : Str) : Prop := (∀ n a b c, (goF n a b c).lookup m = none) ∧ ∀ n a b, (yeF n a b).lookup m = none
/-- a method of a row that a slot holds, of either class -/
theorem de_rowM {K : PySem.W.Frag} {B : Bs} {ρ : En} {μ : Mu} {te : TE} {ts : TA} {P : D → Mu → Prop} {PX : PXT} {E : XK} {m : Str} {Cg Cy : CT} {r : RwT} (hm : NoF m) (hE : XAg K B PX E)
    (hv : ∀ P' : D → Mu → Prop, P' (rowD K r) μ → DE K B te ρ μ P')
    (h : DA K B ts ρ μ fun ds μ2 => (r.going = true → Cg (rowD K r :: ds) μ2 P PX) ∧ (r.going = false → Cy (rowD K r :: ds) μ2 P PX)) :
    DE K B (tOrE (tMeth (cGo K) m (spD K Cg) [] E te ts) (tMeth (cYe K) m (spD K Cy) [] E te ts)) ρ μ P := by
  cases hg : r.going with
  | true =>
    refine de_orL (de_methZ hE (hv _ ?_))
    have h' : DA K B ts ρ μ fun ds μ2 => Cg (rowD K r :: ds) μ2 P PX := da_imp h fun ds μ2 p => p.1 hg
    rw [rowD_go hg] at h' ⊢
    exact mp_obj (hm.1 _ _ _ _) h'
  | false =>
    refine de_orR (de_methZ hE (hv _ ?_))
    have h' : DA K B ts ρ μ fun ds μ2 => Cy (rowD K r :: ds) μ2 P PX := da_imp h fun ds μ2 p => p.2 hg
    rw [rowD_ye hg] at h' ⊢
    exact mp_obj (hm.2 _ _ _) h'
theorem de_is {K : PySem.W.Frag} {B : Bs} {ρ : En} {μ : Mu} {te : TE} {P : D → Mu → Prop} {d0 : D} (h : DE K B te ρ μ fun d μ1 => d = d0 ∧ μ1 = μ) (k : P d0 μ) : DE K B te ρ μ P := h.imp fun d μ1 p => by obtain ⟨rfl, rfl⟩ := p; exact k
def t_Row_init (K : PySem.W.Frag) (E : XK) : TS :=
    (tSeq (tIfS (tOr (tNot (tTruth K (tCall (spD K (c_is_name K)) [] E (tCons (tVar 1) tNil)))) (tOr (tNot (tTruth K (tCall (spD K (c_is_number K)) [] E (tCons (tVar 2) (tCons (tC (.int 1)) (tCons (tC (.int 1000000)) tNil)))))) (tNot (tTruth K (tCall (spD K (c_is_number K)) [] E (tCons (tVar 3) (tCons (tC (.int 1)) (tCons (tC (.int 9)) tNil)))))))) (tRaise0 (He.ga K "BadRow") E) tNext)
      (tSeq (sFld K (tVar 0) (tVar 1) "name")
      (tSeq (sFld K (tVar 0) (tVar 2) "pieces")
      (sFld K (tVar 0) (tVar 3) "most"))))
def t_Going_init (K : PySem.W.Frag) (E : XK) : TS :=
    (tSeq (tDrop (tCall (spD K (c_Row_init K)) [] E (tCons (tVar 0) (tCons (tVar 1) (tCons (tVar 2) (tCons (tVar 3) tNil))))))
      (tSeq (tIfS (tNot (tTruth K (tCall (spD K (c_is_number K)) [] E (tCons (tVar 4) (tCons (tC (.int 0)) (tCons (tOp (rI0 fun i j => .int (i - j)) (tVar 2) (tC (.int 1))) tNil)))))) (tRaise0 (He.ga K "BadRow") E) tNext)
      (sFld K (tVar 0) (tVar 4) "begin")))
def t_Going_told (K : PySem.W.Frag) (E : XK) : TS :=
    (tRet (tTup (tCons (tC (.str "going")) (tCons (tFld K (tVar 0) "name") (tCons (tFld K (tVar 0) "pieces") (tCons (tFld K (tVar 0) "most") (tCons (tFld K (tVar 0) "begin") tNil)))))))
def t_Yearly_init (K : PySem.W.Frag) (E : XK) : TS :=
    (tDrop (tCall (spD K (c_Row_init K)) [] E (tCons (tVar 0) (tCons (tVar 1) (tCons (tVar 2) (tCons (tVar 3) tNil))))))
def t_Yearly_told (K : PySem.W.Frag) (E : XK) : TS :=
    (tRet (tTup (tCons (tC (.str "yearly")) (tCons (tFld K (tVar 0) "name") (tCons (tFld K (tVar 0) "pieces") (tCons (tFld K (tVar 0) "most") tNil))))))
theorem Srt.ok (w : Srt) : PyData.strOk w.s = true := by cases w <;> decide +kernel
section
variable {K : PySem.W.Frag}
theorem d_Going_told (kr : KRw K) : ∀ ds μ P PX, c_Going_told K ds μ P PX → MuCl μ μ.length → clL ds μ.length = true → ∀ B E, XAg K B (RetX μ.length PX) E → DS K B (t_Going_told K E) (startD ["self"] ds) μ (fnE μ.length P) := by
  intro ds μ P PX h hm hc B E hE
  obtain ⟨r, rfl, hg, h⟩ := h
  show DS K B _ [some (rowD K r)] μ _
  unfold t_Going_told
  wtm_at "A"
  refine fpr_name kr ?_
  wtm_at "A"
  refine fpr_pieces kr ?_
  wtm_at "A"
  refine fpr_most kr ?_
  wtm_at "A"
  refine fpr_begin kr hg ?_
  wtm_at "A"
  wtm_at "r"
  exact h
theorem d_Yearly_told (kr : KRw K) : ∀ ds μ P PX, c_Yearly_told K ds μ P PX → MuCl μ μ.length → clL ds μ.length = true → ∀ B E, XAg K B (RetX μ.length PX) E → DS K B (t_Yearly_told K E) (startD ["self"] ds) μ (fnE μ.length P) := by
  intro ds μ P PX h hm hc B E hE
  obtain ⟨r, rfl, hg, h⟩ := h
  show DS K B _ [some (rowD K r)] μ _
  unfold t_Yearly_told
  wtm_at "A"
  refine fpr_name kr ?_
  wtm_at "A"
  refine fpr_pieces kr ?_
  wtm_at "A"
  refine fpr_most kr ?_
  wtm_at "A"
  wtm_at "r"
  exact h
theorem d_Row_init (kr : KRw K) : ∀ ds μ P PX, c_Row_init K ds μ P PX → MuCl μ μ.length → clL ds μ.length = true → ∀ B E, XAg K B (RetX μ.length PX) E → DS K B (t_Row_init K E) (startD ["self", "name", "pieces", "most"] ds) μ (fnE μ.length P) := by
  intro ds μ P PX h hm hc B E hE
  obtain ⟨k, C, a, b, c, rfl, hC, hk, hX, hyes, hno⟩ := h
  have kc : Cls K C ∧ NoAttr K C "name" ∧ NoAttr K C "pieces" ∧ NoAttr K C "most" := by
    rcases hC with rfl | rfl
    · exact ⟨kr.cg, kr.g1, kr.g2, kr.g3⟩
    · exact ⟨kr.cy, kr.y1, kr.y2, kr.y3⟩
  obtain ⟨k1, k2, k3, k4⟩ := kc
  show DS K B _ [some (.own k), some a, some b, some c] μ _
  have bad : (∀ n m t, ¬ RowIs a b c n m t) → ∀ (ρ : En) (Pe : DEnds), DS K B (tRaise0 (He.ga K "BadRow") E) ρ μ Pe := fun hn ρ Pe => ds_raise0 hE (retx_same0 hm rfl (hno hn))
  unfold t_Row_init
  have hset : ∀ z, (μ.set k z)[k]? = some z := fun z => set_get hk
  refine q_when (dt_or (dt_not (dt_truth (de_call hE ?_))))
  wtm_at "E"
  refine ⟨a, rfl, hX.da, hX.sa, ?_⟩
  refine ⟨_, rfl, ?_⟩
  cases ha : isNameD a with
  | false =>
    refine ⟨fun z => (nomatch z), fun _ => ⟨fun _ => bad (fun n m t q => ?_) _ _, fun z => (nomatch z)⟩⟩
    rw [q.a] at ha
    exact absurd q.n (by simpa [isNameD] using ha)
  | true =>
  obtain ⟨name, rfl⟩ : ∃ n, a = .str n := by cases a <;> simp [isNameD] at ha; exact ⟨_, rfl⟩
  have hn : nameOk name := by simpa [isNameD] using ha
  refine ⟨fun _ => ?_, fun z => (nomatch z)⟩
  refine dt_or (dt_not (dt_truth (de_call hE ?_)))
  wtm_at "E"
  refine ⟨b, _, _, rfl, hX.db, ?_⟩
  refine ⟨_, rfl, ?_⟩
  cases hb : isNum b 1 1000000 with
  | false =>
    refine ⟨fun z => (nomatch z), fun _ => ⟨fun _ => bad (fun n m t q => ?_) _ _, fun z => (nomatch z)⟩⟩
    rw [q.b] at hb
    have h1 := q.m0; have h2 := q.m1
    simp [isNum] at hb
    omega
  | true =>
  obtain ⟨many, rfl⟩ : ∃ n, b = .int n := by cases b <;> simp [isNum] at hb; exact ⟨_, rfl⟩
  have hb : 1 ≤ many ∧ many ≤ 1000000 := by simpa [isNum] using hb
  refine ⟨fun _ => ?_, fun z => (nomatch z)⟩
  refine dt_not (dt_truth (de_call hE ?_))
  wtm_at "E"
  refine ⟨c, _, _, rfl, hX.dc, ?_⟩
  refine ⟨_, rfl, ?_⟩
  cases hcc : isNum c 1 9 with
  | false =>
    refine ⟨fun _ => bad (fun n m t q => ?_) _ _, fun z => (nomatch z)⟩
    rw [q.c] at hcc
    have h1 := q.t0; have h2 := q.t1
    simp [isNum] at hcc
    omega
  | true =>
  obtain ⟨most, rfl⟩ : ∃ n, c = .int n := by cases c <;> simp [isNum] at hcc; exact ⟨_, rfl⟩
  have hcc : 1 ≤ most ∧ most ≤ 9 := by simpa [isNum] using hcc
  refine ⟨fun z => (nomatch z), fun _ => ?_⟩
  have h := hyes name many most ⟨rfl, rfl, rfl, hn, hb.1, hb.2, hcc.1, hcc.2⟩
  have hcl : MuCl (μ.set k (.ins C (yeF name many most))) (μ.set k (.ins C (yeF name many most))).length := by
    rw [List.length_set]
    exact hm.set (by simp [MO.cl, yeF, clF, D.cl])
  wtm_at "A"
  refine pp_own hk k1 k2 (of_decide_eq_true (by rfl)) ?_
  wtm_at "A"
  refine pp_own (hset _) k1 k3 (of_decide_eq_true (by rfl)) ?_
  rw [set_set']
  wtm_at "A"
  refine pp_own (hset _) k1 k4 (of_decide_eq_true (by rfl)) ?_
  rw [set_set']
  exact ret_same0 (by rw [List.length_set]; exact Nat.le_refl _) hcl rfl h
theorem d_Going_init (kr : KRw K) : ∀ ds μ P PX, c_Going_init K ds μ P PX → MuCl μ μ.length → clL ds μ.length = true → ∀ B E, XAg K B (RetX μ.length PX) E → DS K B (t_Going_init K E) (startD ["self", "name", "many", "most", "begin"] ds) μ (fnE μ.length P) := by
  intro ds μ P PX h hm hc B E hE
  obtain ⟨k, a, b, c, e, rfl, hk, hX, he, hyes, hno⟩ := h
  have k1 := kr.cg; have k2 := kr.g4
  have hset : ∀ z, (μ.set k z)[k]? = some z := fun z => set_get hk
  show DS K B _ [some (.own k), some a, some b, some c, some e] μ _
  unfold t_Going_init
  refine q_drop (de_call hE ?_)
  wtm_at "E"
  refine ⟨k, _, a, b, c, rfl, .inl rfl, hk, hX, fun name many most q => ?_, fun hn => retx_same0 hm rfl (hno (fun n m t b q _ _ _ => hn n m t q) μ (.inl rfl))⟩
  have hl : (μ.set k (.ins (cGo K) (yeF name many most))).length = μ.length := List.length_set
  have hcl : ∀ gs, clF gs μ.length = true → MuCl (μ.set k (.ins (cGo K) gs)) (μ.set k (.ins (cGo K) gs)).length := fun gs hg => by
    rw [List.length_set]
    exact hm.set (show clF gs μ.length = true from hg)
  have hy : clF (yeF name many most) μ.length = true := by simp [yeF, clF, D.cl]
  have eb := q.b
  subst eb
  refine q_when (dt_not (dt_truth (de_call hE ?_)))
  wtm_at "E"
  refine ⟨e, _, _, rfl, he, ?_⟩
  refine ⟨_, rfl, ?_⟩
  cases hb : isNum e 0 (many - 1) with
  | false =>
    refine ⟨fun _ => ds_raise0 hE ?_, fun z => (nomatch z)⟩
    refine ⟨μ.set k (.ins (cGo K) (yeF name many most)), [], by simp, hl, ?_, rfl, hno (fun n m t b q' e' h0 h1 => ?_) _ (.inr ⟨_, hy, rfl⟩)⟩
    · have := hcl _ hy
      rw [hl] at this
      exact this
    · rw [e'] at hb
      have := q'.b
      injection this with this
      simp [isNum] at hb
      omega
  | true =>
  obtain ⟨begin, rfl⟩ : ∃ n, e = .int n := by cases e <;> simp [isNum] at hb; exact ⟨_, rfl⟩
  have hb : 0 ≤ begin ∧ begin ≤ many - 1 := by simpa [isNum] using hb
  refine ⟨fun z => (nomatch z), fun _ => ?_⟩
  wtm_at "A"
  refine pp_own (hset _) k1 k2 (of_decide_eq_true (by rfl)) ?_
  rw [set_set']
  refine ret_same0 (by rw [List.length_set]; exact Nat.le_refl _) (hcl _ (show clF (goF name many most begin) μ.length = true by simp [goF, clF, D.cl])) rfl (hyes name many most begin q rfl hb.1 (by omega))
theorem d_Yearly_init (kr : KRw K) : ∀ ds μ P PX, c_Yearly_init K ds μ P PX → MuCl μ μ.length → clL ds μ.length = true → ∀ B E, XAg K B (RetX μ.length PX) E → DS K B (t_Yearly_init K E) (startD ["self", "name", "many", "most"] ds) μ (fnE μ.length P) := by
  intro ds μ P PX h hm hc B E hE
  obtain ⟨k, a, b, c, rfl, hk, hX, hyes, hno⟩ := h
  show DS K B _ [some (.own k), some a, some b, some c] μ _
  unfold t_Yearly_init
  refine ds_drop (de_call hE ?_)
  wtm_at "E"
  refine ⟨k, _, a, b, c, rfl, .inr rfl, hk, hX, fun name many most q => ?_, fun hn => retx_same0 hm rfl (hno hn)⟩
  refine ret_same0 (by rw [List.length_set]; exact Nat.le_refl _) ?_ rfl (hyes _ _ _ q)
  rw [List.length_set]
  exact hm.set (by simp [MO.cl, yeF, clF, D.cl])
end
section
variable {K : PySem.W.Frag} {B : Bs} {E : XK} {PX : PXT} {ts : TA} {ρ : En} {μ : Mu} {P : D → Mu → Prop}
theorem de_yearly (hE : XAg K B PX E) (h : DA K B ts ρ μ fun ds μ1 => ∃ (r : RwT), ds = [.str r.name, .int r.many, .int r.most] ∧ r.going = false ∧ GRw r ∧ P (rowD K r) μ1) : DE K B (tMake (He.ga K "Yearly") (spD K (c_Yearly_init K)) [] E ts) ρ μ P := by
  refine de_make hE da_nd ?_
  refine da_imp h fun ds μ1 p1 => ?_
  obtain ⟨r, rfl, hg, hr, p⟩ := p1
  refine ⟨_, _, _, _, rfl, mu_last, .ok hr.name, fun name many most q => ?_, fun hn => absurd (.of hr) (hn _ _ _)⟩
  obtain ⟨q1, q2, q3, _, _, _, _, _⟩ := q
  cases q1; cases q2; cases q3
  refine ⟨rfl, yeF r.name r.many r.most, set_last, by simp [yeF, clF, D.cl], ?_⟩
  rw [rowD_ye hg] at p
  exact p
theorem rowD_cl (K : PySem.W.Frag) (r : RwT) (n : Nat) : (rowD K r).cl n = true := by
  cases hg : r.going with
  | true => rw [rowD_go hg]; simp [D.cl, goF, clF]
  | false => rw [rowD_ye hg]; simp [D.cl, yeF, clF]
end
/-! ### what the days of a year are for a row -/
structure SpT where
  a : Int
  b : Int
  w : Srt
  t : Str
abbrev SgT := SpT
/-- stretches side by side from a to b, on each of which all days are as it tells -/
def Chain (S : Int → Srt × Str) : Int → List SgT → Int → Prop
  | a, [], b => a = b
  | a, g :: r, b => g.a = a ∧ g.a < g.b ∧ (∀ x, g.a ≤ x → x < g.b → S x = (g.w, g.t)) ∧ Chain S g.b r b
theorem Chain.le {S : Int → Srt × Str} : ∀ {gs : List SgT} {a b : Int}, Chain S a gs b → a ≤ b
  | [], _, _, h => by have : _ = _ := h; omega
  | g :: r, a, b, ⟨h1, h2, h3, h4⟩ => by have := h4.le; omega
/-! ### the one list of numbers in order -/
/-! ### contracts -/
/-! ### draws from a dict -/
structure DwS where
  great : List Int
  cells : List Int
  rest : Int
  turn : Int
  more : Int
structure GDw (s : DwS) : Prop where
  great : ∀ x ∈ s.great, 0 ≤ x
  rest : 0 ≤ s.rest
  m0 : 0 ≤ s.more
  m1 : s.more < 2147483647
def dwF (g : Nat) (s : DwS) : List (Key × D) := [(.inr "great", .own g), (.inr "cells", .lst (s.cells.map D.int)), (.inr "rest", .int s.rest), (.inr "turn", .int s.turn), (.inr "more", .int s.more)]
structure Dw (k g : Nat) (s : DwS) (μ : Mu) : Prop where
  a : μ[k]? = some (.dK (dwF g s))
  b : μ[g]? = some (.lst (s.great.map D.int))
  ne : k ≠ g
  ok : GDw s
def dw (μ : Mu) (k g : Nat) (s : DwS) : Mu := (μ.set k (.dK (dwF g s))).set g (.lst (s.great.map D.int))
theorem dw_len (μ : Mu) (k g : Nat) (s : DwS) : (dw μ k g s).length = μ.length := by simp [dw]
theorem dw_dw {μ : Mu} {k g : Nat} {s s' : DwS} (h : k ≠ g) : dw (dw μ k g s) k g s' = dw μ k g s' := by
  unfold dw
  rw [List.set_comm _ _ h, List.set_set, List.set_comm _ _ h.symm, List.set_set]
theorem Dw.dw {μ : Mu} {k g : Nat} {s s' : DwS} (h : Dw k g s μ) (h' : GDw s') : Dw k g s' (Dl.dw μ k g s') := by
  have h1 := (List.getElem?_eq_some_iff.mp h.a).1
  have h2 := (List.getElem?_eq_some_iff.mp h.b).1
  refine ⟨?_, ?_, h.ne, h'⟩
  · unfold Dl.dw
    rw [List.getElem?_set_ne h.ne.symm, List.getElem?_set_self h1]
  · unfold Dl.dw
    rw [List.getElem?_set_self (by simpa using h2)]
theorem Dw.app {μ ext : Mu} {k g : Nat} {s : DwS} (h : Dw k g s μ) : Dw k g s (μ ++ ext) := ⟨mu_old h.a, mu_old h.b, h.ne, h.ok⟩
theorem dw_app {μ ext : Mu} {k g : Nat} {s s' : DwS} (h : Dw k g s μ) : dw (μ ++ ext) k g s' = dw μ k g s' ++ ext := by
  unfold dw
  rw [set_old h.a, set_old (o := .lst (s.great.map D.int)) (by rw [List.getElem?_set_ne h.ne]; exact h.b)]
theorem dw_same {μ : Mu} {k g : Nat} {s : DwS} (h : Dw k g s μ) : dw μ k g s = μ := by
  unfold dw
  rw [show μ.set k (.dK (dwF g s)) = μ from set_id h.a, show μ.set g (.lst (s.great.map D.int)) = μ from set_id h.b]
theorem Dw.set {μ : Mu} {k g j : Nat} {s : DwS} {o : MO} (h : Dw k g s μ) (h1 : k ≠ j) (h2 : g ≠ j) : Dw k g s (μ.set j o) := ⟨by rw [List.getElem?_set_ne h1.symm]; exact h.a, by rw [List.getElem?_set_ne h2.symm]; exact h.b, h.ne, h.ok⟩
theorem Dw.cl {μ : Mu} {k g : Nat} {s s' : DwS} (h : Dw k g s μ) (hm : MuCl μ μ.length) : MuCl (Dl.dw μ k g s') (Dl.dw μ k g s').length := by
  have h2 := (List.getElem?_eq_some_iff.mp h.b).1
  rw [dw_len]
  unfold Dl.dw
  refine (hm.set ?_).set ?_
  · simp only [MO.cl, dwF, clK, D.cl, cl_ints, Bool.and_true, Bool.and_self, decide_eq_true_eq]
    exact h2
  · simp only [MO.cl]
    exact cl_ints _ _
theorem log2T {m : Int} (h0 : 0 < m) (h : m < 2 ^ 260) : m.natAbs.log2 < 9000 := by
  have h1 : m.natAbs < 2 ^ 260 := by omega
  have : m.natAbs.log2 < 260 := (Nat.log2_lt (by omega)).mpr h1
  omega
def c_law_begun (K : PySem.W.Frag) : CT := fun ds μ P PX => ∃ ns : List Int, ds = [.rdl (ns.map D.int)] ∧ ns.length ≤ 63 ∧ ∀ s, GDw s → P (.own μ.length) (μ ++ [.dK (dwF (μ.length + 1) s), .lst (s.great.map D.int)])
def c_law_take (K : PySem.W.Frag) : CT := fun ds μ P PX => ∃ (k g : Nat) (s : DwS) (m : Int), ds = [.own k, .int m] ∧ Dw k g s μ ∧ 0 < m ∧ m < 2 ^ 260 ∧ ∀ r s', 0 ≤ r → r < m → GDw s' → P (.int r) (dw μ k g s')
inductive Pk : D → List D → Prop
  | lst (ds : List D) : Pk (.lst ds) ds
  | str (z : Str) : Pk (.str z) (signsD z)
def c_law_pick (K : PySem.W.Frag) : CT := fun ds μ P PX => ∃ (k g : Nat) (s : DwS) (x : D) (xs : List D), ds = [.own k, x] ∧ Dw k g s μ ∧ Pk x xs ∧ 0 < xs.length ∧ xs.length ≤ 100000 ∧ ∀ (i : Nat) d s', xs[i]? = some d → GDw s' → P d (dw μ k g s')
def t_law_begun (K : PySem.W.Frag) (E : XK) : TS :=
    (tSeq (tAsg (tLc (iAny K (tVar 0)) (gName 2) tYes (tCB rAbs (tCons (tVar 2) tNil)) [2]) (gName 1))
      (tRet (tDisp [((tC (.str "great")), (tLc (iAny K (tVar 1)) (gName 2) (tTest (tOp (rI0 fun i j => .bl (decide (j ≤ i))) (tVar 2) (tOp (rI CPow fun i j => .int (i ^ j.toNat)) (tC (.int 10)) (tC (.int 18))))) (tVar 2) [2])), ((tC (.str "cells")), (tVar 1)), ((tC (.str "rest")), (tC (.int 0))), ((tC (.str "turn")), (tC (.int 0))), ((tC (.str "more")), (tC (.int 7)))])))
def t_law_take (K : PySem.W.Frag) (E : XK) : TS :=
    (tSeq (tWhile (tAnd (tTest (tOp (rEqD K) (tDGet (tVar 0) (tC (.str "rest"))) (tC (.int 0)))) (tTest (tOp (rNeD K) (tDGet (tVar 0) (tC (.str "great"))) (tLst tNil)))) (sDPut (tVar 0) (tC (.str "rest")) (tBM K "list" rPopAt (tDGet (tVar 0) (tC (.str "great"))) (tCons (tC (.int 0)) tNil))))
      (tSeq (tIfS (tTest (tOp (rI0 fun i j => .bl (decide (j < i))) (tDGet (tVar 0) (tC (.str "rest"))) (tC (.int 0)))) (tSeq (tAsg (tOp rModA (tDGet (tVar 0) (tC (.str "rest"))) (tVar 1)) (gName 2))
      (tSeq (sDPut (tVar 0) (tC (.str "rest")) (tOp rFdivA (tDGet (tVar 0) (tC (.str "rest"))) (tVar 1)))
      (tRet (tVar 2)))) tNext)
      (tSeq (tAsg (tC (.int 0)) (gName 3))
      (tSeq (tIfS (tTest (tOp (rNeD K) (tDGet (tVar 0) (tC (.str "cells"))) (tLst tNil))) (tAsg (tOp (rIx K) (tDGet (tVar 0) (tC (.str "cells"))) (tOp rModA (tDGet (tVar 0) (tC (.str "turn"))) (tCB (rLen K) (tCons (tDGet (tVar 0) (tC (.str "cells"))) tNil)))) (gName 3)) tNext)
      (tSeq (sDPut (tVar 0) (tC (.str "turn")) (tOp (rAddA K) (tDGet (tVar 0) (tC (.str "turn"))) (tC (.int 1))))
      (tSeq (sDPut (tVar 0) (tC (.str "more")) (tOp rModA (tOp (rAddA K) (tOp (rAddA K) (tOp rMulA (tDGet (tVar 0) (tC (.str "more"))) (tC (.int 48271))) (tVar 3)) (tOp rMulA (tC (.int 7919)) (tDGet (tVar 0) (tC (.str "turn"))))) (tC (.int 2147483647))))
      (tSeq (tAsg (tOp rModA (tOp (rAddA K) (tOp (rAddA K) (tOp rMulA (tDGet (tVar 0) (tC (.str "more"))) (tDGet (tVar 0) (tC (.str "more")))) (tOp rMulA (tC (.int 16807)) (tDGet (tVar 0) (tC (.str "more"))))) (tC (.int 11))) (tC (.int 2147483629))) (gName 4))
      (tRet (tOp rModA (tOp rFdivA (tOp rModA (tOp rMulA (tVar 4) (tVar 4)) (tC (.int 2147483587))) (tC (.int 7))) (tVar 1))))))))))
def t_law_pick (K : PySem.W.Frag) (E : XK) : TS :=
    (tRet (tOp (rIx K) (tVar 1) (tCall (spD K (c_law_take K)) [] E (tCons (tVar 0) (tCons (tCB (rLen K) (tCons (tVar 1) tNil)) tNil)))))
section
variable {μ : Mu} {k g : Nat} {gr c : List Int} {r t m : Int} {F : D → Prop}
theorem dgw_rest (h : μ[k]? = some (.dK (dwF g ⟨gr, c, r, t, m⟩))) (f : F (.int r)) : DGetP μ (.own k) (.str "rest") F := dgp_s (.own h) rfl f
theorem dgw_turn (h : μ[k]? = some (.dK (dwF g ⟨gr, c, r, t, m⟩))) (f : F (.int t)) : DGetP μ (.own k) (.str "turn") F := dgp_s (.own h) rfl f
theorem dgw_more (h : μ[k]? = some (.dK (dwF g ⟨gr, c, r, t, m⟩))) (f : F (.int m)) : DGetP μ (.own k) (.str "more") F := dgp_s (.own h) rfl f
theorem dgw_cells (h : μ[k]? = some (.dK (dwF g ⟨gr, c, r, t, m⟩))) (f : F (.lst (c.map D.int))) : DGetP μ (.own k) (.str "cells") F := dgp_s (.own h) rfl f
theorem dgw_great (h : μ[k]? = some (.dK (dwF g ⟨gr, c, r, t, m⟩))) (f : F (.own g)) : DGetP μ (.own k) (.str "great") F := dgp_s (.own h) rfl f
end
local macro_rules | `(tactic| wtm_at "g6") => `(tactic| first | refine dgw_rest (by assumption) ?_ | refine dgw_turn (by assumption) ?_ | refine dgw_more (by assumption) ?_ | refine dgw_cells (by assumption) ?_ | refine dgw_great (by assumption) ?_)
section
variable {K : PySem.W.Frag}
theorem dw_put {μ : Mu} {k g : Nat} {s s' : DwS} (h : k ≠ g) (e : s.great = s'.great) : (dw μ k g s).set k (.dK (dwF g s')) = dw μ k g s' := by
  unfold dw
  rw [List.set_comm _ _ h.symm, List.set_set, e]
theorem dwPut {μ : Mu} {k g : Nat} {great cells : List Int} {rest turn more rest' turn' more' : Int} (h : k ≠ g) : (dw μ k g ⟨great, cells, rest, turn, more⟩).set k (.dK (dwF g ⟨great, cells, rest', turn', more'⟩)) = dw μ k g ⟨great, cells, rest', turn', more'⟩ := dw_put h rfl
theorem d_law_take : ∀ ds μ P PX, c_law_take K ds μ P PX → MuCl μ μ.length → clL ds μ.length = true → ∀ B E, XAg K B (RetX μ.length PX) E → DS K B (t_law_take K E) (startD ["_law_draw", "_law_many", "_law_found", "_law_cell", "_law_mixed"] ds) μ (fnE μ.length P) := by
  intro ds μ P PX h hm hc B E hE
  obtain ⟨k, g, s, m, rfl, hd, hm0, hm1, h⟩ := h
  show DS K B _ [some (.own k), some (.int m), none, none, none] μ _
  unfold t_law_take
  have hret : ∀ r s', 0 ≤ r → r < m → GDw s' → Ret μ.length P (.int r) (dw μ k g s') := fun r s' h0 h1 h2 => ret_same0 (by rw [dw_len]; exact Nat.le_refl _) (hd.cl hm) rfl (h r s' h0 h1 h2)
  refine q_while (fun m' ρ μ' => ∃ s' : DwS, ρ = [some (.own k), some (.int m), none, none, none] ∧ μ' = dw μ k g s' ∧ GDw s' ∧ m' = s'.great.length) (m0 := s.great.length) ⟨s, rfl, (dw_same hd).symm, hd.ok, rfl⟩ ?_
  rintro m' ρ μ' ⟨s1, rfl, rfl, hg1, rfl⟩
  have hd1 := hd.dw hg1
  obtain ⟨great, cells, rest, turn, more⟩ := s1
  have hr0 := hg1.rest; have hmo0 := hg1.m0; have hmo1 := hg1.m1
  simp only at hr0 hmo0 hmo1
  have ha := hd1.a
  have hb' := hd1.b
  have tail : DS K B (tSeq (tIfS (tTest (tOp (rI0 fun i j => .bl (decide (j < i))) (tDGet (tVar 0) (tC (.str "rest"))) (tC (.int 0)))) (tSeq (tAsg (tOp rModA (tDGet (tVar 0) (tC (.str "rest"))) (tVar 1)) (gName 2))
      (tSeq (sDPut (tVar 0) (tC (.str "rest")) (tOp rFdivA (tDGet (tVar 0) (tC (.str "rest"))) (tVar 1)))
      (tRet (tVar 2)))) tNext)
      (tSeq (tAsg (tC (.int 0)) (gName 3))
      (tSeq (tIfS (tTest (tOp (rNeD K) (tDGet (tVar 0) (tC (.str "cells"))) (tLst tNil))) (tAsg (tOp (rIx K) (tDGet (tVar 0) (tC (.str "cells"))) (tOp rModA (tDGet (tVar 0) (tC (.str "turn"))) (tCB (rLen K) (tCons (tDGet (tVar 0) (tC (.str "cells"))) tNil)))) (gName 3)) tNext)
      (tSeq (sDPut (tVar 0) (tC (.str "turn")) (tOp (rAddA K) (tDGet (tVar 0) (tC (.str "turn"))) (tC (.int 1))))
      (tSeq (sDPut (tVar 0) (tC (.str "more")) (tOp rModA (tOp (rAddA K) (tOp (rAddA K) (tOp rMulA (tDGet (tVar 0) (tC (.str "more"))) (tC (.int 48271))) (tVar 3)) (tOp rMulA (tC (.int 7919)) (tDGet (tVar 0) (tC (.str "turn"))))) (tC (.int 2147483647))))
      (tSeq (tAsg (tOp rModA (tOp (rAddA K) (tOp (rAddA K) (tOp rMulA (tDGet (tVar 0) (tC (.str "more"))) (tDGet (tVar 0) (tC (.str "more")))) (tOp rMulA (tC (.int 16807)) (tDGet (tVar 0) (tC (.str "more"))))) (tC (.int 11))) (tC (.int 2147483629))) (gName 4))
      (tRet (tOp rModA (tOp rFdivA (tOp rModA (tOp rMulA (tVar 4) (tVar 4)) (tC (.int 2147483587))) (tC (.int 7))) (tVar 1))))))))) [some (.own k), some (.int m), none, none, none] (dw μ k g ⟨great, cells, rest, turn, more⟩) (fnE μ.length P) := by
    refine q_when ?_
    wtm_at "E"
    · rename_i hb
      refine q_set ?_
      wtm_at "E"
      refine q_dput ?_
      wtm_at "A"
      refine ro_fdiv (by omega) (log2T (by omega) (by omega)) ?_
      wtm_at "A"
      refine dpp_s ha (by show 5 < 100000; decide) ?_
      rw [show putKD (dwF g ⟨great, cells, rest, turn, more⟩) (.inr "rest") (.int (rest / m)) = dwF g ⟨great, cells, rest / m, turn, more⟩ from rfl, dwPut hd.ne]
      wtm_at "A"
      exact hret _ _ (Int.emod_nonneg _ (by omega)) (Int.emod_lt_of_pos _ hm0) ⟨hg1.great, Int.ediv_nonneg hr0 (by omega), hmo0, hmo1⟩
    · rename_i hb
      refine q_set ?_
      refine de_int ?_
      refine ds_cut (M := fun ρ μ' => ∃ cell : Int, ρ = [some (.own k), some (.int m), none, some (.int cell), none] ∧ μ' = dw μ k g ⟨great, cells, rest, turn, more⟩) ?_ ?_
      · show DS K B _ [some (.own k), some (.int m), none, some (.int 0), none] _ _
        refine s_when ?_
        wtm_at "E"
        refine de_lstZ ?_
        wtm_at "E"
        refine ro_neNil (n := 1) (.id _) (shpInts cells) ?_
        wtm_at "E"
        · rename_i hne
          refine ds_set ?_
          wtm_at "E"
          have hl : 0 < cells.length := by
            cases cells with
            | nil => simp at hne
            | cons a r => simp
          rw [List.length_map]
          wtm_at "A"
          have h0 := Int.emod_nonneg turn (b := (cells.length : Int)) (by omega)
          have h1 := Int.emod_lt_of_pos turn (b := (cells.length : Int)) (by omega)
          have hget : cells[(turn % cells.length).toNat]? = some (cells[(turn % cells.length).toNat]'(by omega)) := List.getElem?_eq_getElem _
          refine ro_ixL (.lst _) (at_map (i := turn % cells.length) (j := (turn % cells.length).toNat) (by omega) hget) ?_
          exact ⟨_, rfl, rfl⟩
        · rfl
      · rintro ρ μ' ⟨cell, rfl, rfl⟩
        refine q_dput ?_
        wtm_at "A"
        refine dpp_s ha (by show 5 < 100000; decide) ?_
        rw [show putKD (dwF g ⟨great, cells, rest, turn, more⟩) (.inr "turn") (.int (turn + 1)) = dwF g ⟨great, cells, rest, turn + 1, more⟩ from rfl, dwPut hd.ne]
        have hd2 := hd.dw (s' := ⟨great, cells, rest, turn + 1, more⟩) ⟨hg1.great, hr0, hmo0, hmo1⟩
        have ha2 := hd2.a
        refine q_dput ?_
        wtm_at "A"
        refine dpp_s ha2 (by show 5 < 100000; decide) ?_
        rw [show ∀ v, putKD (dwF g ⟨great, cells, rest, turn + 1, more⟩) (.inr "more") (.int v) = dwF g ⟨great, cells, rest, turn + 1, v⟩ from fun v => rfl, dwPut hd.ne]
        have hq0 := Int.emod_nonneg (more * 48271 + cell + 7919 * (turn + 1)) (b := 2147483647) (by decide)
        have hq1 := Int.emod_lt_of_pos (more * 48271 + cell + 7919 * (turn + 1)) (b := 2147483647) (by decide)
        generalize (more * 48271 + cell + 7919 * (turn + 1)) % 2147483647 = more' at hq0 hq1 ⊢
        have hg3 : GDw ⟨great, cells, rest, turn + 1, more'⟩ := ⟨hg1.great, hr0, hq0, hq1⟩
        have hd3 := hd.dw hg3
        have ha3 := hd3.a
        wtm_at "A"
        have hx0 := Int.emod_nonneg (more' * more' + 16807 * more' + 11) (b := 2147483629) (by decide)
        have hx1 := Int.emod_lt_of_pos (more' * more' + 16807 * more' + 11) (b := 2147483629) (by decide)
        generalize (more' * more' + 16807 * more' + 11) % 2147483629 = mixed at hx0 hx1 ⊢
        wtm_at "A"
        refine ro_fdiv (j := 7) (by decide) (by decide) ?_
        wtm_at "A"
        exact hret _ _ (Int.emod_nonneg _ (by omega)) (Int.emod_lt_of_pos _ hm0) hg3
  wtm_at "E"
  · -- rest = 0
    rename_i hb
    refine de_lstZ ?_
    wtm_at "E"
    refine ro_neNil (n := 1) (.own hb') (shpInts great) ?_
    cases great with
    | nil =>
      wtm_at "E"
      exact tail
    | cons x great =>
      wtm_at "E"
      refine ds_dput ?_
      wtm_at "E"
      refine ⟨ty_list (.own hb'), ?_⟩
      wtm_at "E"
      refine rm_pop0 hb' ?_
      have hg2 : GDw ⟨great, cells, x, turn, more⟩ := ⟨fun y hy => hg1.great y (by simp [hy]), hg1.great x (by simp), hmo0, hmo1⟩
      have ha2 : ((dw μ k g ⟨x :: great, cells, rest, turn, more⟩).set g (.lst (great.map D.int)))[k]? = some (.dK (dwF g ⟨x :: great, cells, rest, turn, more⟩)) := by rw [List.getElem?_set_ne hd.ne.symm]; exact ha
      wtm_at "E"
      refine dpp_s ha2 (by show 5 < 100000; decide) ?_
      refine ⟨great.length, by simp, ⟨great, cells, x, turn, more⟩, rfl, ?_, hg2, rfl⟩
      rw [show putKD (dwF g ⟨x :: great, cells, rest, turn, more⟩) (.inr "rest") (.int x) = dwF g ⟨great, cells, x, turn, more⟩ from rfl]
      unfold dw
      rw [List.set_set, List.set_comm _ _ hd.ne.symm, List.set_set]
  · exact tail
theorem d_law_pick : ∀ ds μ P PX, c_law_pick K ds μ P PX → MuCl μ μ.length → clL ds μ.length = true → ∀ B E, XAg K B (RetX μ.length PX) E → DS K B (t_law_pick K E) (startD ["_law_draw", "_law_some"] ds) μ (fnE μ.length P) := by
  intro ds μ P PX h hm hc B E hE
  obtain ⟨k, g, s, x, xs, rfl, hd, hx, hl0, hl1, h⟩ := h
  show DS K B _ [some (.own k), some x] μ _
  unfold t_law_pick
  have hcx : x.cl μ.length = true := by
    simp only [clL, Bool.and_eq_true] at hc
    exact hc.2.1
  cases hx with
  | lst ds =>
    have hcd : ∀ d ∈ xs, d.cl μ.length = true := clL_iff.mp (by simpa only [D.cl] using hcx)
    wtm_at "A"
    refine ⟨k, g, s, _, rfl, hd, by omega, by omega, fun r s' h0 h1 hs' => ?_⟩
    have hget : xs[r.toNat]? = some (xs[r.toNat]'(by omega)) := List.getElem?_eq_getElem _
    refine ro_ixL (.lst _) (by rw [← show ((r.toNat : Nat) : Int) = r by omega]; exact atI_nat hget) ?_
    exact ret_same0 (by rw [dw_len]; exact Nat.le_refl _) (hd.cl hm) (by rw [dw_len]; exact hcd _ (List.getElem_mem _)) (h _ _ s' hget hs')
  | str z =>
    have hlz : (signsD z).length = z.length := by simp [signsD, Str.length]
    wtm_at "A"
    refine rc_lenS (by omega) ?_
    wtm_at "A"
    refine ⟨k, g, s, _, rfl, hd, by omega, by omega, fun r s' h0 h1 hs' => ?_⟩
    have hget : z.cps.toList[r.toNat]? = some (z.cps.toList[r.toNat]'(by rw [Array.length_toList]; unfold Str.length at h1 hlz; omega)) := List.getElem?_eq_getElem _
    refine ro_ixS (by omega) (by rw [← show ((r.toNat : Nat) : Int) = r by omega]; exact atI_nat hget) ?_
    exact ret_same0 (by rw [dw_len]; exact Nat.le_refl _) (hd.cl hm) rfl (h r.toNat _ s' (by unfold signsD; rw [List.getElem?_map, hget]; rfl) hs')
theorem dw0 {μ : Mu} {s : DwS} (hs : GDw s) : Dw μ.length (μ.length + 1) s (μ ++ [.dK (dwF (μ.length + 1) s), .lst (s.great.map D.int)]) := ⟨by simp, by simp, by omega, hs⟩
theorem d_law_begun : ∀ ds μ P PX, c_law_begun K ds μ P PX → MuCl μ μ.length → clL ds μ.length = true → ∀ B E, XAg K B (RetX μ.length PX) E → DS K B (t_law_begun K E) (startD ["_law_script", "_law_cells", "_law_cell"] ds) μ (fnE μ.length P) := by
  intro ds μ P PX h hm hc B E hE
  obtain ⟨ns, rfl, hl, h⟩ := h
  show DS K B _ [some (.rdl (ns.map D.int)), none, none] μ _
  unfold t_law_begun
  wtm_at "A"
  refine lc_map (fun z => match z with | .int f => .int (f.natAbs : Int) | _ => .non) (gw_name (by simp)) ?_
  wtm_at "A"
  refine ⟨_, _, .rdl _, trivial, by simp; omega, fun j z hz => ?_, fun out ho => ?_⟩
  · obtain ⟨x, hx, rfl⟩ := intsG hz
    refine dg_name ⟨rfl, ?_⟩
    wtm_at "A"
    exact ⟨rfl, rfl⟩
  have ho' : out = (ns.map fun x => (x.natAbs : Int)).map D.int := by rw [← ho, List.map_map, List.map_map]; rfl
  subst ho'
  generalize hcs : (ns.map fun x => (x.natAbs : Int)) = cs
  have hcl : cs.length ≤ 63 := by rw [← hcs]; simpa using hl
  have hc0 : ∀ x ∈ cs, 0 ≤ x := fun x hx => by
    rw [← hcs] at hx
    obtain ⟨y, _, rfl⟩ := List.mem_map.mp hx
    omega
  refine ds_ret ?_
  refine de_disp ?_
  refine de_str ?_
  refine lc_filtF (fun z => match z with | .int x => decide (10 ^ 18 ≤ x) | _ => false) id (gw_name (by simp)) ?_
  wtm_at "A"
  refine ⟨_, _, .lst _, trivial, by simp; omega, fun j z hz => ?_, fun out ho => ?_⟩
  · obtain ⟨x, hx, rfl⟩ := intsG hz
    refine dg_name ⟨rfl, ?_⟩
    wtm_at "A"
    refine ⟨rfl, rfl, fun _ => ?_⟩
    wtm_at "A"
    exact ⟨rfl, rfl⟩
  have ho' : out = (cs.filter fun x => decide (10 ^ 18 ≤ x)).map D.int := by
    rw [← ho, List.map_id, List.filter_map]; rfl
  subst ho'
  refine .inr ?_
  show DPs K B [_, _, _, _] _ _ _
  refine de_str ?_
  wtm_at "E"
  refine de_str (de_int (de_str (de_int (de_str (de_int ?_)))))
  refine ⟨[(.inr "great", .own (μ.length + 1)), (.inr "cells", .lst (cs.map D.int)), (.inr "rest", .int 0), (.inr "turn", .int 0), (.inr "more", .int 7)], by simp [keyD], by simp, by simp, ?_⟩
  have e : (μ ++ [MO.dK []] ++ [MO.lst ((cs.filter fun x => decide (10 ^ 18 ≤ x)).map D.int)]).set μ.length (.dK (mergeKD [] [(.inr "great", .own (μ.length + 1)), (.inr "cells", .lst (cs.map D.int)), (.inr "rest", .int 0), (.inr "turn", .int 0), (.inr "more", .int 7)])) = μ ++ [.dK (dwF (μ.length + 1) ⟨cs.filter fun x => decide (10 ^ 18 ≤ x), cs, 0, 0, 7⟩), .lst ((cs.filter fun x => decide (10 ^ 18 ≤ x)).map D.int)] := by
    rw [List.append_assoc, List.set_append_right _ _ (Nat.le_refl _), Nat.sub_self]
    rfl
  rw [e]
  refine ret_same0 (by simp) ?_ (by simp [D.cl]) (h _ ⟨fun x hx => hc0 x (List.mem_filter.mp hx).1, by simp, by simp, by simp⟩)
  have h1 := hm.mono (m := μ.length + 2) (by omega)
  intro o ho
  rw [List.length_append]
  rcases List.mem_append.mp ho with c | c
  · exact h1 o c
  · simp only [List.mem_cons, List.not_mem_nil, or_false] at c
    rcases c with rfl | rfl
    · simp [MO.cl, dwF, clK, D.cl, cl_ints]
    · simp only [MO.cl]; exact cl_ints _ _
end
local macro_rules | `(tactic| wtm_at "d7") => `(tactic| with_reducible (first | refine de_xfZ ?_ | refine np_exc ?_))
local macro_rules | `(tactic| wtm_at "g7") => `(tactic| first | refine xf_i (by assumption) (by simp) (by rfl) ?_ | refine ro_eqSS (by decide +kernel) ?_ | refine ro_neSS (by decide +kernel) ?_ | refine ro_eqSd (by decide +kernel) (by decide +kernel) (by decide +kernel) ?_ | refine ro_neSd (by decide +kernel) (by decide +kernel) (by decide +kernel) ?_)
local macro_rules | `(tactic| wtm_at "Q7") => `(tactic| wtm_at "g7")
local macro_rules | `(tactic| wtm_at "Q7") => `(tactic| wtm_at "d7")
local macro_rules | `(tactic| wtm_at "Q7") => `(tactic| wtm_at "Q")
local macro_rules | `(tactic| wtm_at "E") => `(tactic| repeat' first | wtm_at "Q7" | fail)
local macro_rules | `(tactic| wtm_at "QA7") => `(tactic| wtm_at "Q7")
local macro_rules | `(tactic| wtm_at "QA7") => `(tactic| wtm_at "Qs")
local macro_rules | `(tactic| wtm_at "A") => `(tactic| repeat' first | wtm_at "QA7" | fail)
/-! ### the marks of a refusal -/
def excWords : List Str := ["book", "calendar", "feast", "row", "house", "number", "day", "name", "piece", "tight", "never", "far", "deed", "text"]
def marksX (x : Str) : List D := excNames.map fun y => .bl (decide (x = y))
def c_law_marks (K : PySem.W.Frag) : CT := fun ds μ P PX => ∃ (x : Str) (gs : List (Str × D)), ds = [.exc (He.ga K x) gs] ∧ x ∈ excNames ∧ P (.lst (marksX x)) μ
def c_law_is_alone (K : PySem.W.Frag) : CT := fun ds μ P PX => ∃ (x w : Str) (gs : List (Str × D)) (j : Nat), ds = [.exc (He.ga K x) gs, .str w] ∧ x ∈ excNames ∧ excWords[j]? = some w ∧ P (.bl (decide (excNames[j]? = some x))) μ
def t_law_marks (K : PySem.W.Frag) (E : XK) : TS :=
    (tSeq (tAsg (tLst (tCons (tCB (rIsX K) (tCons (tVar 0) (tCons (tC (.ref (He.ga K "BadBook"))) tNil))) (tCons (tCB (rIsX K) (tCons (tVar 0) (tCons (tC (.ref (He.ga K "BadCalendar"))) tNil))) (tCons (tCB (rIsX K) (tCons (tVar 0) (tCons (tC (.ref (He.ga K "BadFeast"))) tNil))) (tCons (tCB (rIsX K) (tCons (tVar 0) (tCons (tC (.ref (He.ga K "BadRow"))) tNil))) tNil))))) (gName 1))
      (tSeq (tAsg (tOp (rAddA K) (tVar 1) (tLst (tCons (tCB (rIsX K) (tCons (tVar 0) (tCons (tC (.ref (He.ga K "BadHouse"))) tNil))) (tCons (tCB (rIsX K) (tCons (tVar 0) (tCons (tC (.ref (He.ga K "BadNumber"))) tNil))) (tCons (tCB (rIsX K) (tCons (tVar 0) (tCons (tC (.ref (He.ga K "NoDay"))) tNil))) (tCons (tCB (rIsX K) (tCons (tVar 0) (tCons (tC (.ref (He.ga K "NoRow"))) tNil))) tNil)))))) (gName 1))
      (tSeq (tAsg (tOp (rAddA K) (tVar 1) (tLst (tCons (tCB (rIsX K) (tCons (tVar 0) (tCons (tC (.ref (He.ga K "NoPiece"))) tNil))) (tCons (tCB (rIsX K) (tCons (tVar 0) (tCons (tC (.ref (He.ga K "TooTight"))) tNil))) (tCons (tCB (rIsX K) (tCons (tVar 0) (tCons (tC (.ref (He.ga K "NeverDone"))) tNil))) (tCons (tCB (rIsX K) (tCons (tVar 0) (tCons (tC (.ref (He.ga K "TooFar"))) tNil))) tNil)))))) (gName 1))
      (tRet (tOp (rAddA K) (tVar 1) (tLst (tCons (tCB (rIsX K) (tCons (tVar 0) (tCons (tC (.ref (He.ga K "NoDeed"))) tNil))) (tCons (tCB (rIsX K) (tCons (tVar 0) (tCons (tC (.ref (He.ga K "BadText"))) tNil))) tNil))))))))
def t_law_is_alone (K : PySem.W.Frag) (E : XK) : TS :=
    (tSeq (tAsg (tLst (tCons (tC (.str "book")) (tCons (tC (.str "calendar")) (tCons (tC (.str "feast")) (tCons (tC (.str "row")) (tCons (tC (.str "house")) (tCons (tC (.str "number")) (tCons (tC (.str "day")) (tCons (tC (.str "name")) (tCons (tC (.str "piece")) (tCons (tC (.str "tight")) (tCons (tC (.str "never")) (tCons (tC (.str "far")) tNil))))))))))))) (gName 2))
      (tSeq (tAsg (tBM K "list" (rIndexD K) (tOp (rAddA K) (tVar 2) (tLst (tCons (tC (.str "deed")) (tCons (tC (.str "text")) tNil)))) (tCons (tVar 1) tNil)) (gName 3))
      (tSeq (tAsg (tCall (spD K (c_law_marks K)) [] E (tCons (tVar 0) tNil)) (gName 4))
      (tRet (tAndV (tOp (rEqD K) (tBM K "list" (rCntD K) (tVar 4) (tCons (tC (.bl true)) tNil)) (tC (.int 1))) (tAndV (tOp (rIx K) (tVar 4) (tVar 3)) (tAndV (tCB (rIsX K) (tCons (tVar 0) (tCons (tC (.ref (He.ga K "ReadError"))) tNil))) (tCB (rIsX K) (tCons (tVar 0) (tCons (tC (.ty "ValueError")) tNil))))))))))
theorem marks_cl (x : Str) (n : Nat) : (D.lst (marksX x)).cl n = true := by
  unfold marksX excNames
  rfl
theorem marks_one {x : Str} (h : x ∈ excNames) : (marksX x).countP (fun z => eqvD z (.bl true)) = 1 := by
  simp only [excNames, List.mem_cons, List.not_mem_nil, or_false] at h
  rcases h with h | h | h | h | h | h | h | h | h | h | h | h | h | h <;> subst h <;> kernel_rfl
theorem atI_natM {α : Type} {xs : List α} {j : Nat} {x : α} (h : xs[j]? = some x) : atI xs (j : Int) = some x := by
  have hl := (List.getElem?_eq_some_iff.mp h).1
  have e : ixN xs.length (j : Int) = some j := by
    unfold ixN
    simp
    omega
  unfold atI
  rw [e]
  exact h
theorem words_nd : excWords.Nodup := by decide +kernel
theorem words_ok : ∀ w ∈ excWords, PyData.strOk w = true := by decide +kernel
section
variable {K : PySem.W.Frag}
set_option maxHeartbeats 1000000 in
theorem d_law_marks (kx : KExc K excNames) : ∀ ds μ P PX, c_law_marks K ds μ P PX → MuCl μ μ.length → clL ds μ.length = true → ∀ B E, XAg K B (RetX μ.length PX) E → DS K B (t_law_marks K E) (startD ["_law_e", "_law_marks_here"] ds) μ (fnE μ.length P) := by
  intro ds μ P PX h hm hc B E hE
  obtain ⟨x, gs, rfl, hx, h⟩ := h
  show DS K B _ [some (.exc (He.ga K x) gs), none] μ _
  unfold t_law_marks
  have is : ∀ {y : Str} {Q : D → Mu → Prop}, y ∈ excNames → Q (.bl (decide (x = y))) μ → RC K (rIsX K) [.exc (He.ga K x) gs, .loc (He.ga K y)] μ Q := fun hy q => rc_isX (kx.ec x hx) (.loc _) (kx.is x hx _ hy) q
  have L4 : ∀ {a b c d : Str} {ρ : En} {Q : D → Mu → Prop}, ρ[0]? = some (some (.exc (He.ga K x) gs)) → a ∈ excNames → b ∈ excNames → c ∈ excNames → d ∈ excNames → Q (.lst [.bl (decide (x = a)), .bl (decide (x = b)), .bl (decide (x = c)), .bl (decide (x = d))]) μ →
      DE K B (tLst (tCons (tCB (rIsX K) (tCons (tVar 0) (tCons (tC (.ref (He.ga K a))) tNil))) (tCons (tCB (rIsX K) (tCons (tVar 0) (tCons (tC (.ref (He.ga K b))) tNil))) (tCons (tCB (rIsX K) (tCons (tVar 0) (tCons (tC (.ref (He.ga K c))) tNil))) (tCons (tCB (rIsX K) (tCons (tVar 0) (tCons (tC (.ref (He.ga K d))) tNil))) tNil))))) ρ μ Q := by
    intro a b c d ρ Q hρ ha hb hc hd q
    refine de_lstZ ?_
    wtm_at "A"
    refine is ha ?_
    wtm_at "A"
    refine is hb ?_
    wtm_at "A"
    refine is hc ?_
    wtm_at "A"
    refine is hd ?_
    wtm_at "A"
    exact q
  have L2 : ∀ {a b : Str} {ρ : En} {Q : D → Mu → Prop}, ρ[0]? = some (some (.exc (He.ga K x) gs)) → a ∈ excNames → b ∈ excNames → Q (.lst [.bl (decide (x = a)), .bl (decide (x = b))]) μ →
      DE K B (tLst (tCons (tCB (rIsX K) (tCons (tVar 0) (tCons (tC (.ref (He.ga K a))) tNil))) (tCons (tCB (rIsX K) (tCons (tVar 0) (tCons (tC (.ref (He.ga K b))) tNil))) tNil))) ρ μ Q := by
    intro a b ρ Q hρ ha hb q
    refine de_lstZ ?_
    wtm_at "A"
    refine is ha ?_
    wtm_at "A"
    refine is hb ?_
    wtm_at "A"
    exact q
  wtm_at "A"
  refine L4 rfl (by simp [excNames]) (by simp [excNames]) (by simp [excNames]) (by simp [excNames]) ?_
  wtm_at "A"
  refine L4 rfl (by simp [excNames]) (by simp [excNames]) (by simp [excNames]) (by simp [excNames]) ?_
  wtm_at "A"
  refine ro_addL (.lst _) (.lst _) (by simp) ?_
  wtm_at "A"
  refine L4 rfl (by simp [excNames]) (by simp [excNames]) (by simp [excNames]) (by simp [excNames]) ?_
  wtm_at "A"
  refine ro_addL (.lst _) (.lst _) (by simp) ?_
  wtm_at "A"
  refine L2 rfl (by simp [excNames]) (by simp [excNames]) ?_
  wtm_at "A"
  refine ro_addL (.lst _) (.lst _) (by simp) ?_
  exact ret_same0 (Nat.le_refl _) hm (marks_cl x _) h
set_option maxHeartbeats 1000000 in
theorem d_law_is_alone (kx : KExc K excNames) : ∀ ds μ P PX, c_law_is_alone K ds μ P PX → MuCl μ μ.length → clL ds μ.length = true → ∀ B E, XAg K B (RetX μ.length PX) E → DS K B (t_law_is_alone K E) (startD ["_law_e", "_law_word", "_law_words", "_law_place_here", "_law_marks_here"] ds) μ (fnE μ.length P) := by
  intro ds μ P PX h hm hc B E hE
  obtain ⟨x, w, gs, j, rfl, hx, hj, h⟩ := h
  have hw := words_ok w (List.mem_of_getElem? hj)
  show DS K B _ [some (.exc (He.ga K x) gs), some (.str w), none, none, none] μ _
  unfold t_law_is_alone
  refine q_set (de_lstZ ?_)
  wtm_at "A"
  refine de_lstZ ?_
  wtm_at "E"
  refine ro_addL (.lst _) (.lst _) (by simp) ?_
  refine ⟨ty_list (.lst _), ?_⟩
  wtm_at "E"
  refine rm_indexD (n := 0) (m := 0) (j := j) (e0 := .str w) (ds := excWords.map D.str) (.id _) (.id _) ?_ hw (by rw [List.getElem?_map, hj]; rfl) (by simp) (fun i z hi hz => ?_) ?_
  · decide +kernel
  · rw [List.getElem?_map] at hz
    obtain ⟨u, hu, rfl⟩ := Option.map_eq_some_iff.mp hz
    rw [eqvD_str]
    refine decide_eq_false fun e => ?_
    subst e
    have hil := (List.getElem?_eq_some_iff.mp hu).1
    have hjl := (List.getElem?_eq_some_iff.mp hj).1
    have := (List.getElem_inj (h₀ := hil) (h₁ := hjl) words_nd).mp (by rw [(List.getElem?_eq_some_iff.mp hu).2, (List.getElem?_eq_some_iff.mp hj).2])
    omega
  refine q_set (de_call hE ?_)
  wtm_at "E"
  refine ⟨x, gs, rfl, hx, ?_⟩
  have hjl : j < excNames.length := (List.getElem?_eq_some_iff.mp hj).1
  have hmj : (marksX x)[j]? = some (.bl (decide (excNames[j]? = some x))) := by
    unfold marksX
    rw [List.getElem?_map, List.getElem?_eq_getElem hjl]
    simp only [Option.map_some, Option.some.injEq, D.bl.injEq, decide_eq_decide]
    exact eq_comm
  refine ds_ret (de_andV (de_op (de_bm ?_)))
  wtm_at "v"
  refine ⟨ty_list (.lst _), ?_⟩
  wtm_at "E"
  refine rm_countD (n := 0) (m := 0) (.id _) (.id _) (by unfold marksX excNames; rfl) rfl ?_
  rw [marks_one hx]
  wtm_at "E"
  refine ro_ixL (.lst _) (atI_natM hmj) ?_
  refine ⟨_, rfl, fun hb => ?_, fun hb => ?_⟩
  · wtm_at "E"
    refine rc_isX (kx.ec x hx) (.loc _) (kx.ge x hx) ?_
    wtm_at "E"
    refine rc_isX (kx.ec x hx) (.ty _) (kx.ve x hx) ?_
    rw [hb] at h
    exact ret_same0 (Nat.le_refl _) hm rfl h
  · rw [hb] at h
    exact ret_same0 (Nat.le_refl _) hm rfl h
end
/-! ### == of calendars -/
/-! ### rows of pieces known or refused -/
instance : DecidableEq RwT := fun a b =>
  if h : a.going = b.going ∧ a.name = b.name ∧ a.many = b.many ∧ a.most = b.most ∧ a.begin = b.begin then .isTrue (by
    obtain ⟨o, n, m, t, s⟩ := a
    obtain ⟨o', n', m', t', s'⟩ := b
    simp at h
    obtain ⟨rfl, rfl, rfl, rfl, rfl⟩ := h
    rfl)
  else .isFalse fun e => h (by subst e; exact ⟨rfl, rfl, rfl, rfl, rfl⟩)
def partsR (r : RwT) : List D := if r.going = true then [.str "going", .str r.name, .int r.many, .int r.most, .int r.begin] else [.str "yearly", .str r.name, .int r.many, .int r.most]
def c_Going_eq (K : PySem.W.Frag) : CT := fun ds μ P PX => ∃ (r : RwT) (y : D), ds = [rowD K r, y] ∧ r.going = true ∧ GRw r ∧ ((∃ q, y = rowD K q ∧ q.going = true ∧ GRw q ∧ P (.bl (eqvD (.tup (partsR r)) (.tup (partsR q)))) μ) ∨ ∃ t, TyDV K μ y t ∧ PySem.W.kitOne K t (.ref (cGo K)) = some false ∧ P (.bl false) μ)
def c_Yearly_eq (K : PySem.W.Frag) : CT := fun ds μ P PX => ∃ (r : RwT) (y : D), ds = [rowD K r, y] ∧ r.going = false ∧ GRw r ∧ ((∃ q, y = rowD K q ∧ q.going = false ∧ GRw q ∧ P (.bl (eqvD (.tup (partsR r)) (.tup (partsR q)))) μ) ∨ ∃ t, TyDV K μ y t ∧ PySem.W.kitOne K t (.ref (cYe K)) = some false ∧ P (.bl false) μ)
theorem parts_shp {r : RwT} (h : GRw r) : (D.tup (partsR r)).shp 1 = true := by
  have h1 := h.name.strOk
  have h2 : PyData.strOk ("going" : Str) = true := by decide +kernel
  have h3 : PyData.strOk ("yearly" : Str) = true := by decide +kernel
  unfold partsR
  split <;> simp [D.shp, shpL, h1, h2, h3]
theorem partsR_go {r : RwT} (hg : r.going = true) : partsR r = [.str "going", .str r.name, .int r.many, .int r.most, .int r.begin] := by unfold partsR; rw [if_pos hg]
theorem partsR_ye {r : RwT} (hg : r.going = false) : partsR r = [.str "yearly", .str r.name, .int r.many, .int r.most] := by unfold partsR; rw [if_neg (by rw [hg]; simp)]
def kindS (go : Bool) : Str := if go = true then "going" else "yearly"
theorem kindS_ok (go : Bool) : PyData.strOk (kindS go) = true := by cases go <;> decide +kernel
def rowTup (go : Bool) (a b c e : D) : D := .tup [.str (kindS go), a, b, c, e]
/-- these are the parts of the row r -/
structure rowIs (go : Bool) (a b c e : D) (r : RwT) : Prop where
  g : GRw r
  hgo : r.going = go
  ha : a = .str r.name
  hb : b = .int r.many
  hc : c = .int r.most
  he : go = true → e = .int r.begin
def c_law_worth (K : PySem.W.Frag) : CT := fun ds μ P PX => ∃ (k g : Nat) (s : DwS) (lo hi : Int), ds = [.own k, .int lo, .int hi] ∧ Dw k g s μ ∧ 0 ≤ lo ∧ lo ≤ hi ∧ hi ≤ 1000000 ∧ ∀ (d : D) s', d.dat = true → (∀ n, d.cl n = true) → (∀ s : Str, d = .str s → s.length ≤ 100 ∧ PyData.strOk s = true) → GDw s' → P d (dw μ k g s')
def c_law_title (K : PySem.W.Frag) : CT := fun ds μ P PX => ∃ (k g : Nat) (s : DwS), ds = [.own k] ∧ Dw k g s μ ∧ ∀ (d : D) s', d.dat = true → (∀ n, d.cl n = true) → (∀ s : Str, d = .str s → s.length ≤ 100 ∧ PyData.strOk s = true) → GDw s' → P d (dw μ k g s')
def c_law_is_number (K : PySem.W.Frag) : CT := fun ds μ P PX => ∃ (x : D) (lo hi : Int), ds = [x, .int lo, .int hi] ∧ x.dat = true ∧ P (.bl (isNum x lo hi)) μ
def c_law_is_title (K : PySem.W.Frag) : CT := fun ds μ P PX => ∃ x : D, ds = [x] ∧ x.dat = true ∧ (∀ s : Str, x = .str s → s.length ≤ 100 ∧ PyData.strOk s = true) ∧ P (.bl (isNameD x)) μ
structure RowY (a b c e : D) : Prop where
  x : RowX a b c
  l : ∀ s : Str, a = .str s → s.length ≤ 100 ∧ PyData.strOk s = true
  de : e.dat = true
def c_law_is_row (K : PySem.W.Frag) : CT := fun ds μ P PX => ∃ (go : Bool) (a b c e : D), ds = [rowTup go a b c e] ∧ RowY a b c e ∧ ((∃ r, rowIs go a b c e r) → P (.bl true) μ) ∧ ((¬ ∃ r, rowIs go a b c e r) → P (.bl false) μ)
def c_law_made (K : PySem.W.Frag) : CT := fun ds μ P PX => ∃ (go : Bool) (a b c e : D) (w : Int), ds = [rowTup go a b c e, .int w] ∧ RowY a b c e ∧ 0 ≤ w ∧ w < 3 ∧ (∀ r, rowIs go a b c e r → P (.tup [rowD K r, .non]) μ) ∧ ((¬ ∃ r, rowIs go a b c e r) → P (.tup [.non, .exc (He.ga K "BadRow") []]) μ)
def rowP (r : RwT) : D := rowTup r.going (.str r.name) (.int r.many) (.int r.most) (.int r.begin)
def c_law_others (K : PySem.W.Frag) : CT := fun ds μ P PX => ∃ (r : RwT) (e : D), ds = [rowTup r.going (.str r.name) (.int r.many) (.int r.most) e] ∧ GRw r ∧ (r.going = true → e = .int r.begin) ∧ ∀ qs : List RwT, qs.length ≤ 5 → (∀ q ∈ qs, GRw q ∧ q.going = r.going ∧ q ≠ r) → P (.lst (qs.map rowP)) μ
def c_law_is_told (K : PySem.W.Frag) : CT := fun ds μ P PX => ∃ (r : RwT) (e : D), ds = [rowD K r, rowTup r.going (.str r.name) (.int r.many) (.int r.most) e] ∧ GRw r ∧ e.dat = true ∧ (r.going = true → e = .int r.begin) ∧ P (.bl true) μ
theorem rowIs.uniq {go : Bool} {a b c e : D} {r q : RwT} (h : rowIs go a b c e r) (k : rowIs go a b c e q) : r = q := by
  obtain ⟨o, n, m, t, s⟩ := r
  obtain ⟨o', n', m', t', s'⟩ := q
  have e0 := h.hgo.trans k.hgo.symm
  have e1 := h.ha.symm.trans k.ha
  have e2 := h.hb.symm.trans k.hb
  have e3 := h.hc.symm.trans k.hc
  simp at e0 e1 e2 e3
  subst e0 e1 e2 e3
  have eg := h.hgo
  simp at eg
  subst eg
  cases o with
  | true =>
    have e4 := (h.he rfl).symm.trans (k.he rfl)
    simp at e4
    rw [e4]
  | false =>
    have e4 := h.g.yb rfl
    have e5 := k.g.yb rfl
    simp at e4 e5
    rw [e4, e5]
theorem parts_eqv {r q : RwT} (hr : GRw r) (hq : GRw q) (hg : q.going = r.going) : eqvD (.tup (partsR r)) (.tup (partsR q)) = decide (r = q) := by
  obtain ⟨o, n, m, t, s⟩ := r
  obtain ⟨o', n', m', t', s'⟩ := q
  simp at hg
  subst hg
  cases o' with
  | true =>
    rw [Bool.eq_iff_iff]
    simp [partsR, eqvD_str]
  | false =>
    have e4 := hr.yb rfl
    have e5 := hq.yb rfl
    simp at e4 e5
    subst e4 e5
    rw [Bool.eq_iff_iff]
    simp [partsR, eqvD_str]
def t_Going_eq (K : PySem.W.Frag) (E : XK) : TS :=
    (tRet (tAndV (tCB (rIsi K) (tCons (tVar 1) (tCons (tC (.ref (He.ga K "Going"))) tNil))) (tOp (rEqD K) (tMeth (He.ga K "Going") "told" (spD K (c_Going_told K)) [] E (tVar 0) tNil) (tMeth (He.ga K "Going") "told" (spD K (c_Going_told K)) [] E (tVar 1) tNil))))
def t_Yearly_eq (K : PySem.W.Frag) (E : XK) : TS :=
    (tRet (tAndV (tCB (rIsi K) (tCons (tVar 1) (tCons (tC (.ref (He.ga K "Yearly"))) tNil))) (tOp (rEqD K) (tMeth (He.ga K "Yearly") "told" (spD K (c_Yearly_told K)) [] E (tVar 0) tNil) (tMeth (He.ga K "Yearly") "told" (spD K (c_Yearly_told K)) [] E (tVar 1) tNil))))
def t_law_worth (K : PySem.W.Frag) (E : XK) : TS :=
    (tSeq (tAsg (tCall (spD K (c_law_take K)) [] E (tCons (tVar 0) (tCons (tC (.int 12)) tNil))) (gName 3))
      (tSeq (tIfS (tTest (tOp (rEqD K) (tVar 3) (tC (.int 0)))) (tRet (tCall (spD K (c_law_pick K)) [] E (tCons (tVar 0) (tCons (tLst (tCons (tC (.bl true)) (tCons (tC (.bl false)) (tCons (tC .non) (tCons (tC (.str "3")) (tCons (tLst (tCons (tC (.int 1)) tNil)) (tCons (tTup (tCons (tC (.int 1)) tNil)) tNil))))))) tNil)))) tNext)
      (tSeq (tIfS (tTest (tOp (rI0 fun i j => .bl (decide (i < j))) (tVar 3) (tC (.int 3)))) (tRet (tOp (rIx K) (tLst (tCons (tOp (rI0 fun i j => .int (i - j)) (tVar 1) (tC (.int 1))) (tCons (tOp (rAddA K) (tVar 2) (tC (.int 1))) tNil))) (tOp (rI0 fun i j => .int (i - j)) (tVar 3) (tC (.int 1))))) tNext)
      (tSeq (tIfS (tTest (tOp (rI0 fun i j => .bl (decide (i < j))) (tVar 3) (tC (.int 5)))) (tSeq (tAsg (tCall (spD K (c_law_take K)) [] E (tCons (tVar 0) (tCons (tOp (rI CPow fun i j => .int (i ^ j.toNat)) (tC (.int 10)) (tC (.int 20))) tNil))) (gName 4))
      (tRet (tOp (rIx K) (tLst (tCons (tOp (rI0 fun i j => .int (i - j)) (tOp (rI0 fun i j => .int (i - j)) (tVar 1) (tC (.int 1))) (tVar 4)) (tCons (tOp (rAddA K) (tOp (rAddA K) (tVar 2) (tC (.int 1))) (tVar 4)) tNil))) (tOp (rI0 fun i j => .int (i - j)) (tVar 3) (tC (.int 3)))))) tNext)
      (tSeq (tIfS (tTest (tOp (rI0 fun i j => .bl (decide (i < j))) (tVar 3) (tC (.int 8)))) (tRet (tOp (rIx K) (tLst (tCons (tVar 1) (tCons (tVar 2) (tCons (tCB (rMinA K) (tCons (tOp (rAddA K) (tVar 1) (tC (.int 1))) (tCons (tVar 2) tNil))) tNil)))) (tOp (rI0 fun i j => .int (i - j)) (tVar 3) (tC (.int 5))))) tNext)
      (tRet (tOp (rAddA K) (tVar 1) (tCall (spD K (c_law_take K)) [] E (tCons (tVar 0) (tCons (tOp (rAddA K) (tOp (rI0 fun i j => .int (i - j)) (tVar 2) (tVar 1)) (tC (.int 1))) tNil))))))))))
def t_law_title (K : PySem.W.Frag) (E : XK) : TS :=
    (tSeq (tAsg (tC (.str "abcdefghijklmnopqrstuvwxyz")) (gName 1))
      (tSeq (tAsg (tCall (spD K (c_law_take K)) [] E (tCons (tVar 0) (tCons (tC (.int 7)) tNil))) (gName 2))
      (tSeq (tIfS (tTest (tOp (rEqD K) (tVar 2) (tC (.int 0)))) (tRet (tCall (spD K (c_law_pick K)) [] E (tCons (tVar 0) (tCons (tLst (tCons (tC .non) (tCons (tC (.int 7)) (tCons (tC (.bl true)) (tCons (tLst (tCons (tC (.str "a")) tNil)) (tCons (tC (.str "")) (tCons (tTup (tCons (tC (.str "a")) tNil)) tNil))))))) tNil)))) tNext)
      (tSeq (tAsg (tOp (rAddA K) (tC (.int 1)) (tCall (spD K (c_law_take K)) [] E (tCons (tVar 0) (tCons (tC (.int 8)) tNil)))) (gName 3))
      (tSeq (tIfS (tTest (tOp (rEqD K) (tVar 2) (tC (.int 1)))) (tAsg (tOp (rAddA K) (tC (.int 9)) (tCall (spD K (c_law_take K)) [] E (tCons (tVar 0) (tCons (tC (.int 9)) tNil)))) (gName 3)) tNext)
      (tSeq (tAsg (tLc (iRng1 (tCons (tVar 3) tNil)) (gName 5) tYes (tCall (spD K (c_law_pick K)) [] E0 (tCons (tVar 0) (tCons (tVar 1) tNil))) [5]) (gName 4))
      (tSeq (tIfS (tTest (tOp (rEqD K) (tVar 2) (tC (.int 2)))) (tSeq (tAsg (tCall (spD K (c_law_take K)) [] E (tCons (tVar 0) (tCons (tVar 3) tNil))) (gName 6))
      (tAsg (tCall (spD K (c_law_pick K)) [] E (tCons (tVar 0) (tCons (tLst (tCons (tC (.str "A")) (tCons (tC (.str "Z")) (tCons (tC (.str "0")) (tCons (tC (.str " ")) (tCons (tC (.str "_")) (tCons (tC (.str "-")) (tCons (tC (.str "{")) (tCons (tC (.str "`")) (tCons (tC (.str ",")) (tCons (tC (.str "\n")) tNil))))))))))) tNil))) (gSub (tVar 4) (tVar 6) rSetL))) tNext)
      (tRet (tBM K "str" (rJoin K) (tC (.str "")) (tCons (tVar 4) tNil))))))))))
def t_law_is_number (K : PySem.W.Frag) (E : XK) : TS :=
    (tRet (tAndV (tCB (rIsi K) (tCons (tVar 0) (tCons (tC (.ty "int")) tNil))) (tAndV (tNotV (tCB (rIsi K) (tCons (tVar 0) (tCons (tC (.ty "bool")) tNil)))) (tChain (rI0 fun i j => .bl (decide (i ≤ j))) (rI0 fun i j => .bl (decide (i ≤ j))) (tVar 1) (tVar 0) (tVar 2)))))
def t_law_is_title (K : PySem.W.Frag) (E : XK) : TS :=
    (tSeq (tAsg (tC (.str "abcdefghijklmnopqrstuvwxyz")) (gName 1))
      (tSeq (tIfS (tOr (tNot (tTruth K (tCB (rIsi K) (tCons (tVar 0) (tCons (tC (.ty "str")) tNil))))) (tNot (tTest (tChain (rI0 fun i j => .bl (decide (i ≤ j))) (rI0 fun i j => .bl (decide (i ≤ j))) (tC (.int 1)) (tCB (rLen K) (tCons (tVar 0) tNil)) (tC (.int 8)))))) (tRet (tC (.bl false))) tNext)
      (tRet (tOp (rEqD K) (tLc (iAny K (tVar 0)) (gName 2) (tTest (tOp (rNotInA K) (tVar 2) (tVar 1))) (tVar 2) [2]) (tLst tNil)))))
def t_law_is_row (K : PySem.W.Frag) (E : XK) : TS :=
    (tSeq (tAsg (tVar 0) (gTup K 5 (gCons (gName 1) (gCons (gName 2) (gCons (gName 3) (gCons (gName 4) (gCons (gName 5) gNil)))))))
      (tSeq (tIfS (tOr (tNot (tTruth K (tCall (spD K (c_law_is_title K)) [] E (tCons (tVar 2) tNil)))) (tOr (tNot (tTruth K (tCall (spD K (c_law_is_number K)) [] E (tCons (tVar 3) (tCons (tC (.int 1)) (tCons (tOp (rI CPow fun i j => .int (i ^ j.toNat)) (tC (.int 10)) (tC (.int 6))) tNil)))))) (tNot (tTruth K (tCall (spD K (c_law_is_number K)) [] E (tCons (tVar 4) (tCons (tC (.int 1)) (tCons (tC (.int 9)) tNil)))))))) (tRet (tC (.bl false))) tNext)
      (tRet (tOrV (tOp (rEqD K) (tVar 1) (tC (.str "yearly"))) (tCall (spD K (c_law_is_number K)) [] E (tCons (tVar 5) (tCons (tC (.int 0)) (tCons (tOp (rI0 fun i j => .int (i - j)) (tVar 3) (tC (.int 1))) tNil))))))))
def t_law_made (K : PySem.W.Frag) (E : XK) : TS :=
    (tSeq (tAsg (tVar 0) (gTup K 5 (gCons (gName 2) (gCons (gName 3) (gCons (gName 4) (gCons (gName 5) (gCons (gName 6) gNil)))))))
      (tSeq (tAsg (tC .non) (gName 7))
      (tSeq (tAsg (tC .non) (gName 8))
      (tSeq (tTry K (.ref (He.ga K "ReadError")) 9 (fun W => (tIfS (tAnd (tTest (tOp (rEqD K) (tVar 2) (tC (.str "yearly")))) (tTest (tOp (rEqD K) (tVar 1) (tC (.int 0))))) (tAsg (tMakeS (He.ga K "Yearly") (spD K (c_Yearly_init K)) [] (WE W) (tPerm 0 3 [1, 2, 0] tNil (tCons (tVar 5) (tCons (tVar 3) (tCons (tVar 4) tNil))))) (gName 7)) (tIfS (tTest (tOp (rEqD K) (tVar 2) (tC (.str "yearly")))) (tAsg (tMakeS (He.ga K "Yearly") (spD K (c_Yearly_init K)) [] (WE W) (tCons (tVar 3) (tCons (tVar 4) (tCons (tVar 5) tNil)))) (gName 7)) (tIfS (tTest (tOp (rEqD K) (tVar 1) (tC (.int 0)))) (tAsg (tMakeS (He.ga K "Going") (spD K (c_Going_init K)) [] (WE W) (tCons (tVar 3) (tCons (tVar 4) (tCons (tVar 5) (tCons (tVar 6) tNil))))) (gName 7)) (tIfS (tAnd (tTest (tOp (rEqD K) (tVar 1) (tC (.int 1)))) (tTruth K (tCallS (spD K (c_law_is_number K)) (WE W) (tCons (tVar 6) (tCons (tC (.int 0)) (tCons (tC (.int 0)) tNil)))))) (tAsg (tMakeS (He.ga K "Going") (spD K (c_Going_init K)) [.int (0)] (WE W) (tCons (tVar 3) (tCons (tVar 4) (tCons (tVar 5) tNil)))) (gName 7)) (tAsg (tMakeS (He.ga K "Going") (spD K (c_Going_init K)) [] (WE W) (tPerm 2 2 [1, 0] (tCons (tVar 3) (tCons (tVar 4) tNil)) (tCons (tVar 6) (tCons (tVar 5) tNil)))) (gName 7))))))) (tAsg (tVar 9) (gName 8)) (fun _ _ _ _ => False))
      (tRet (tTup (tCons (tVar 7) (tCons (tVar 8) tNil))))))))
def t_law_others (K : PySem.W.Frag) (E : XK) : TS :=
    (tSeq (tAsg (tVar 0) (gTup K 5 (gCons (gName 1) (gCons (gName 2) (gCons (gName 3) (gCons (gName 4) (gCons (gName 5) gNil)))))))
      (tSeq (tIfS (tTest (tOp (rEqD K) (tVar 1) (tC (.str "yearly")))) (tAsg (tC (.int 0)) (gName 5)) tNext)
      (tSeq (tAsg (tOp (rAddA K) (tVar 3) (tC (.int 1))) (gName 6))
      (tSeq (tIfS (tTest (tOp (rEqD K) (tVar 3) (tOp (rI CPow fun i j => .int (i ^ j.toNat)) (tC (.int 10)) (tC (.int 6))))) (tAsg (tOp (rI0 fun i j => .int (i - j)) (tVar 3) (tC (.int 1))) (gName 6)) tNext)
      (tSeq (tAsg (tLst (tCons (tTup (tCons (tVar 1) (tCons (tOp (rAddA K) (tSl (rSlA K) (tVar 2) tNoPart (tPart (tUn (rU fun i => .int (-i)) (tC (.int 1))))) (tOp (rIx K) (tC (.str "zq")) (tCB rInt1 (tCons (tOp (rEqD K) (tOp (rIx K) (tVar 2) (tUn (rU fun i => .int (-i)) (tC (.int 1)))) (tC (.str "z"))) tNil)))) (tCons (tVar 3) (tCons (tVar 4) (tCons (tVar 5) tNil)))))) tNil)) (gName 7))
      (tSeq (tAsg (tOp (rAddA K) (tVar 7) (tLst (tCons (tTup (tCons (tVar 1) (tCons (tVar 2) (tCons (tVar 6) (tCons (tVar 4) (tCons (tCB (rMinA K) (tCons (tVar 5) (tCons (tOp (rI0 fun i j => .int (i - j)) (tVar 6) (tC (.int 1))) tNil))) tNil)))))) (tCons (tTup (tCons (tVar 1) (tCons (tVar 2) (tCons (tVar 3) (tCons (tOp (rAddA K) (tC (.int 1)) (tOp rModA (tVar 4) (tC (.int 9)))) (tCons (tVar 5) tNil)))))) tNil)))) (gName 7))
      (tSeq (tIfS (tAnd (tTest (tOp (rEqD K) (tVar 1) (tC (.str "going")))) (tTest (tOp (rI0 fun i j => .bl (decide (j < i))) (tVar 3) (tC (.int 1))))) (tDrop (tBM K "list" rAppend (tVar 7) (tCons (tTup (tCons (tVar 1) (tCons (tVar 2) (tCons (tVar 3) (tCons (tVar 4) (tCons (tOp rModA (tOp (rAddA K) (tVar 5) (tC (.int 1))) (tVar 3)) tNil)))))) tNil))) tNext)
      (tRet (tVar 7)))))))))
def t_law_is_told (K : PySem.W.Frag) (E : XK) : TS :=
    (tSeq (tAsg (tIf (tTest (tOp (rEqD K) (tOp (rIx K) (tVar 1) (tC (.int 0))) (tC (.str "going")))) (tVar 1) (tSl (rSlA K) (tVar 1) tNoPart (tPart (tC (.int 4))))) (gName 2))
      (tSeq (tIfS (tOr (tNot (tTruth K (tCB (rIsi K) (tCons (tVar 0) (tCons (tC (.ref (He.ga K "Row"))) tNil))))) (tOr (tTest (tOp (rNeD K) (tOrE (tMeth (He.ga K "Going") "told" (spD K (c_Going_told K)) [] E (tVar 0) tNil) (tMeth (He.ga K "Yearly") "told" (spD K (c_Yearly_told K)) [] E (tVar 0) tNil)) (tVar 2))) (tNot (tTruth K (tCB (rIsi K) (tCons (tOrE (tMeth (He.ga K "Going") "told" (spD K (c_Going_told K)) [] E (tVar 0) tNil) (tMeth (He.ga K "Yearly") "told" (spD K (c_Yearly_told K)) [] E (tVar 0) tNil)) (tCons (tC (.ty "tuple")) tNil))))))) (tRet (tC (.bl false))) tNext)
      (tSeq (tIfS (tOr (tTest (tOp (rNeD K) (tCB (rIsi K) (tCons (tVar 0) (tCons (tC (.ref (He.ga K "Going"))) tNil))) (tOp (rEqD K) (tOp (rIx K) (tVar 1) (tC (.int 0))) (tC (.str "going"))))) (tTest (tOp (rNeD K) (tCB (rIsi K) (tCons (tVar 0) (tCons (tC (.ref (He.ga K "Yearly"))) tNil))) (tOp (rEqD K) (tOp (rIx K) (tVar 1) (tC (.int 0))) (tC (.str "yearly")))))) (tRet (tC (.bl false))) tNext)
      (tSeq (tAsg (tMake (He.ga K "Going") (spD K (c_Going_init K)) [.int (0)] E (tCons (tOp (rIx K) (tVar 1) (tC (.int 1))) (tCons (tOp (rIx K) (tVar 1) (tC (.int 2))) (tCons (tOp (rIx K) (tVar 1) (tC (.int 3))) tNil)))) (gName 3))
      (tSeq (tIfS (tTest (tOp (rEqD K) (tOp (rIx K) (tVar 1) (tC (.int 0))) (tC (.str "going")))) (tAsg (tMake (He.ga K "Yearly") (spD K (c_Yearly_init K)) [] E (tCons (tOp (rIx K) (tVar 1) (tC (.int 1))) (tCons (tOp (rIx K) (tVar 1) (tC (.int 2))) (tCons (tOp (rIx K) (tVar 1) (tC (.int 3))) tNil)))) (gName 3)) tNext)
      (tSeq (tAsg (tMake (He.ga K "Yearly") (spD K (c_Yearly_init K)) [] E (tCons (tOp (rIx K) (tVar 1) (tC (.int 1))) (tCons (tOp (rIx K) (tVar 1) (tC (.int 2))) (tCons (tOp (rI0 fun i j => .int (i - j)) (tC (.int 10)) (tOp (rIx K) (tVar 1) (tC (.int 3)))) tNil)))) (gName 4))
      (tSeq (tIfS (tTest (tOp (rNeD K) (tOp (rOr (rEqO K (He.ga K "Going") (spD K (c_Going_eq K)) E) (rEqO K (He.ga K "Yearly") (spD K (c_Yearly_eq K)) E)) (tVar 0) (tVar 4)) (tAndV (tOp (rEqD K) (tOp (rIx K) (tVar 1) (tC (.int 0))) (tC (.str "yearly"))) (tOp (rEqD K) (tOp (rIx K) (tVar 1) (tC (.int 3))) (tC (.int 5)))))) (tRet (tC (.bl false))) tNext)
      (tSeq (tIfS (tOr (tTest (tOp (rOr (rEqO K (He.ga K "Going") (spD K (c_Going_eq K)) E) (rEqO K (He.ga K "Yearly") (spD K (c_Yearly_eq K)) E)) (tVar 0) (tVar 3))) (tOr (tTest (tOp (rOr (rEqO K (He.ga K "Going") (spD K (c_Going_eq K)) E) (rEqO K (He.ga K "Yearly") (spD K (c_Yearly_eq K)) E)) (tVar 3) (tVar 0))) (tOr (tTest (tOp (rOr (rEqO K (He.ga K "Going") (spD K (c_Going_eq K)) E) (rEqO K (He.ga K "Yearly") (spD K (c_Yearly_eq K)) E)) (tVar 0) (tMake (He.ga K "Calendar") (spD K (c_Calendar_init K)) [] E (tCons (tLst (tCons (tC (.int 2)) tNil)) tNil)))) (tNot (tTest (tOp (rOr (rEqO K (He.ga K "Going") (spD K (c_Going_eq K)) E) (rEqO K (He.ga K "Yearly") (spD K (c_Yearly_eq K)) E)) (tVar 0) (tOp (rIx K) (tCall (spD K (c_law_made K)) [] E (tCons (tVar 1) (tCons (tC (.int 2)) tNil))) (tC (.int 0))))))))) (tRet (tC (.bl false))) tNext)
      (tSeq (tFor (iAny K (tCall (spD K (c_law_others K)) [] E (tCons (tVar 1) tNil))) (gName 5) (tSeq (tAsg (tOp (rIx K) (tCall (spD K (c_law_made K)) [] E (tCons (tVar 5) (tCons (tC (.int 2)) tNil))) (tC (.int 0))) (gName 6))
      (tIfS (tOr (tTest (tOp (rOr (rEqO K (He.ga K "Going") (spD K (c_Going_eq K)) E) (rEqO K (He.ga K "Yearly") (spD K (c_Yearly_eq K)) E)) (tVar 0) (tVar 6))) (tOr (tTest (tOp (rOr (rEqO K (He.ga K "Going") (spD K (c_Going_eq K)) E) (rEqO K (He.ga K "Yearly") (spD K (c_Yearly_eq K)) E)) (tVar 6) (tVar 0))) (tNot (tTest (tOp (rOr (rNeO K (He.ga K "Going") (spD K (c_Going_eq K)) E) (rNeO K (He.ga K "Yearly") (spD K (c_Yearly_eq K)) E)) (tVar 0) (tVar 6)))))) (tRet (tC (.bl false))) tNext)))
      (tRet (tC (.bl true))))))))))))
def t_law (K : PySem.W.Frag) (E : XK) : TS :=
    (tSeq (tAsg (tCall (spD K (c_law_begun K)) [] E (tCons (tVar 0) tNil)) (gName 1))
      (tSeq (tAsg (tC .non) (gName 2))
      (tSeq (tFor (iRng1 (tCons (tC (.int 8)) tNil)) (gName 3) (tSeq (tAsg (tCall (spD K (c_law_pick K)) [] E (tCons (tVar 1) (tCons (tLst (tCons (tC (.str "going")) (tCons (tC (.str "yearly")) tNil))) tNil))) (gName 4))
      (tSeq (tAsg (tCall (spD K (c_law_take K)) [] E (tCons (tVar 1) (tCons (tC (.int 3)) tNil))) (gName 5))
      (tSeq (tAsg (tCall (spD K (c_law_take K)) [] E (tCons (tVar 1) (tCons (tC (.int 5)) tNil))) (gName 6))
      (tSeq (tAsg (tLst (tCons (tVar 4) (tCons (tC (.str "psalm")) (tCons (tC (.int 12)) (tCons (tC (.int 3)) (tCons (tC (.int 4)) tNil)))))) (gName 7))
      (tSeq (tIfS (tTest (tOp (rI0 fun i j => .bl (decide (i < j))) (tVar 6) (tC (.int 4)))) (tSeq (tAsg (tLst (tCons (tVar 4) (tCons (tCall (spD K (c_law_title K)) [] E (tCons (tVar 1) tNil)) (tCons (tCall (spD K (c_law_worth K)) [] E (tCons (tVar 1) (tCons (tC (.int 1)) (tCons (tOp (rI CPow fun i j => .int (i ^ j.toNat)) (tC (.int 10)) (tC (.int 6))) tNil)))) (tCons (tCall (spD K (c_law_worth K)) [] E (tCons (tVar 1) (tCons (tC (.int 1)) (tCons (tC (.int 9)) tNil)))) (tCons (tC (.int 0)) tNil)))))) (gName 7))
      (tIfS (tTruth K (tCall (spD K (c_law_is_number K)) [] E (tCons (tOp (rIx K) (tVar 7) (tC (.int 2))) (tCons (tC (.int 1)) (tCons (tOp (rI CPow fun i j => .int (i ^ j.toNat)) (tC (.int 10)) (tC (.int 6))) tNil))))) (tAsg (tCall (spD K (c_law_worth K)) [] E (tCons (tVar 1) (tCons (tC (.int 0)) (tCons (tOp (rI0 fun i j => .int (i - j)) (tOp (rIx K) (tVar 7) (tC (.int 2))) (tC (.int 1))) tNil)))) (gSub (tVar 7) (tC (.int 4)) rSetL)) tNext)) (tSeq (tAsg (tOp (rAddA K) (tC (.int 1)) (tCall (spD K (c_law_take K)) [] E (tCons (tVar 1) (tCons (tC (.int 4)) tNil)))) (gName 8))
      (tIfS (tTest (tOp (rEqD K) (tVar 8) (tC (.int 1)))) (tAsg (tCall (spD K (c_law_title K)) [] E (tCons (tVar 1) tNil)) (gSub (tVar 7) (tVar 8) rSetL)) (tAsg (tCall (spD K (c_law_worth K)) [] E (tCons (tVar 1) (tCons (tOp (rIx K) (tLst (tCons (tC (.int 1)) (tCons (tC (.int 1)) (tCons (tC (.int 0)) tNil)))) (tOp (rI0 fun i j => .int (i - j)) (tVar 8) (tC (.int 2)))) (tCons (tOp (rIx K) (tLst (tCons (tOp (rI CPow fun i j => .int (i ^ j.toNat)) (tC (.int 10)) (tC (.int 6))) (tCons (tC (.int 9)) (tCons (tC (.int 11)) tNil)))) (tOp (rI0 fun i j => .int (i - j)) (tVar 8) (tC (.int 2)))) tNil)))) (gSub (tVar 7) (tVar 8) rSetL)))))
      (tSeq (tAsg (tThen (tVar 7) (kTup K)) (gName 7))
      (tSeq (tAsg (tCall (spD K (c_law_made K)) [] E (tCons (tVar 7) (tCons (tVar 5) tNil))) (gTup K 2 (gCons (gName 9) (gCons (gName 10) gNil))))
      (tIfS (tTruth K (tCall (spD K (c_law_is_row K)) [] E (tCons (tVar 7) tNil))) (tSeq (tIfS (tOr (tB (tNotN (tVar 10))) (tNot (tTruth K (tCall (spD K (c_law_is_told K)) [] E (tCons (tVar 9) (tCons (tVar 7) tNil)))))) (tRet (tC (.bl false))) tNext)
      (tAsg (tTup (tCons (tVar 9) (tCons (tVar 7) tNil))) (gName 2))) (tIfS (tOr (tB (tIsN (tVar 10))) (tNot (tTruth K (tCall (spD K (c_law_is_alone K)) [] E (tCons (tVar 10) (tCons (tC (.str "row")) tNil)))))) (tRet (tC (.bl false))) tNext))))))))))
      (tRet (tOrV (tIsN (tVar 2)) (tCall (spD K (c_law_is_told K)) [] E (tCons (tOp (rIx K) (tVar 2) (tC (.int 0))) (tCons (tOp (rIx K) (tVar 2) (tC (.int 1))) tNil))))))))
section
variable {K : PySem.W.Frag}
theorem d_Going_eq (kq : KEq K "Going") : ∀ ds μ P PX, c_Going_eq K ds μ P PX → MuCl μ μ.length → clL ds μ.length = true → ∀ B E, XAg K B (RetX μ.length PX) E → DS K B (t_Going_eq K E) (startD ["self", "other"] ds) μ (fnE μ.length P) := by
  intro ds μ P PX h hm hc B E hE
  obtain ⟨r, y, rfl, hg, gr, h⟩ := h
  show DS K B _ [some (rowD K r), some y] μ _
  unfold t_Going_eq
  refine ds_ret (de_andV (de_cb ?_))
  wtm_at "g"
  rcases h with ⟨q, rfl, hq, gq, h⟩ | ⟨t, ht, hk, h⟩
  · rw [rowD_go hq]
    refine rc_isi (.obj kq.ob) (.loc _) kq.is ?_
    refine ⟨true, rfl, fun _ => ?_, fun e => (nomatch e)⟩
    rw [rowD_go hg]
    refine de_op (de_methZ hE ?_)
    wtm_at "v"
    refine mp_obj (by rfl) ?_
    refine da_nil ⟨r, by rw [rowD_go hg], hg, ?_⟩
    refine de_methZ hE ?_
    wtm_at "v"
    refine mp_obj (by rfl) ?_
    refine da_nil ⟨q, by rw [rowD_go hq], hq, ?_⟩
    rw [partsR_go hg, partsR_go hq] at h
    refine ro_eqD (n := 1) (m := 1) (.id _) (.id _) (by rw [← partsR_go hg]; exact parts_shp gr) (by rw [← partsR_go hq]; exact parts_shp gq) ?_
    exact ret_same0 (Nat.le_refl _) hm rfl h
  · refine rc_isi ht (.loc _) hk ?_
    exact ⟨false, rfl, fun e => (nomatch e), fun _ => ret_same0 (Nat.le_refl _) hm rfl h⟩
theorem d_Yearly_eq (kq : KEq K "Yearly") : ∀ ds μ P PX, c_Yearly_eq K ds μ P PX → MuCl μ μ.length → clL ds μ.length = true → ∀ B E, XAg K B (RetX μ.length PX) E → DS K B (t_Yearly_eq K E) (startD ["self", "other"] ds) μ (fnE μ.length P) := by
  intro ds μ P PX h hm hc B E hE
  obtain ⟨r, y, rfl, hg, gr, h⟩ := h
  show DS K B _ [some (rowD K r), some y] μ _
  unfold t_Yearly_eq
  refine ds_ret (de_andV (de_cb ?_))
  wtm_at "g"
  rcases h with ⟨q, rfl, hq, gq, h⟩ | ⟨t, ht, hk, h⟩
  · rw [rowD_ye hq]
    refine rc_isi (.obj kq.ob) (.loc _) kq.is ?_
    refine ⟨true, rfl, fun _ => ?_, fun e => (nomatch e)⟩
    rw [rowD_ye hg]
    refine de_op (de_methZ hE ?_)
    wtm_at "v"
    refine mp_obj (by rfl) ?_
    refine da_nil ⟨r, by rw [rowD_ye hg], hg, ?_⟩
    refine de_methZ hE ?_
    wtm_at "v"
    refine mp_obj (by rfl) ?_
    refine da_nil ⟨q, by rw [rowD_ye hq], hq, ?_⟩
    rw [partsR_ye hg, partsR_ye hq] at h
    refine ro_eqD (n := 1) (m := 1) (.id _) (.id _) (by rw [← partsR_ye hg]; exact parts_shp gr) (by rw [← partsR_ye hq]; exact parts_shp gq) ?_
    exact ret_same0 (Nat.le_refl _) hm rfl h
  · refine rc_isi ht (.loc _) hk ?_
    exact ⟨false, rfl, fun e => (nomatch e), fun _ => ret_same0 (Nat.le_refl _) hm rfl h⟩
/-- a row's == with a row of either class, with a calendar -/
theorem ro_rowEqR {E : XK} {μ : Mu} {P : D → Mu → Prop} {r q : RwT} (kg : KEq K "Going") (ky : KEq K "Yearly") (n1 : KNe K "Going" "Yearly") (n2 : KNe K "Yearly" "Going") (gr : GRw r) (gq : GRw q) (h : P (.bl (decide (r = q))) μ) : RO K (rOr (rEqO K (He.ga K "Going") (spD K (c_Going_eq K)) E) (rEqO K (He.ga K "Yearly") (spD K (c_Yearly_eq K)) E)) (rowD K r) (rowD K q) μ P := by
  have ne : r.going ≠ q.going → decide (r = q) = false := fun hn => decide_eq_false fun e => hn (by rw [e])
  cases hg : r.going with
  | true =>
    refine ro_orL ?_
    cases hq : q.going with
    | true =>
      have h2 : c_Going_eq K [rowD K r, rowD K q] μ (fun z μ' => ∃ b, z = .bl b ∧ P (.bl b) μ') (fun _ _ _ => False) := ⟨r, _, rfl, hg, gr, .inl ⟨q, rfl, hq, gq, _, by rw [parts_eqv gr gq (hq.trans hg.symm)], h⟩⟩
      rw [rowD_go hg, rowD_go hq] at h2 ⊢
      exact ro_eqO ⟨_, .inl rfl⟩ (.obj kg.ob) kg.nf h2
    | false =>
      rw [ne (by rw [hg, hq]; simp)] at h
      have h2 : c_Going_eq K [rowD K r, rowD K q] μ (fun z μ' => ∃ b, z = .bl b ∧ P (.bl b) μ') (fun _ _ _ => False) := ⟨r, _, rfl, hg, gr, .inr ⟨_, by rw [rowD_ye hq]; exact .obj n1.ob, n1.is, _, rfl, h⟩⟩
      rw [rowD_go hg, rowD_ye hq] at h2 ⊢
      exact ro_eqO ⟨_, .inl rfl⟩ (.obj n1.ob) n1.nf h2
  | false =>
    refine ro_orR ?_
    cases hq : q.going with
    | false =>
      have h2 : c_Yearly_eq K [rowD K r, rowD K q] μ (fun z μ' => ∃ b, z = .bl b ∧ P (.bl b) μ') (fun _ _ _ => False) := ⟨r, _, rfl, hg, gr, .inl ⟨q, rfl, hq, gq, _, by rw [parts_eqv gr gq (hq.trans hg.symm)], h⟩⟩
      rw [rowD_ye hg, rowD_ye hq] at h2 ⊢
      exact ro_eqO ⟨_, .inl rfl⟩ (.obj ky.ob) ky.nf h2
    | true =>
      rw [ne (by rw [hg, hq]; simp)] at h
      have h2 : c_Yearly_eq K [rowD K r, rowD K q] μ (fun z μ' => ∃ b, z = .bl b ∧ P (.bl b) μ') (fun _ _ _ => False) := ⟨r, _, rfl, hg, gr, .inr ⟨_, by rw [rowD_go hq]; exact .obj n2.ob, n2.is, _, rfl, h⟩⟩
      rw [rowD_ye hg, rowD_go hq] at h2 ⊢
      exact ro_eqO ⟨_, .inl rfl⟩ (.obj n2.ob) n2.nf h2
theorem ro_rowNeR {E : XK} {μ : Mu} {P : D → Mu → Prop} {r q : RwT} (kg : KEq K "Going") (ky : KEq K "Yearly") (gr : GRw r) (gq : GRw q) (hqr : q.going = r.going) (h : P (.bl (!decide (r = q))) μ) : RO K (rOr (rNeO K (He.ga K "Going") (spD K (c_Going_eq K)) E) (rNeO K (He.ga K "Yearly") (spD K (c_Yearly_eq K)) E)) (rowD K r) (rowD K q) μ P := by
  cases hg : r.going with
  | true =>
    refine ro_orL ?_
    have hq := hqr.trans hg
    have h2 : c_Going_eq K [rowD K r, rowD K q] μ (fun z μ' => ∃ b, z = .bl b ∧ P (.bl (!b)) μ') (fun _ _ _ => False) := ⟨r, _, rfl, hg, gr, .inl ⟨q, rfl, hq, gq, _, by rw [parts_eqv gr gq hqr], h⟩⟩
    rw [rowD_go hg, rowD_go hq] at h2 ⊢
    exact ro_neO ⟨_, .inl rfl⟩ (.obj kg.ob) kg.nf h2
  | false =>
    refine ro_orR ?_
    have hq := hqr.trans hg
    have h2 : c_Yearly_eq K [rowD K r, rowD K q] μ (fun z μ' => ∃ b, z = .bl b ∧ P (.bl (!b)) μ') (fun _ _ _ => False) := ⟨r, _, rfl, hg, gr, .inl ⟨q, rfl, hq, gq, _, by rw [parts_eqv gr gq hqr], h⟩⟩
    rw [rowD_ye hg, rowD_ye hq] at h2 ⊢
    exact ro_neO ⟨_, .inl rfl⟩ (.obj ky.ob) ky.nf h2
theorem ro_rowEqC {E : XK} {μ : Mu} {P : D → Mu → Prop} {r : RwT} {ls : List Int} (n1 : KNe K "Going" "Calendar") (n2 : KNe K "Yearly" "Calendar") (gr : GRw r) (h : P (.bl false) μ) : RO K (rOr (rEqO K (He.ga K "Going") (spD K (c_Going_eq K)) E) (rEqO K (He.ga K "Yearly") (spD K (c_Yearly_eq K)) E)) (rowD K r) (calD K ls) μ P := by
  cases hg : r.going with
  | true =>
    refine ro_orL ?_
    have h2 : c_Going_eq K [rowD K r, calD K ls] μ (fun z μ' => ∃ b, z = .bl b ∧ P (.bl b) μ') (fun _ _ _ => False) := ⟨r, _, rfl, hg, gr, .inr ⟨_, .obj n1.ob, n1.is, _, rfl, h⟩⟩
    rw [rowD_go hg] at h2 ⊢
    exact ro_eqO ⟨_, .inl rfl⟩ (.obj n1.ob) n1.nf h2
  | false =>
    refine ro_orR ?_
    have h2 : c_Yearly_eq K [rowD K r, calD K ls] μ (fun z μ' => ∃ b, z = .bl b ∧ P (.bl b) μ') (fun _ _ _ => False) := ⟨r, _, rfl, hg, gr, .inr ⟨_, .obj n2.ob, n2.is, _, rfl, h⟩⟩
    rw [rowD_ye hg] at h2 ⊢
    exact ro_eqO ⟨_, .inl rfl⟩ (.obj n2.ob) n2.nf h2
theorem d_law_is_number : ∀ ds μ P PX, c_law_is_number K ds μ P PX → MuCl μ μ.length → clL ds μ.length = true → ∀ B E, XAg K B (RetX μ.length PX) E → DS K B (t_law_is_number K E) (startD ["_law_thing", "_law_low", "_law_top"] ds) μ (fnE μ.length P) := by
  intro ds μ P PX h hm hc B E hE
  obtain ⟨x, lo, hi, rfl, hd, h⟩ := h
  show DS K B _ [some x, some (.int lo), some (.int hi)] μ _
  have ret : ∀ b, b = isNum x lo hi → Ret μ.length P (.bl b) μ := fun b e => ret_same0 (Nat.le_refl _) hm rfl (by rw [e]; exact h)
  unfold t_law_is_number
  refine ds_ret (de_andV (de_cb ?_))
  wtm_at "g"
  refine rc_isiD hd (by decide) ?_
  refine ⟨_, rfl, ?_⟩
  cases x with
  | int i =>
    refine ⟨fun _ => ?_, fun z => (nomatch z)⟩
    wtm_at "E"
    · rename_i hb
      exact ret _ (by simp [isNum, hb])
    · rename_i hb
      exact ret _ (by simp [isNum]; omega)
  | bl b =>
    refine ⟨fun _ => ?_, fun z => (nomatch z)⟩
    wtm_at "E"
    exact ret false rfl
  | _ => exact ⟨fun z => (nomatch z), fun _ => ret false rfl⟩
end
section
variable {K : PySem.W.Frag}
set_option maxHeartbeats 1000000 in
theorem d_law_worth : ∀ ds μ P PX, c_law_worth K ds μ P PX → MuCl μ μ.length → clL ds μ.length = true → ∀ B E, XAg K B (RetX μ.length PX) E → DS K B (t_law_worth K E) (startD ["_law_draw", "_law_low", "_law_top", "_law_kind", "_law_beyond"] ds) μ (fnE μ.length P) := by
  intro ds μ P PX h hm hc B E hE
  obtain ⟨k, g, s, lo, hi, rfl, hd, h0, h1, h2, h⟩ := h
  show DS K B _ [some (.own k), some (.int lo), some (.int hi), none, none] μ _
  have ret : ∀ (d : D) s', d.dat = true → (∀ n, d.cl n = true) → (∀ s : Str, d = .str s → s.length ≤ 100 ∧ PyData.strOk s = true) → GDw s' → Ret μ.length P d (dw μ k g s') := fun d s' a b c e => ret_same0 (by rw [dw_len]; exact Nat.le_refl _) (hd.cl hm) (b _) (h d s' a b c e)
  have reti : ∀ (i : Int) s', GDw s' → Ret μ.length P (.int i) (dw μ k g s') := fun i s' e => ret _ s' rfl (fun _ => rfl) (fun _ z => (nomatch z)) e
  have dd : ∀ {a : DwS} s, dw (dw μ k g a) k g s = dw μ k g s := fun s => dw_dw hd.ne
  unfold t_law_worth
  refine q_set ?_
  wtm_at "E"
  refine ⟨k, g, s, 12, rfl, hd, by omega, by omega, fun kd s1 k0 k1 gs1 => ?_⟩
  have w1 := hd.dw gs1
  refine q_when (dt_test ?_)
  wtm_at "E"
  · refine ds_ret (de_call hE ?_)
    wtm_at "E"
    refine de_lstZ ?_
    wtm_at "E"
    refine de_lstZ ?_
    wtm_at "E"
    refine ⟨k, g, s1, _, _, rfl, w1, .lst _, by simp, by simp, fun i d s2 hi gs2 => ?_⟩
    rw [dd]
    have := List.mem_of_getElem? hi
    simp only [List.mem_cons, List.not_mem_nil, or_false] at this
    rcases this with rfl | rfl | rfl | rfl | rfl | rfl
    · exact ret _ s2 rfl (fun _ => rfl) (fun _ z => (nomatch z)) gs2
    · exact ret _ s2 rfl (fun _ => rfl) (fun _ z => (nomatch z)) gs2
    · exact ret _ s2 rfl (fun _ => rfl) (fun _ z => (nomatch z)) gs2
    · exact ret _ s2 rfl (fun _ => rfl) (fun s e => by cases e; exact ⟨by decide +kernel, by decide +kernel⟩) gs2
    · exact ret _ s2 rfl (fun _ => rfl) (fun _ z => (nomatch z)) gs2
    · exact ret _ s2 rfl (fun _ => rfl) (fun _ z => (nomatch z)) gs2
  refine q_when (dt_test ?_)
  wtm_at "E"
  · refine ds_ret (de_op (de_lstZ ?_))
    wtm_at "E"
    rcases (show kd = 1 ∨ kd = 2 by omega) with rfl | rfl
    all_goals
      refine ro_ixL (.lst _) rfl ?_
      exact reti _ s1 gs1
  rename_i hk3
  refine q_when (dt_test ?_)
  wtm_at "E"
  · refine q_set ?_
    wtm_at "E"
    refine ⟨k, g, s1, _, rfl, w1, by decide, by decide, fun b s2 b0 b1 gs2 => ?_⟩
    rw [dd]
    refine ds_ret (de_op (de_lstZ ?_))
    wtm_at "E"
    rcases (show kd = 3 ∨ kd = 4 by omega) with rfl | rfl
    all_goals
      refine ro_ixL (.lst _) rfl ?_
      exact reti _ s2 gs2
  rename_i hk5
  refine q_when (dt_test ?_)
  wtm_at "E"
  · refine ds_ret (de_op (de_lstZ ?_))
    wtm_at "E"
    rcases (show kd = 5 ∨ kd = 6 ∨ kd = 7 by omega) with rfl | rfl | rfl
    all_goals
      refine ro_ixL (.lst _) rfl ?_
      exact reti _ s1 gs1
  refine ds_ret ?_
  wtm_at "E"
  refine ⟨k, g, s1, hi - lo + 1, rfl, w1, by omega, by omega, fun b s2 b0 b1 gs2 => ?_⟩
  rw [dd]
  wtm_at "E"
  exact reti _ s2 gs2
theorem sg_all : ∀ (cs : List Nat), ((cs.map fun c => (⟨#[c]⟩ : Str)).map (·.length)).sum = cs.length
  | [] => rfl
  | c :: cs => by
    rw [List.map_cons, List.map_cons, List.sum_cons, sg_all cs, List.length_cons]
    show 1 + cs.length = cs.length + 1
    omega
set_option maxHeartbeats 1000000 in
theorem d_law_title : ∀ ds μ P PX, c_law_title K ds μ P PX → MuCl μ μ.length → clL ds μ.length = true → ∀ B E, XAg K B (RetX μ.length PX) E → DS K B (t_law_title K E) (startD ["_law_draw", "_law_letters", "_law_kind", "_law_long", "_law_signs", "_law_k", "_law_at"] ds) μ (fnE μ.length P) := by
  intro ds μ P PX h hm hc B E hE
  obtain ⟨k, g, s, rfl, hd, h⟩ := h
  show DS K B _ [some (.own k), none, none, none, none, none, none] μ _
  have ret : ∀ (d : D) s' ext, d.dat = true → (∀ n, d.cl n = true) → (∀ s : Str, d = .str s → s.length ≤ 100 ∧ PyData.strOk s = true) → GDw s' → Ret μ.length P d (dw μ k g s' ++ ext) := fun d s' ext a b c e => ret_same (by rw [dw_len]; exact Nat.le_refl _) (hd.cl hm) (b _) (h d s' a b c e)
  have dd : ∀ {a : DwS} s, dw (dw μ k g a) k g s = dw μ k g s := fun s => dw_dw hd.ne
  unfold t_law_title
  refine q_set ?_
  wtm_at "E"
  refine q_set ?_
  wtm_at "E"
  refine ⟨k, g, s, 7, rfl, hd, by omega, by omega, fun kd s1 k0 k1 gs1 => ?_⟩
  have w1 := hd.dw gs1
  refine q_when (dt_test ?_)
  wtm_at "E"
  · refine ds_ret (de_call hE ?_)
    wtm_at "E"
    refine de_lstZ ?_
    wtm_at "E"
    refine de_lstZ ?_
    wtm_at "E"
    refine ⟨k, g, s1, _, _, rfl, w1, .lst _, by simp, by simp, fun i d s2 hi gs2 => ?_⟩
    rw [dd]
    have := List.mem_of_getElem? hi
    simp only [List.mem_cons, List.not_mem_nil, or_false] at this
    have ret' : ∀ (d : D), d.dat = true → (∀ n, d.cl n = true) → (∀ s : Str, d = .str s → s.length ≤ 100 ∧ PyData.strOk s = true) → Ret μ.length P d (dw μ k g s2) := fun d a b c => by
      have := ret d s2 [] a b c gs2
      rwa [List.append_nil] at this
    rcases this with rfl | rfl | rfl | rfl | rfl | rfl
    · exact ret' _ rfl (fun _ => rfl) (fun _ z => (nomatch z))
    · exact ret' _ rfl (fun _ => rfl) (fun _ z => (nomatch z))
    · exact ret' _ rfl (fun _ => rfl) (fun _ z => (nomatch z))
    · exact ret' _ rfl (fun _ => rfl) (fun _ z => (nomatch z))
    · exact ret' _ rfl (fun _ => rfl) (fun s e => by cases e; exact ⟨by decide +kernel, by decide +kernel⟩)
    · exact ret' _ rfl (fun _ => rfl) (fun _ z => (nomatch z))
  refine q_set ?_
  wtm_at "E"
  refine ⟨k, g, s1, 8, rfl, w1, by omega, by omega, fun l s2 l0 l1 gs2 => ?_⟩
  rw [dd]
  wtm_at "E"
  refine ds_cut (M := fun ρ1 μ1 => ∃ (m : Int) (s3 : DwS), ρ1 = [some (.own k), some (.str "abcdefghijklmnopqrstuvwxyz"), some (.int kd), some (.int m), none, none, none] ∧ μ1 = dw μ k g s3 ∧ GDw s3 ∧ 1 ≤ m ∧ m ≤ 20) ?_ ?_
  · refine s_when (dt_test ?_)
    wtm_at "E"
    · refine ds_set ?_
      wtm_at "E"
      refine ⟨k, g, s2, 9, rfl, hd.dw gs2, by omega, by omega, fun l2 s3 l20 l21 gs3 => ?_⟩
      rw [dd]
      wtm_at "E"
      exact ⟨_, s3, rfl, rfl, gs3, by omega, by omega⟩
    · exact ⟨_, s2, rfl, rfl, gs2, by omega, by omega⟩
  rintro ρ1 μ1 ⟨m, s3, rfl, rfl, gs3, m0, m1⟩
  have w3 := hd.dw gs3
  refine q_set ?_
  refine de_lcF (gw_name (by simp)) ?_
  wtm_at "E"
  refine ⟨by omega, by omega, by rw [rangeD_length]; omega, fun i acc μ' => ∃ (cs : List Nat) (s4 : DwS), acc = (cs.map fun c => (⟨#[c]⟩ : Str)).map D.str ∧ (∀ c ∈ cs, c < 1114112) ∧ cs.length = i ∧ μ' = dw μ k g s4 ∧ GDw s4, ⟨[], s3, rfl, by simp, rfl, rfl, gs3⟩, fun _ _ _ _ _ => trivial, ?_, ?_⟩
  · rintro i d acc μ' hi ⟨cs, s4, rfl, hcs, rfl, rfl, gs4⟩
    obtain ⟨hi, rfl⟩ := rangeD_some hi
    wtm_at "E"
    refine de_call XAg.none ?_
    wtm_at "E"
    refine ⟨k, g, s4, _, _, rfl, hd.dw gs4, .str _, by decide +kernel, by decide +kernel, fun j d s5 hj gs5 => ?_⟩
    rw [dd]
    obtain ⟨c, hc, rfl⟩ := signs_get hj
    refine ⟨cs ++ [c], s5, by simp, fun x hx => ?_, by simp, rfl, gs5⟩
    rcases List.mem_append.mp hx with z | z
    · exact hcs x z
    · rw [List.mem_singleton] at z
      subst z
      rw [letters_str] at hc
      have := List.mem_of_getElem? hc
      unfold letters at this
      simp at this
      omega
  rintro acc μ' ⟨cs, s4, rfl, hcs, hcl, rfl, gs4⟩
  rw [rangeD_length] at hcl
  have hcm : (cs.length : Int) = m := by omega
  have fin : ∀ (cs : List Nat) (x : D) (y6 : Option D) (y5 : Option D) s5 ext, cs.length ≤ 20 → (∀ c ∈ cs, c < 1114112) → Ls (dw μ k g s5 ++ ext) x ((cs.map fun c => (⟨#[c]⟩ : Str)).map D.str) → tyD (dw μ k g s5 ++ ext) x = some "list" → GDw s5 → DS K B (tRet (tBM K "str" (rJoin K) (tC (.str "")) (tCons (tVar 4) tNil))) [some (.own k), some (.str "abcdefghijklmnopqrstuvwxyz"), some (.int kd), some (.int m), some x, y5, y6] (dw μ k g s5 ++ ext) (fnE μ.length P) := fun cs x y6 y5 s5 ext hl hok hx ht gs5 => by
    refine ds_ret ?_
    wtm_at "E"
    refine ⟨ty_str, ?_⟩
    wtm_at "E"
    refine rm_join (ys := cs.map fun c => (⟨#[c]⟩ : Str)) hx ?_ ?_
    · rw [sg_all, List.length_map]
      have : ("" : Str).length = 0 := rfl
      rw [this]
      omega
    · rw [join_signs]
      refine ret _ s5 ext rfl (fun _ => rfl) (fun s e => ?_) gs5
      cases e
      refine ⟨?_, strOk_iff.mpr (by simpa using hok)⟩
      show cs.toArray.size ≤ 100
      simp; omega
  by_cases hk2 : kd = 2
  · refine .inr ?_
    have gN : ∀ s (o : MO), (dw μ k g s ++ [o])[μ.length]? = some o := fun s o => by rw [← dw_len μ k g s]; exact mu_last
    have sN : ∀ s (o o' : MO), (dw μ k g s ++ [o]).set μ.length o' = dw μ k g s ++ [o'] := fun s o o' => by rw [← dw_len μ k g s]; exact set_last
    rw [dw_len]
    refine ds_cut (M := fun ρ1 μ1 => ∃ (cs' : List Nat) (s5 : DwS) (y6 : Option D), ρ1 = [some (.own k), some (.str "abcdefghijklmnopqrstuvwxyz"), some (.int kd), some (.int m), some (.own μ.length), none, y6] ∧ μ1 = dw μ k g s5 ++ [.lst ((cs'.map fun c => (⟨#[c]⟩ : Str)).map D.str)] ∧ GDw s5 ∧ cs'.length ≤ 20 ∧ ∀ c ∈ cs', c < 1114112) ?_ ?_
    · refine s_when (dt_test ?_)
      wtm_at "E"
      · refine q_set ?_
        wtm_at "E"
        refine ⟨k, g, s4, m, rfl, (hd.dw gs4).app, by omega, by omega, fun sp s5 a0 a1 gs5 => ?_⟩
        rw [dw_app (hd.dw gs4), dd]
        obtain ⟨q, rfl⟩ : ∃ n : Nat, sp = n := ⟨sp.toNat, by omega⟩
        refine ds_asg (de_call hE ?_)
        wtm_at "E"
        refine de_lstZ ?_
        wtm_at "E"
        refine ⟨k, g, s5, _, _, rfl, (hd.dw gs5).app, .lst _, by simp, by simp, fun j d s6 hj gs6 => ?_⟩
        rw [dw_app (hd.dw gs5), dd]
        obtain ⟨c, rfl, hc⟩ : ∃ c : Nat, d = .str ⟨#[c]⟩ ∧ c < 1114112 := by
          have := List.mem_of_getElem? hj
          simp only [List.mem_cons, List.not_mem_nil, or_false] at this
          rcases this with rfl | rfl | rfl | rfl | rfl | rfl | rfl | rfl | rfl | rfl
          all_goals exact ⟨_, rfl, by decide⟩
        refine dg_sub ?_
        wtm_at "E"
        refine rset_lst (j := q) (gN _ _) (by unfold ixN; simp; omega) ?_
        rw [sN]
        refine ⟨cs.set q c, s6, _, rfl, ?_, gs6, by simp; omega, fun x hx => ?_⟩
        · rw [List.map_set, List.map_set]
        · rcases List.mem_or_eq_of_mem_set hx with z | rfl
          · exact hcs x z
          · exact hc
    rintro ρ1 μ1 ⟨cs', s5, y6, rfl, rfl, gs5, hl', hok'⟩
    exact fin cs' _ _ _ s5 _ hl' hok' (.own (gN _ _)) (by simp only [tyD, gN]) gs5
  · refine .inl ?_
    refine q_when (dt_test ?_)
    wtm_at "E"
    have := fin cs (.lst ((cs.map fun c => (⟨#[c]⟩ : Str)).map D.str)) none none s4 [] (by omega) hcs (.lst _) rfl gs4
    rw [List.append_nil] at this
    exact this
theorem ro_notInSg {μ : Mu} {P : D → Mu → Prop} {c : Nat} {z : Str} (h : P (.bl (!decide (c ∈ z.cps.toList))) μ) : RO K (rNotInA K) (.str ⟨#[c]⟩) (.str z) μ P := fun G H al v w A r1 r2 Q hQ => by
  cases r1; cases r2
  exact .inr ⟨c, z, rfl, rfl, hQ.now A (.bl _) h⟩
theorem d_law_is_title : ∀ ds μ P PX, c_law_is_title K ds μ P PX → MuCl μ μ.length → clL ds μ.length = true → ∀ B E, XAg K B (RetX μ.length PX) E → DS K B (t_law_is_title K E) (startD ["_law_thing", "_law_letters", "_law_sign"] ds) μ (fnE μ.length P) := by
  intro ds μ P PX h hm hc B E hE
  obtain ⟨x, rfl, hd, hl, h⟩ := h
  show DS K B _ [some x, none, none] μ _
  have ret : ∀ b, b = isNameD x → Ret μ.length P (.bl b) μ := fun b e => ret_same0 (Nat.le_refl _) hm rfl (by rw [e]; exact h)
  unfold t_law_is_title
  refine q_set ?_
  wtm_at "E"
  refine q_when (dt_or (dt_not (dt_truth (de_cb ?_))))
  wtm_at "g"
  refine rc_isiD hd (by decide) ?_
  refine ⟨_, rfl, ?_⟩
  by_cases hs : ∃ z, x = .str z
  · obtain ⟨z, rfl⟩ := hs
    obtain ⟨hz, hzo⟩ := hl z rfl
    refine ⟨fun _ => ?_, fun z => (nomatch z)⟩
    refine dt_not ?_
    wtm_at "A"
    refine rc_lenS' (by omega) ?_
    wtm_at "A"
    · rename_i _ hb
      exact ret false (by simp only [isNameD]; exact (decide_eq_false fun q => hb (by have := q.2.1; omega)).symm)
    rotate_left
    · rename_i hb _
      exact ret false (by simp only [isNameD]; exact (decide_eq_false fun q => hb (by have := q.1; omega)).symm)
    rename_i z1 z8
    refine lc_filt (fun d => match d with | .str s => !(s.cps.toList.all fun c => decide (c ∈ letters)) | _ => false) id (gw_name (by simp)) ?_
    wtm_at "E"
    refine ⟨_, _, .str z, trivial, by simp [signsD]; unfold Str.length at hz; omega, fun i d hi => ?_, fun out ho => ?_⟩
    · obtain ⟨c, hc, rfl⟩ := signs_get hi
      refine dg_name ⟨rfl, dt_test ?_⟩
      wtm_at "E"
      refine ro_notInSg ?_
      rw [letters_str]
      refine ⟨_, rfl, by simp, rfl, fun _ => ?_⟩
      wtm_at "E"
      exact ⟨rfl, rfl⟩
    have eo : out = (z.cps.toList.filter fun c => !decide (c ∈ letters)).map fun c => D.str ⟨#[c]⟩ := by
      rw [← ho]
      unfold signsD
      rw [List.map_id, List.filter_map]
      refine congrArg _ (List.filter_congr fun c _ => ?_)
      simp
    subst eo
    clear ho
    refine de_lstZ ?_
    wtm_at "E"
    refine ro_eqNil (n := 1) (.id _) ?_ ?_
    · refine shpL_map fun c hc => ?_
      have := strOk_iff.mp hzo c (List.mem_filter.mp hc).1
      rw [D.shp]
      exact strOk_iff.mpr (by simpa using this)
    refine ret _ ?_
    rw [Bool.eq_iff_iff]
    simp only [isNameD, decide_eq_true_eq, List.map_eq_nil_iff, List.filter_eq_nil_iff]
    constructor
    · intro q
      exact ⟨by omega, by omega, fun c hc => by simpa using q c hc⟩
    · intro q c hc
      simpa using q.2.2 c hc
  · have hx : isTy x "str" = false := by
      cases x <;> first | rfl | exact absurd ⟨_, rfl⟩ hs
    rw [hx]
    refine ⟨fun z => (nomatch z), fun _ => ⟨fun _ => ?_, fun z => (nomatch z)⟩⟩
    refine ds_ret ?_
    wtm_at "E"
    exact ret false (by cases x <;> first | rfl | exact absurd ⟨_, rfl⟩ hs)
end
section
variable {K : PySem.W.Frag}
theorem d_law_is_row : ∀ ds μ P PX, c_law_is_row K ds μ P PX → MuCl μ μ.length → clL ds μ.length = true → ∀ B E, XAg K B (RetX μ.length PX) E → DS K B (t_law_is_row K E) (startD ["_law_row", "_law_kind", "_law_title_here", "_law_often", "_law_top", "_law_start"] ds) μ (fnE μ.length P) := by
  intro ds μ P PX h hm hc B E hE
  obtain ⟨go, a, b, c, e, rfl, hX, hyes, hno⟩ := h
  show DS K B _ [some (.tup [.str (kindS go), a, b, c, e]), none, none, none, none, none] μ _
  have out : (¬ ∃ r, rowIs go a b c e r) → ∀ (ρ : En) (Pe : DEnds), Pe.rt = (fnE μ.length P).rt → DS K B (tRet (tC (.bl false))) ρ μ Pe := fun hn ρ Pe e => ds_ret (by
    rw [e]
    wtm_at "E"
    exact ret_same0 (Nat.le_refl _) hm rfl (hno hn))
  have ret : ∀ bb : Bool, (bb = true → ∃ r, rowIs go a b c e r) → (bb = false → ¬ ∃ r, rowIs go a b c e r) → Ret μ.length P (.bl bb) μ := fun bb h1 h2 => by
    refine ret_same0 (Nat.le_refl _) hm rfl ?_
    cases bb
    · exact hno (h2 rfl)
    · exact hyes (h1 rfl)
  unfold t_law_is_row
  refine q_asg ?_
  wtm_at "E"
  refine q_when (dt_or (dt_not (dt_truth (de_call hE ?_))))
  wtm_at "E"
  refine ⟨a, rfl, hX.x.da, hX.l, ?_⟩
  refine ⟨_, rfl, ?_⟩
  cases ha : isNameD a with
  | false =>
    refine ⟨fun z => (nomatch z), fun _ => ⟨fun _ => out (fun ⟨r, q⟩ => ?_) _ _ rfl, fun z => (nomatch z)⟩⟩
    rw [q.ha] at ha
    exact absurd q.g.name (by simpa [isNameD] using ha)
  | true =>
  obtain ⟨name, rfl⟩ : ∃ n, a = .str n := by cases a <;> simp [isNameD] at ha; exact ⟨_, rfl⟩
  have hn : nameOk name := by simpa [isNameD] using ha
  refine ⟨fun _ => ?_, fun z => (nomatch z)⟩
  refine dt_or (dt_not (dt_truth (de_call hE ?_)))
  wtm_at "E"
  refine ⟨b, 1, 1000000, rfl, hX.x.db, ?_⟩
  refine ⟨_, rfl, ?_⟩
  cases hb : isNum b 1 1000000 with
  | false =>
    refine ⟨fun z => (nomatch z), fun _ => ⟨fun _ => out (fun ⟨r, q⟩ => ?_) _ _ rfl, fun z => (nomatch z)⟩⟩
    rw [q.hb] at hb
    have h1 := q.g.m0; have h2 := q.g.m1
    simp [isNum] at hb
    omega
  | true =>
  obtain ⟨many, rfl⟩ : ∃ n, b = .int n := by cases b <;> simp [isNum] at hb; exact ⟨_, rfl⟩
  have hb : 1 ≤ many ∧ many ≤ 1000000 := by simpa [isNum] using hb
  refine ⟨fun _ => ?_, fun z => (nomatch z)⟩
  refine dt_not (dt_truth (de_call hE ?_))
  wtm_at "E"
  refine ⟨c, 1, 9, rfl, hX.x.dc, ?_⟩
  refine ⟨_, rfl, ?_⟩
  cases hcc : isNum c 1 9 with
  | false =>
    refine ⟨fun _ => out (fun ⟨r, q⟩ => ?_) _ _ rfl, fun z => (nomatch z)⟩
    rw [q.hc] at hcc
    have h1 := q.g.t0; have h2 := q.g.t1
    simp [isNum] at hcc
    omega
  | true =>
  obtain ⟨most, rfl⟩ : ∃ n, c = .int n := by cases c <;> simp [isNum] at hcc; exact ⟨_, rfl⟩
  have hcc : 1 ≤ most ∧ most ≤ 9 := by simpa [isNum] using hcc
  refine ⟨fun z => (nomatch z), fun _ => ?_⟩
  refine ds_ret (de_orV ?_)
  wtm_at "E"
  refine ro_eqS (kindS_ok go) (by decide +kernel) ?_
  cases go with
  | false =>
    refine ⟨_, rfl, fun z => absurd z (by decide +kernel), fun _ => ?_⟩
    exact ret true (fun _ => ⟨⟨false, name, many, most, 0⟩, ⟨hn, hb.1, hb.2, hcc.1, hcc.2, Int.le_refl _, by show (0 : Int) < many; omega, fun _ => rfl⟩, rfl, rfl, rfl, rfl, fun z => (nomatch z)⟩) (fun z => (nomatch z))
  | true =>
    refine ⟨_, rfl, fun _ => ?_, fun z => absurd z (by decide +kernel)⟩
    wtm_at "E"
    refine ⟨e, 0, many - 1, rfl, hX.de, ?_⟩
    refine ret _ (fun he => ?_) (fun he ⟨r, q⟩ => ?_)
    · obtain ⟨begin, rfl⟩ : ∃ n, e = .int n := by cases e <;> simp [isNum] at he; exact ⟨_, rfl⟩
      have he : 0 ≤ begin ∧ begin ≤ many - 1 := by simpa [isNum] using he
      exact ⟨⟨true, name, many, most, begin⟩, ⟨hn, hb.1, hb.2, hcc.1, hcc.2, he.1, by show begin < many; omega, fun z => (nomatch z)⟩, rfl, rfl, rfl, rfl, fun _ => rfl⟩
    · have h0 := q.g.b0; have h1 := q.g.b1
      have h2 := q.hb
      injection h2 with h2
      rw [q.he rfl] at he
      simp [isNum] at he
      omega
theorem yeInit {μ : Mu} {P : D → Mu → Prop} {PX : PXT} {k : Nat} {a b c e : D} (hk : μ[k]? = some (.ins (cYe K) [])) (hX : RowX a b c) (h1 : ∀ r, rowIs false a b c e r → P .non (μ.set k (.ins (cYe K) (yeF r.name r.many r.most)))) (h2 : (¬ ∃ r, rowIs false a b c e r) → PX (He.ga K "BadRow") [] μ) : c_Yearly_init K [.own k, a, b, c] μ P PX := by
  refine ⟨k, a, b, c, rfl, hk, hX, fun n m t q => ?_, fun hn => h2 fun ⟨r, q⟩ => hn r.name r.many r.most ⟨q.ha, q.hb, q.hc, q.g.name, q.g.m0, q.g.m1, q.g.t0, q.g.t1⟩⟩
  exact h1 ⟨false, n, m, t, 0⟩ ⟨⟨q.n, q.m0, q.m1, q.t0, q.t1, Int.le_refl _, by show (0 : Int) < m; have := q.m0; omega, fun _ => rfl⟩, rfl, q.a, q.b, q.c, fun z => (nomatch z)⟩
theorem goInit {μ : Mu} {P : D → Mu → Prop} {PX : PXT} {k : Nat} {a b c e : D} (hk : μ[k]? = some (.ins (cGo K) [])) (hX : RowX a b c) (he : e.dat = true) (h1 : ∀ r, rowIs true a b c e r → P .non (μ.set k (.ins (cGo K) (goF r.name r.many r.most r.begin)))) (h2 : (¬ ∃ r, rowIs true a b c e r) → ∀ μ', (μ' = μ ∨ ∃ gs, clF gs μ.length = true ∧ μ' = μ.set k (.ins (cGo K) gs)) → PX (He.ga K "BadRow") [] μ') : c_Going_init K [.own k, a, b, c, e] μ P PX := by
  refine ⟨k, a, b, c, e, rfl, hk, hX, he, fun n m t s q e1 s0 s1 => ?_, fun hn => h2 fun ⟨r, q⟩ => hn r.name r.many r.most r.begin ⟨q.ha, q.hb, q.hc, q.g.name, q.g.m0, q.g.m1, q.g.t0, q.g.t1⟩ (q.he rfl) q.g.b0 q.g.b1⟩
  exact h1 ⟨true, n, m, t, s⟩ ⟨⟨q.n, q.m0, q.m1, q.t0, q.t1, s0, s1, fun z => (nomatch z)⟩, rfl, q.a, q.b, q.c, fun _ => e1⟩
set_option maxHeartbeats 1000000 in
theorem d_law_made (ke : KExc K excNames) : ∀ ds μ P PX, c_law_made K ds μ P PX → MuCl μ μ.length → clL ds μ.length = true → ∀ B E, XAg K B (RetX μ.length PX) E → DS K B (t_law_made K E) (startD ["_law_row", "_law_way", "_law_kind", "_law_title_here", "_law_often", "_law_top", "_law_start", "_law_found", "_law_e", "error"] ds) μ (fnE μ.length P) := by
  intro ds μ P PX h hm hc B E hE
  obtain ⟨go, a, b, c, e, w, rfl, hX, w0, w3, hyes, hno⟩ := h
  show DS K B _ [some (.tup [.str (kindS go), a, b, c, e]), some (.int w), none, none, none, none, none, none, none, none] μ _
  have hx : ("BadRow" : Str) ∈ excNames := by simp [excNames]
  unfold t_law_made
  refine q_asg ?_
  wtm_at "E"
  refine q_set ?_
  wtm_at "E"
  refine q_set ?_
  wtm_at "E"
  refine ds_cut (M := fun ρ2 μ2 => μ2 = μ ∧ ((∃ r, rowIs go a b c e r ∧ ρ2 = [some (.tup [.str (kindS go), a, b, c, e]), some (.int w), some (.str (kindS go)), some a, some b, some c, some e, some (rowD K r), some .non, none]) ∨ ((¬ ∃ r, rowIs go a b c e r) ∧ ρ2 = [some (.tup [.str (kindS go), a, b, c, e]), some (.int w), some (.str (kindS go)), some a, some b, some c, some e, some .non, some (.exc (He.ga K "BadRow") []), none]))) ?_ ?_
  · refine ds_try fun B' hB' W hW => ?_
    cases go with
    | false =>
      refine ds_if (dt_and (dt_test ?_))
      wtm_at "E"
      · refine ds_set (de_makeS hW da_nd (da_perm ?_))
        wtm_at "E"
        refine ⟨rfl, rfl, ?_⟩
        show c_Yearly_init K [.own μ.length, a, b, c] (μ ++ [.ins (cYe K) []]) _ _
        refine yeInit (e := e) mu_last hX.x (fun r hr => ?_) (fun hn => ?_)
        · exact ⟨rfl, yeF r.name r.many r.most, set_last, by simp [yeF, clF, D.cl], rfl, .inl ⟨r, hr, by rw [rowD_ye hr.hgo]; rfl⟩⟩
        · refine ⟨μ, [.ins (cYe K) []], rfl, rfl, hm, rfl, ke.re _ hx, ?_⟩
          refine ds_set ?_
          wtm_at "E"
          exact ⟨rfl, .inr ⟨hn, rfl⟩⟩
      · refine ds_if (dt_test ?_)
        wtm_at "E"
        refine ds_set (de_makeS hW da_nd ?_)
        wtm_at "E"
        show c_Yearly_init K [.own μ.length, a, b, c] (μ ++ [.ins (cYe K) []]) _ _
        refine yeInit (e := e) mu_last hX.x (fun r hr => ?_) (fun hn => ?_)
        · exact ⟨rfl, yeF r.name r.many r.most, set_last, by simp [yeF, clF, D.cl], rfl, .inl ⟨r, hr, by rw [rowD_ye hr.hgo]; rfl⟩⟩
        · refine ⟨μ, [.ins (cYe K) []], rfl, rfl, hm, rfl, ke.re _ hx, ?_⟩
          refine ds_set ?_
          wtm_at "E"
          exact ⟨rfl, .inr ⟨hn, rfl⟩⟩
    | true =>
      refine ds_if (dt_and (dt_test ?_))
      wtm_at "E"
      refine ds_if (dt_test ?_)
      wtm_at "E"
      refine ds_if (dt_test ?_)
      wtm_at "E"
      · refine ds_set (de_makeS hW da_nd ?_)
        wtm_at "E"
        show c_Going_init K [.own μ.length, a, b, c, e] (μ ++ [.ins (cGo K) []]) _ _
        refine goInit mu_last hX.x hX.de (fun r hr => ?_) (fun hn μ' hμ => ?_)
        · exact ⟨rfl, goF r.name r.many r.most r.begin, set_last, by simp [goF, clF, D.cl], rfl, .inl ⟨r, hr, by rw [rowD_go hr.hgo]; rfl⟩⟩
        · obtain ⟨gs, e0⟩ : ∃ gs, μ' = μ ++ [MO.ins (cGo K) gs] := by
            rcases hμ with rfl | ⟨gs, _, rfl⟩
            · exact ⟨[], rfl⟩
            · exact ⟨gs, set_last⟩
          refine ⟨μ, [.ins (cGo K) gs], e0, rfl, hm, rfl, ke.re _ hx, ?_⟩
          refine ds_set ?_
          wtm_at "E"
          exact ⟨rfl, .inr ⟨hn, rfl⟩⟩
      have kwd : DS K B' (tAsg (tMakeS (He.ga K "Going") (spD K (c_Going_init K)) [] (WE W) (tPerm 2 2 [1, 0] (tCons (tVar 3) (tCons (tVar 4) tNil)) (tCons (tVar 6) (tCons (tVar 5) tNil)))) (gName 7)) [some (.tup [.str (kindS true), a, b, c, e]), some (.int w), some (.str (kindS true)), some a, some b, some c, some e, some .non, some .non, none] μ { fnE μ.length P with nx := fun ρ2 μ2 => μ2 = μ ∧ ((∃ r, rowIs true a b c e r ∧ ρ2 = [some (.tup [.str (kindS true), a, b, c, e]), some (.int w), some (.str (kindS true)), some a, some b, some c, some e, some (rowD K r), some .non, none]) ∨ ((¬ ∃ r, rowIs true a b c e r) ∧ ρ2 = [some (.tup [.str (kindS true), a, b, c, e]), some (.int w), some (.str (kindS true)), some a, some b, some c, some e, some .non, some (.exc (He.ga K "BadRow") []), none])) } := by
        refine ds_set (de_makeS hW da_nd (da_perm ?_))
        wtm_at "E"
        refine ⟨rfl, rfl, ?_⟩
        show c_Going_init K [.own μ.length, a, b, c, e] (μ ++ [.ins (cGo K) []]) _ _
        refine goInit mu_last hX.x hX.de (fun r hr => ?_) (fun hn μ' hμ => ?_)
        · exact ⟨rfl, goF r.name r.many r.most r.begin, set_last, by simp [goF, clF, D.cl], rfl, .inl ⟨r, hr, by rw [rowD_go hr.hgo]; rfl⟩⟩
        · obtain ⟨gs, e0⟩ : ∃ gs, μ' = μ ++ [MO.ins (cGo K) gs] := by
            rcases hμ with rfl | ⟨gs, _, rfl⟩
            · exact ⟨[], rfl⟩
            · exact ⟨gs, set_last⟩
          refine ⟨μ, [.ins (cGo K) gs], e0, rfl, hm, rfl, ke.re _ hx, ?_⟩
          refine ds_set ?_
          wtm_at "E"
          exact ⟨rfl, .inr ⟨hn, rfl⟩⟩
      refine ds_if (dt_and (dt_test ?_))
      wtm_at "E"
      · refine de_callS hW ?_
        wtm_at "E"
        refine ⟨e, 0, 0, rfl, hX.de, ?_⟩
        refine ⟨_, rfl, fun he => ?_, fun _ => kwd⟩
        have he : e = .int 0 := by
          cases e <;> simp [isNum] at he
          rename_i i
          rw [show i = 0 by omega]
        subst he
        refine ds_set (de_makeS hW (fun _ _ => .cons (.int 0) .nil) ?_)
        wtm_at "E"
        show c_Going_init K [.own μ.length, a, b, c, .int 0] (μ ++ [.ins (cGo K) []]) _ _
        refine goInit mu_last hX.x hX.de (fun r hr => ?_) (fun hn μ' hμ => ?_)
        · exact ⟨rfl, goF r.name r.many r.most r.begin, set_last, by simp [goF, clF, D.cl], rfl, .inl ⟨r, hr, by rw [rowD_go hr.hgo]; rfl⟩⟩
        · obtain ⟨gs, e0⟩ : ∃ gs, μ' = μ ++ [MO.ins (cGo K) gs] := by
            rcases hμ with rfl | ⟨gs, _, rfl⟩
            · exact ⟨[], rfl⟩
            · exact ⟨gs, set_last⟩
          refine ⟨μ, [.ins (cGo K) gs], e0, rfl, hm, rfl, ke.re _ hx, ?_⟩
          refine ds_set ?_
          wtm_at "E"
          exact ⟨rfl, .inr ⟨hn, rfl⟩⟩
      · exact kwd
  rintro ρ2 μ2 ⟨rfl, ⟨r, hr, rfl⟩ | ⟨hn, rfl⟩⟩
  · refine ds_ret ?_
    wtm_at "E"
    exact ret_same0 (Nat.le_refl _) hm (by simp [D.cl, clL, rowD_cl]) (hyes r hr)
  · refine ds_ret ?_
    wtm_at "E"
    exact ret_same0 (Nat.le_refl _) hm (by simp [D.cl, clL, clF]) (hno hn)
end
theorem cutS_init {z : Str} : (cutS z none (some (-1))).cps.toList = z.cps.toList.take (z.cps.toList.length - 1) := by
  unfold cutS
  simp only [List.toList_toArray]
  rw [HT.sIx_none]
  simp only [List.drop_zero, Nat.sub_zero]
  have e : z.length = z.cps.toList.length := by simp [Str.length]
  rw [e]
  have : HT.sIx z.cps.toList.length z.cps.toList.length (some (-1)) = z.cps.toList.length - 1 := by
    unfold HT.sIx
    simp
    omega
  rw [this]
theorem add_cps23 (a b : Str) : (a ++ b).cps.toList = a.cps.toList ++ b.cps.toList := by
  have e : (a ++ b).cps = a.cps ++ b.cps := rfl
  rw [e, Array.toList_append]
theorem len_cps23 (a : Str) : a.length = a.cps.toList.length := by simp [Str.length]
/-- the name with another last letter -/
def lastS (n : Str) (l : Nat) : Str := cutS n none (some (-1)) ++ ⟨#[if l = 122 then 113 else 122]⟩
theorem lastS_ok {n : Str} {l : Nat} (h : nameOk n) (hl : n.cps.toList.getLast? = some l) : nameOk (lastS n l) ∧ lastS n l ≠ n := by
  obtain ⟨h1, h2, h3⟩ := h
  rw [len_cps23] at h1 h2
  have e : (lastS n l).cps.toList = n.cps.toList.take (n.cps.toList.length - 1) ++ [if l = 122 then 113 else 122] := by
    unfold lastS
    rw [add_cps23, cutS_init]
  refine ⟨⟨?_, ?_, fun c hc => ?_⟩, fun q => ?_⟩
  · rw [len_cps23, e]; simp
  · rw [len_cps23, e]; simp; omega
  · rw [e] at hc
    rcases List.mem_append.mp hc with z | z
    · exact h3 c (List.mem_of_mem_take z)
    · rw [List.mem_singleton] at z
      subst z
      split <;> decide
  · have := congrArg (fun s : Str => s.cps.toList.getLast?) q
    simp only [e, hl, List.getLast?_append, List.getLast?_singleton, Option.some_or, Option.some.injEq] at this
    split at this <;> omega
section
variable {K : PySem.W.Frag}
set_option maxHeartbeats 1000000 in
theorem d_law_others : ∀ ds μ P PX, c_law_others K ds μ P PX → MuCl μ μ.length → clL ds μ.length = true → ∀ B E, XAg K B (RetX μ.length PX) E → DS K B (t_law_others K E) (startD ["_law_row", "_law_kind", "_law_title_here", "_law_often", "_law_top", "_law_start", "_law_more", "_law_found"] ds) μ (fnE μ.length P) := by
  intro ds μ P PX h hm hc B E hE
  obtain ⟨r, e, rfl, gr, he, h⟩ := h
  show DS K B _ [some (.tup [.str (kindS r.going), .str r.name, .int r.many, .int r.most, e]), none, none, none, none, none, none, none] μ _
  have n1 := gr.name.1; have n2 := gr.name.2.1
  have m0 := gr.m0; have m1 := gr.m1; have t0 := gr.t0; have t1 := gr.t1; have b0 := gr.b0; have b1 := gr.b1
  unfold t_law_others
  refine q_asg ?_
  wtm_at "E"
  refine ds_cut (M := fun ρ1 μ1 => ρ1 = [some (.tup [.str (kindS r.going), .str r.name, .int r.many, .int r.most, e]), some (.str (kindS r.going)), some (.str r.name), some (.int r.many), some (.int r.most), some (.int r.begin), none, none] ∧ μ1 = μ) ?_ ?_
  · refine s_when (dt_test ?_)
    wtm_at "E"
    refine ro_eqS (kindS_ok r.going) (by decide +kernel) ?_
    refine ⟨_, rfl, ?_⟩
    cases hg : r.going with
    | false =>
      refine ⟨fun _ => ?_, fun z => absurd z (by decide +kernel)⟩
      refine ds_set ?_
      wtm_at "E"
      have := gr.yb hg
      exact ⟨by rw [this]; rfl, rfl⟩
    | true =>
      refine ⟨fun z => absurd z (by decide +kernel), fun _ => ?_⟩
      rw [he hg]
      exact ⟨rfl, rfl⟩
  rintro ρ1 μ1 ⟨rfl, rfl⟩
  generalize hrow : D.tup [.str (kindS r.going), .str r.name, .int r.many, .int r.most, e] = row
  refine q_set ?_
  wtm_at "E"
  refine ds_cut (M := fun ρ1 μ2 => True ∧ ∃ m : Int, ρ1 = [some row, some (.str (kindS r.going)), some (.str r.name), some (.int r.many), some (.int r.most), some (.int r.begin), some (.int m), none] ∧ μ2 = μ1 ∧ 1 ≤ m ∧ m ≤ 1000000 ∧ m ≠ r.many) ?_ ?_
  · refine s_when (dt_test ?_)
    wtm_at "E"
    · rename_i hq
      have hq : r.many = 1000000 := by simpa using hq
      refine ds_set ?_
      wtm_at "E"
      exact ⟨trivial, _, rfl, rfl, by omega, by omega, by omega⟩
    · rename_i hq
      have hq : ¬ r.many = 1000000 := by simpa using hq
      exact ⟨trivial, _, rfl, rfl, by omega, by omega, by omega⟩
  rintro ρ1 μ2 ⟨_, m, rfl, rfl, mm0, mm1, mmn⟩
  obtain ⟨l, hlast⟩ : ∃ l, r.name.cps.toList.getLast? = some l := by
    cases q : r.name.cps.toList.getLast? with
    | none =>
      rw [List.getLast?_eq_none_iff] at q
      rw [len_cps23, q] at n1
      cases n1
    | some l => exact ⟨l, rfl⟩
  have hll : l ∈ letters := gr.name.2.2 l (List.mem_of_getLast? hlast)
  have hl23 : l < 1114112 := by
    unfold letters at hll
    simp at hll
    omega
  have atl : atI r.name.cps.toList (-1) = some l := atI_neg1 hlast
  obtain ⟨lok, lne⟩ := lastS_ok gr.name hlast
  refine q_set (de_lstZ ?_)
  refine da_cons (de_tupZ ?_)
  wtm_at "E"
  refine rs_anyS (by omega) ?_
  wtm_at "E"
  refine ro_ixS (by omega) atl ?_
  wtm_at "E"
  refine ro_eqS (strOk_iff.mpr (by simpa using hl23)) (by decide +kernel) ?_
  wtm_at "E"
  refine rc_intB ?_
  have hz : (({ cps := #[l] } : Str) = Str.ofString "z") ↔ l = 122 := by
    constructor
    · intro q
      have h1 : ({ cps := #[l] } : Str).cps.toList.head? = (Str.ofString "z").cps.toList.head? := by rw [q]
      rw [show (Str.ofString "z").cps.toList.head? = some 122 by decide +kernel] at h1
      exact Option.some.inj h1
    · rintro rfl
      rfl
  have hix : atI ("zq" : Str).cps.toList (if decide (({ cps := #[l] } : Str) = Str.ofString "z") = true then 1 else 0) = some (if l = 122 then 113 else 122) := by
    by_cases q : l = 122
    · rw [decide_eq_true (hz.mpr q), if_pos q]; rfl
    · rw [decide_eq_false (fun x => q (hz.mp x)), if_neg q]; rfl
  refine ro_ixS (by decide +kernel) hix ?_
  have lc : (cutS r.name none (some (-1))).length ≤ 8 := by
    rw [len_cps23, cutS_init, List.length_take, ← len_cps23]; omega
  refine ro_addS (by show _ + 1 ≤ 100000; omega) ?_
  wtm_at "E"
  show DS K B _ [some row, some (.str (kindS r.going)), some (.str r.name), some (.int r.many), some (.int r.most), some (.int r.begin), some (.int m), some (.lst [rowTup r.going (.str (lastS r.name l)) (.int r.many) (.int r.most) (.int r.begin)])] _ _
  refine q_set (de_op ?_)
  wtm_at "E"
  refine de_lstZ ?_
  wtm_at "E"
  refine ro_addLO (.lst _) (.lst _) (by simp) ?_
  have g1 : GRw { r with name := lastS r.name l } := ⟨lok, m0, m1, t0, t1, b0, b1, gr.yb⟩
  have g2 : GRw { r with many := m, begin := min r.begin (m - 1) } := ⟨gr.name, mm0, mm1, t0, t1, by show 0 ≤ min r.begin (m - 1); omega, by show min r.begin (m - 1) < m; omega, fun z => by show min r.begin (m - 1) = 0; have := gr.yb z; omega⟩
  have g3 : GRw { r with most := 1 + r.most % 9 } := ⟨gr.name, m0, m1, by show 1 ≤ 1 + r.most % 9; omega, by show 1 + r.most % 9 ≤ 9; omega, b0, b1, gr.yb⟩
  have qok : ∀ q ∈ [{ r with name := lastS r.name l }, { r with many := m, begin := min r.begin (m - 1) }, { r with most := 1 + r.most % 9 }], GRw q ∧ q.going = r.going ∧ q ≠ r := fun q hq => by
    simp only [List.mem_cons, List.not_mem_nil, or_false] at hq
    rcases hq with rfl | rfl | rfl
    · exact ⟨g1, rfl, fun z => lne (congrArg RwT.name z)⟩
    · exact ⟨g2, rfl, fun z => mmn (congrArg RwT.many z)⟩
    · exact ⟨g3, rfl, fun z => by have : 1 + r.most % 9 = r.most := congrArg RwT.most z; omega⟩
  have fin : ∀ qs : List RwT, qs.length ≤ 5 → (∀ q ∈ qs, GRw q ∧ q.going = r.going ∧ q ≠ r) → DS K B (tRet (tVar 7)) [some row, some (.str (kindS r.going)), some (.str r.name), some (.int r.many), some (.int r.most), some (.int r.begin), some (.int m), some (.own μ2.length)] (μ2 ++ [.lst (qs.map rowP)]) (fnE μ2.length P) := fun qs h1 h2 => by
    refine ds_freeze (i := 7) (k := μ2.length) (by rfl) mu_last ?_
    rw [set_last]
    refine ds_ret ?_
    wtm_at "E"
    refine ret_same (Nat.le_refl _) hm ?_ (h qs h1 h2)
    rw [D.cl]
    exact clL_map fun q _ => by simp [rowP, rowTup, D.cl, clL]
  show DS K B _ [some row, some (.str (kindS r.going)), some (.str r.name), some (.int r.many), some (.int r.most), some (.int r.begin), some (.int m), some (.own μ2.length)] (μ2 ++ [.lst ([{ r with name := lastS r.name l }, { r with many := m, begin := min r.begin (m - 1) }, { r with most := 1 + r.most % 9 }].map rowP)]) _
  refine ds_cut (M := fun ρ1 μ3 => True ∧ ∃ qs : List RwT, ρ1 = [some row, some (.str (kindS r.going)), some (.str r.name), some (.int r.many), some (.int r.most), some (.int r.begin), some (.int m), some (.own μ2.length)] ∧ μ3 = μ2 ++ [.lst (qs.map rowP)] ∧ qs.length ≤ 5 ∧ ∀ q ∈ qs, GRw q ∧ q.going = r.going ∧ q ≠ r) ?_ ?_
  · refine s_when (dt_and (dt_test ?_))
    wtm_at "E"
    refine ro_eqS (kindS_ok r.going) (by decide +kernel) ?_
    refine ⟨_, rfl, ?_⟩
    cases hg : r.going with
    | false =>
      refine ⟨fun z => absurd z (by decide +kernel), fun _ => ⟨fun z => (nomatch z), fun _ => ?_⟩⟩
      exact ⟨trivial, _, rfl, rfl, by simp, by rw [hg] at qok; exact qok⟩
    | true =>
      refine ⟨fun _ => ?_, fun z => absurd z (by decide +kernel)⟩
      wtm_at "E"
      · rename_i hmany
        refine ds_drop (de_bm ?_)
        wtm_at "E"
        refine ⟨ty_list (.own mu_last), ?_⟩
        wtm_at "E"
        refine rm_app mu_last (by simp) ?_
        rw [set_last]
        have g4 : GRw { going := true, name := r.name, many := r.many, most := r.most, begin := (r.begin + 1) % r.many } := ⟨gr.name, m0, m1, t0, t1, by show 0 ≤ (r.begin + 1) % r.many; exact Int.emod_nonneg _ (by omega), by show (r.begin + 1) % r.many < r.many; exact Int.emod_lt_of_pos _ (by omega), fun z => (nomatch z)⟩
        have hne : (r.begin + 1) % r.many ≠ r.begin := by
          rcases (show r.begin + 1 < r.many ∨ r.begin + 1 = r.many by omega) with z | z
          · rw [Int.emod_eq_of_lt (by omega) z]; omega
          · rw [z, Int.emod_self]; omega
        rw [hg] at qok
        refine ⟨trivial, [{ going := true, name := lastS r.name l, many := r.many, most := r.most, begin := r.begin }, { going := true, name := r.name, many := m, most := r.most, begin := min r.begin (m - 1) }, { going := true, name := r.name, many := r.many, most := 1 + r.most % 9, begin := r.begin }] ++ [{ going := true, name := r.name, many := r.many, most := r.most, begin := (r.begin + 1) % r.many }], rfl, by rw [List.map_append]; rfl, by simp, fun q hq => ?_⟩
        rcases List.mem_append.mp hq with z | z
        · exact qok q z
        · rw [List.mem_singleton] at z
          subst z
          exact ⟨g4, rfl, fun y => hne (congrArg RwT.begin y)⟩
      · exact ⟨trivial, _, rfl, rfl, by simp, by rw [hg] at qok; exact qok⟩
  rintro ρ1 μ3 ⟨_, qs, rfl, rfl, hl, hq⟩
  exact fin qs hl hq
end
structure KIsR (K : PySem.W.Frag) : Prop where
  og : ObT K (cGo K)
  oy : ObT K (cYe K)
  ig : PySem.W.kitOne K (.ref (cGo K)) (.ref (He.ga K "Row")) = some true
  iy : PySem.W.kitOne K (.ref (cYe K)) (.ref (He.ga K "Row")) = some true
section
variable {K : PySem.W.Frag}
theorem de_yearly23 {B : Bs} {E : XK} {PX : PXT} {ts : TA} {ρ : En} {μ : Mu} {P : D → Mu → Prop} (hE : XAg K B PX E) (h : DA K B ts ρ μ fun ds μ1 => True ∧ ∃ r : RwT, ds = [.str r.name, .int r.many, .int r.most] ∧ r.going = false ∧ GRw r ∧ P (rowD K r) μ1) : DE K B (tMake (He.ga K "Yearly") (spD K (c_Yearly_init K)) [] E ts) ρ μ P := de_yearly hE (da_imp h fun _ _ p => p.2)
theorem de_going3 {B : Bs} {E : XK} {PX : PXT} {ts : TA} {ρ : En} {μ : Mu} {P : D → Mu → Prop} (hE : XAg K B PX E) (h : DA K B ts ρ μ fun ds μ1 => True ∧ ∃ r : RwT, ds = [.str r.name, .int r.many, .int r.most] ∧ r.going = true ∧ r.begin = 0 ∧ GRw r ∧ P (rowD K r) μ1) : DE K B (tMake (He.ga K "Going") (spD K (c_Going_init K)) [.int (0)] E ts) ρ μ P := by
  refine de_make hE (fun _ _ => .cons (.int 0) .nil) ?_
  refine da_imp h fun ds μ1 p1 => ?_
  obtain ⟨_, r, rfl, hg, hb, hr, p⟩ := p1
  show c_Going_init K [.own μ1.length, .str r.name, .int r.many, .int r.most, .int 0] (μ1 ++ [.ins (cGo K) []]) _ _
  have hi : rowIs true (.str r.name) (.int r.many) (.int r.most) (.int 0) r := ⟨hr, hg, rfl, rfl, rfl, fun _ => by rw [hb]⟩
  refine goInit mu_last (.ok hr.name) rfl (fun q hq => ?_) (fun hn => absurd ⟨r, hi⟩ hn)
  have eq := hq.uniq hi
  subst eq
  refine ⟨rfl, goF q.name q.many q.most q.begin, set_last, by simp [goF, clF, D.cl], ?_⟩
  rw [rowD_go hg] at p
  exact p
theorem cal_dat23 (ls : List Int) : (intsD ls).dat = true := by
  unfold intsD D.dat
  rw [datL_iff]
  intro x hx
  obtain ⟨s, _, rfl⟩ := List.mem_map.mp hx
  rfl
theorem clF_cal23 (ls : List Int) (n : Nat) : clF (calF ls) n = true := by simp only [clF, calF, D.cl, intsD, cl_ints, Bool.and_self]
theorem Fz.app23 {μ : Mu} {x d : D} (h : Fz μ x d) (ext : Mu) : Fz (μ ++ ext) x d := by
  cases h with
  | id => exact .id _
  | own h => exact .own (mu_old h)
/-- Calendar(..) -/
theorem de_cal23 {B : Bs} {E : XK} {PX : PXT} {ts : TA} {ρ : En} {μ : Mu} {P : D → Mu → Prop} (hE : XAg K B PX E) (h : DA K B ts ρ μ fun ds μ1 => True ∧ ∃ x ls, ds = [x] ∧ Fz μ1 x (intsD ls) ∧ GCal ls ∧ P (calD K ls) μ1) : DE K B (tMake (He.ga K "Calendar") (spD K (c_Calendar_init K)) [] E ts) ρ μ P := by
  refine de_make hE da_nd ?_
  refine fun σ G H al hB hσ hA Q hQ => h σ G H al hB hσ hA Q fun vs ds μ1 G1 H1 al1 n1 A1 r1 p1 => hQ vs ds μ1 G1 H1 al1 n1 A1 r1 ?_
  obtain ⟨_, x, ls, rfl, fz, hg, p⟩ := p1
  have fz' := fz.app23 [MO.ins (He.ga K "Calendar") []]
  refine ⟨_, x, intsD ls, rfl, mu_last, fz', cal_dat23 ls, fun ls' e hg' => ⟨rfl, calF ls, ?_, clF_cal23 ls _, p⟩, fun e => ?_⟩
  · have : ls' = ls := by
      unfold intsD at e
      injection e with e
      exact (List.map_inj_right (fun a b h => by injection h)).mp e.symm
    subst this
    exact set_last
  · exact absurd (areNums_of hg) (by rw [e]; simp)
set_option maxHeartbeats 2000000 in
theorem d_law_is_told (ki : KIsR K) (kg : KEq K "Going") (ky : KEq K "Yearly") (n1 : KNe K "Going" "Yearly") (n2 : KNe K "Yearly" "Going") (n3 : KNe K "Going" "Calendar") (n4 : KNe K "Yearly" "Calendar") : ∀ ds μ P PX, c_law_is_told K ds μ P PX → MuCl μ μ.length → clL ds μ.length = true → ∀ B E, XAg K B (RetX μ.length PX) E → DS K B (t_law_is_told K E) (startD ["_law_found", "_law_row", "_law_due", "_law_other", "_law_more", "_law_one", "_law_near"] ds) μ (fnE μ.length P) := by
  intro ds μ P PX h hm hc B E hE
  obtain ⟨r, e, rfl, gr, hed, he, h⟩ := h
  show DS K B _ [some (rowD K r), some (.tup [.str (kindS r.going), .str r.name, .int r.many, .int r.most, e]), none, none, none, none, none] μ _
  have m0 := gr.m0; have m1 := gr.m1; have t0 := gr.t0; have t1 := gr.t1; have b0 := gr.b0; have b1 := gr.b1
  have hIs : rowIs r.going (.str r.name) (.int r.many) (.int r.most) e r := ⟨gr, rfl, rfl, rfl, rfl, he⟩
  have hY : RowY (.str r.name) (.int r.many) (.int r.most) e := ⟨.ok gr.name, fun s z => by cases z; exact ⟨by have := gr.name.2.1; omega, gr.name.strOk⟩, hed⟩
  have psh := parts_shp gr
  unfold t_law_is_told
  refine q_set (de_is (d0 := .tup (partsR r)) ?_ ?_)
  · refine de_if (dt_test ?_)
    wtm_at "E"
    refine ro_eqS (kindS_ok r.going) (by decide +kernel) ?_
    refine ⟨_, rfl, ?_⟩
    cases hg : r.going with
    | true =>
      refine ⟨fun _ => ?_, fun z => absurd z (by decide +kernel)⟩
      wtm_at "E"
      refine ⟨?_, rfl⟩
      rw [he hg, partsR_go hg]
      rfl
    | false =>
      refine ⟨fun z => absurd z (by decide +kernel), fun _ => ?_⟩
      wtm_at "E"
      refine rs_anyT (.tup _) (show ¬ (HT.sIx 5 0 none = 0 ∧ HT.sIx 5 5 (some 4) = 5) by decide) ?_
      refine ⟨?_, rfl⟩
      rw [partsR_ye hg]
      rfl
  have told : ∀ {ρ : En} {Q : D → Mu → Prop}, ρ[0]? = some (some (rowD K r)) → Q (.tup (partsR r)) μ → DE K B (tOrE (tMeth (He.ga K "Going") "told" (spD K (c_Going_told K)) [] E (tVar 0) tNil) (tMeth (He.ga K "Yearly") "told" (spD K (c_Yearly_told K)) [] E (tVar 0) tNil)) ρ μ Q := fun h0 hq => by
    refine de_rowM (r := r) ⟨fun _ _ _ _ => rfl, fun _ _ _ => rfl⟩ hE (fun P' hP => de_var h0 hP) ?_
    refine da_nil ⟨fun hg => ⟨r, rfl, hg, ?_⟩, fun hg => ⟨r, rfl, hg, ?_⟩⟩
    · rw [partsR_go hg] at hq; exact hq
    · rw [partsR_ye hg] at hq; exact hq
  refine q_when (dt_or (dt_not (dt_truth (de_cb ?_))))
  wtm_at "g"
  have isR : ∀ {Q : D → Mu → Prop}, Q (.bl true) μ → RC K (rIsi K) [rowD K r, .loc (He.ga K "Row")] μ Q := fun hq => by
    cases hg : r.going with
    | true => rw [rowD_go hg]; exact rc_isi (.obj ki.og) (.loc _) ki.ig hq
    | false => rw [rowD_ye hg]; exact rc_isi (.obj ki.oy) (.loc _) ki.iy hq
  refine isR ?_
  refine ⟨_, rfl, fun _ => ?_, fun z => (nomatch z)⟩
  refine dt_or (dt_test (de_op ?_))
  refine told rfl ?_
  wtm_at "E"
  refine ro_neD (n := 1) (m := 1) (.id _) (.id _) psh psh ?_
  rw [eqvD_refl psh]
  refine ⟨_, rfl, fun _ => ?_, fun z => (nomatch z)⟩
  refine dt_not (dt_truth (de_cb (da_cons ?_)))
  refine told rfl ?_
  wtm_at "E"
  -- its class alone
  have isG : ∀ {Q : D → Mu → Prop}, Q (.bl r.going) μ → RC K (rIsi K) [rowD K r, .loc (He.ga K "Going")] μ Q := fun hq => by
    cases hg : r.going with
    | true => rw [rowD_go hg]; rw [hg] at hq; exact rc_isi (.obj kg.ob) (.loc _) kg.is hq
    | false => rw [rowD_ye hg]; rw [hg] at hq; exact rc_isi (.obj n1.ob) (.loc _) n1.is hq
  have isY : ∀ {Q : D → Mu → Prop}, Q (.bl (!r.going)) μ → RC K (rIsi K) [rowD K r, .loc (He.ga K "Yearly")] μ Q := fun hq => by
    cases hg : r.going with
    | true => rw [rowD_go hg]; rw [hg] at hq; exact rc_isi (.obj n2.ob) (.loc _) n2.is hq
    | false => rw [rowD_ye hg]; rw [hg] at hq; exact rc_isi (.obj ky.ob) (.loc _) ky.is hq
  have kG : decide (kindS r.going = Str.ofString "going") = r.going := by cases r.going <;> decide +kernel
  have kY : decide (kindS r.going = Str.ofString "yearly") = !r.going := by cases r.going <;> decide +kernel
  refine q_when (dt_or (dt_test (de_op (de_cb ?_))))
  wtm_at "E"
  refine isG ?_
  wtm_at "E"
  refine ro_eqS (kindS_ok r.going) (by decide +kernel) ?_
  rw [kG]
  refine ro_neB ?_
  refine ⟨_, rfl, fun _ => ?_, fun z => absurd z (by simp)⟩
  refine dt_test (de_op (de_cb ?_))
  wtm_at "E"
  refine isY ?_
  wtm_at "E"
  refine ro_eqS (kindS_ok r.going) (by decide +kernel) ?_
  rw [kY]
  refine ro_neB ?_
  refine ⟨_, rfl, fun z => absurd z (by simp), fun _ => ?_⟩
  refine q_set (de_going3 hE ?_)
  wtm_at "E"
  refine ⟨trivial, ⟨true, r.name, r.many, r.most, 0⟩, rfl, rfl, rfl, ⟨gr.name, m0, m1, t0, t1, Int.le_refl _, by show (0 : Int) < r.many; omega, fun z => (nomatch z)⟩, ?_⟩
  generalize hrow : D.tup [.str (kindS r.going), .str r.name, .int r.many, .int r.most, e] = row
  refine ds_cut (M := fun ρ1 μ1 => True ∧ ∃ q : RwT, ρ1 = [some (rowD K r), some row, some (.tup (partsR r)), some (rowD K q), none, none, none] ∧ μ1 = μ ∧ GRw q ∧ q.going = !r.going) ?_ ?_
  · refine s_when (dt_test ?_)
    subst hrow
    wtm_at "E"
    refine ro_eqS (kindS_ok r.going) (by decide +kernel) ?_
    rw [kG]
    refine ⟨_, rfl, fun hg => ?_, fun hg => ?_⟩
    · refine ds_set (de_yearly23 hE ?_)
      wtm_at "E"
      refine ⟨trivial, ⟨false, r.name, r.many, r.most, 0⟩, rfl, rfl, ⟨gr.name, m0, m1, t0, t1, Int.le_refl _, by show (0 : Int) < r.many; omega, fun _ => rfl⟩, ?_⟩
      exact ⟨trivial, _, rfl, rfl, ⟨gr.name, m0, m1, t0, t1, Int.le_refl _, by show (0 : Int) < r.many; omega, fun _ => rfl⟩, by rw [hg]; rfl⟩
    · exact ⟨trivial, _, rfl, rfl, ⟨gr.name, m0, m1, t0, t1, Int.le_refl _, by show (0 : Int) < r.many; omega, fun z => (nomatch z)⟩, by rw [hg]; rfl⟩
  rintro ρ1 μ1 ⟨_, q, rfl, rfl, gq, hqg⟩
  have rq : decide (r = q) = false := decide_eq_false fun z => by rw [← z] at hqg; cases hh : r.going <;> rw [hh] at hqg <;> cases hqg
  have qr : decide (q = r) = false := decide_eq_false fun z => by rw [z] at hqg; cases hh : r.going <;> rw [hh] at hqg <;> cases hqg
  subst hrow
  obtain ⟨q2, hq2⟩ : ∃ q2 : RwT, q2 = ⟨false, r.name, r.many, 10 - r.most, 0⟩ := ⟨_, rfl⟩
  have g2 : GRw q2 := by
    rw [hq2]
    exact ⟨gr.name, m0, m1, by show 1 ≤ 10 - r.most; omega, by show 10 - r.most ≤ 9; omega, Int.le_refl _, by show (0 : Int) < r.many; omega, fun _ => rfl⟩
  have hrq2 : decide (r = q2) = (!r.going && decide (r.most = 5)) := by
    rw [Bool.eq_iff_iff]
    simp only [decide_eq_true_eq, Bool.and_eq_true, Bool.not_eq_true']
    constructor
    · intro z
      rw [hq2] at z
      have z1 := congrArg RwT.going z
      have z2 : r.most = 10 - r.most := congrArg RwT.most z
      exact ⟨z1, by omega⟩
    · rintro ⟨z1, z2⟩
      have z3 := gr.yb z1
      rw [hq2]
      obtain ⟨o, n, m, t, s⟩ := r
      simp at z1 z2 z3
      subst z1 z2 z3
      rfl
  refine q_set (de_yearly23 hE ?_)
  wtm_at "E"
  refine ⟨trivial, q2, by rw [hq2], by rw [hq2], g2, ?_⟩
  refine ds_cut (M := fun ρ1 μ2 => ρ1 = [some (rowD K r), some (.tup [.str (kindS r.going), .str r.name, .int r.many, .int r.most, e]), some (.tup (partsR r)), some (rowD K q), some (rowD K q2), none, none] ∧ μ2 = μ1) ?_ ?_
  · refine s_when (dt_test (de_op (de_op ?_)))
    wtm_at "E"
    refine ro_rowEqR kg ky n1 n2 gr g2 ?_
    refine de_andV ?_
    wtm_at "E"
    refine ro_eqS (kindS_ok r.going) (by decide +kernel) ?_
    rw [kY, hrq2]
    refine ⟨_, rfl, fun hy => ?_, fun hy => ?_⟩
    · wtm_at "E"
      · rename_i hb
        exact absurd (by rw [hy, Bool.true_and]) hb
      · exact ⟨rfl, rfl⟩
    · rw [hy, Bool.false_and]
      refine ro_neB ?_
      exact ⟨_, rfl, fun z => absurd z (by simp), fun _ => ⟨rfl, rfl⟩⟩
  rintro ρ1 μ2 ⟨rfl, rfl⟩
  have madeSelf : ∀ {ρ : En} {Q : D → Mu → Prop}, ρ[1]? = some (some (.tup [.str (kindS r.going), .str r.name, .int r.many, .int r.most, e])) → Q (rowD K r) μ2 → DE K B (tOp (rIx K) (tCall (spD K (c_law_made K)) [] E (tCons (tVar 1) (tCons (tC (.int 2)) tNil))) (tC (.int 0))) ρ μ2 Q := fun h1 hq => by
    refine de_op (de_call hE ?_)
    refine da_cons (de_var h1 ?_)
    wtm_at "E"
    refine ⟨r.going, _, _, _, e, 2, rfl, hY, by omega, by omega, fun r' hr' => ?_, fun hn => absurd ⟨r, hIs⟩ hn⟩
    obtain rfl := hr'.uniq hIs
    wtm_at "E"
    exact hq
  refine q_when (dt_or (dt_test (de_op ?_)))
  wtm_at "E"
  refine ro_rowEqR kg ky n1 n2 gr gq ?_
  rw [rq]
  refine ⟨_, rfl, fun _ => ?_, fun z => (nomatch z)⟩
  refine dt_or (dt_test (de_op ?_))
  wtm_at "E"
  refine ro_rowEqR kg ky n1 n2 gq gr ?_
  rw [qr]
  refine ⟨_, rfl, fun _ => ?_, fun z => (nomatch z)⟩
  refine dt_or (dt_test (de_op ?_))
  refine de_var rfl ?_
  refine de_cal23 hE (da_cons (de_lstZ ?_))
  wtm_at "E"
  refine ⟨trivial, _, [2], rfl, .id _, ⟨by decide, by decide, by decide⟩, ?_⟩
  refine ro_rowEqC n3 n4 gr ?_
  refine ⟨_, rfl, fun _ => ?_, fun z => (nomatch z)⟩
  refine dt_not (dt_test (de_op ?_))
  refine de_var rfl ?_
  refine madeSelf rfl ?_
  refine ro_rowEqR kg ky n1 n2 gr gr ?_
  rw [show decide (r = r) = true from decide_eq_true rfl]
  refine ⟨_, rfl, fun z => (nomatch z), fun _ => ?_⟩
  generalize hrow : D.tup [.str (kindS r.going), .str r.name, .int r.many, .int r.most, e] = row
  refine ds_seq (ds_for (di_any (de_call hE ?_)))
  refine da_cons (de_var rfl (da_nil ?_))
  subst hrow
  refine ⟨r, e, rfl, gr, he, fun qs hql hqs => ?_⟩
  refine ⟨_, _, .lst _, ?_⟩
  refine ⟨fun i ρ' μ' => True ∧ ∃ (y5 y6 : Option D), ρ' = [some (rowD K r), some (.tup [.str (kindS r.going), .str r.name, .int r.many, .int r.most, e]), some (.tup (partsR r)), some (rowD K q), some (rowD K q2), y5, y6] ∧ μ' = μ2, ⟨trivial, none, none, rfl, rfl⟩, fun _ _ _ _ _ => trivial, ?_, ?_⟩
  · rintro i d ρ' μ' hi ⟨_, y5, y6, rfl, rfl⟩
    obtain ⟨p, hp, rfl⟩ : ∃ p, p ∈ qs ∧ d = rowP p := by
      have := List.mem_of_getElem? hi
      rw [List.mem_map] at this
      obtain ⟨p, h1, h2⟩ := this
      exact ⟨p, h1, h2.symm⟩
    obtain ⟨gp, pg, pn⟩ := hqs p hp
    have pI : rowIs p.going (.str p.name) (.int p.many) (.int p.most) (.int p.begin) p := ⟨gp, rfl, rfl, rfl, rfl, fun _ => rfl⟩
    have pY : RowY (.str p.name) (.int p.many) (.int p.most) (.int p.begin) := ⟨.ok gp.name, fun s z => by cases z; exact ⟨by have := gp.name.2.1; omega, gp.name.strOk⟩, rfl⟩
    have rp : decide (r = p) = false := decide_eq_false fun z => pn z.symm
    have pr : decide (p = r) = false := decide_eq_false pn
    refine dg_name ?_
    refine q_set (de_op (de_call hE ?_))
    refine da_cons (de_var rfl ?_)
    wtm_at "E"
    refine ⟨p.going, _, _, _, _, 2, rfl, pY, by omega, by omega, fun r' hr' => ?_, fun hn => absurd ⟨p, pI⟩ hn⟩
    obtain rfl := hr'.uniq pI
    wtm_at "E"
    refine ds_if (dt_or (dt_test (de_op ?_)))
    refine de_var rfl (de_var rfl ?_)
    refine ro_rowEqR kg ky n1 n2 gr gp ?_
    rw [rp]
    refine ⟨_, rfl, fun _ => ?_, fun z => (nomatch z)⟩
    refine dt_or (dt_test (de_op ?_))
    refine de_var rfl (de_var rfl ?_)
    refine ro_rowEqR kg ky n1 n2 gp gr ?_
    rw [pr]
    refine ⟨_, rfl, fun _ => ?_, fun z => (nomatch z)⟩
    refine dt_not (dt_test (de_op ?_))
    refine de_var rfl (de_var rfl ?_)
    refine ro_rowNeR kg ky gr gp pg ?_
    rw [rp]
    refine ⟨_, rfl, fun z => (nomatch z), fun _ => ?_⟩
    exact ds_next ⟨trivial, _, _, rfl, rfl⟩
  · rintro ρ' μ' ⟨_, y5, y6, rfl, rfl⟩
    refine ds_ret ?_
    wtm_at "E"
    exact ret_same0 (Nat.le_refl _) hm rfl h
end
def c_law (K : PySem.W.Frag) : CT := fun ds μ P PX => ∃ ns : List Int, ds = [.rdl (ns.map D.int)] ∧ ns.length ≤ 63 ∧ ∀ μ', P (.bl true) μ'
section
variable {K : PySem.W.Frag}
set_option maxHeartbeats 2000000 in
theorem d_law : ∀ ds μ P PX, c_law K ds μ P PX → MuCl μ μ.length → clL ds μ.length = true → ∀ B E, XAg K B (RetX μ.length PX) E → DS K B (t_law K E) (startD ["_law_script", "_law_draw", "_law_before", "_law_turn", "_law_kind", "_law_way", "_law_which", "_law_row", "_law_at", "_law_found", "_law_e"] ds) μ (fnE μ.length P) := by
  intro ds μ P PX h hm hc B E hE
  obtain ⟨nums, rfl, hl, h⟩ := h
  have fin : ∀ ext, Ret μ.length P (.bl true) (μ ++ ext) := fun ext => ret_same (Nat.le_refl _) hm rfl (h _)
  show DS K B _ [some (.rdl (nums.map D.int)), none, none, none, none, none, none, none, none, none, none] μ _
  unfold t_law
  refine q_set ?_
  wtm_at "E"
  refine ⟨nums, rfl, hl, fun s hs => ?_⟩
  have hd := dw0 (μ := μ) hs
  have hex : ∀ s', ∃ ext', dw (μ ++ [MO.dK (dwF (μ.length + 1) s), .lst (s.great.map D.int)]) μ.length (μ.length + 1) s' = μ ++ ext' := fun s' => by
    unfold dw
    rw [List.set_append_right _ _ (by omega), List.set_append_right _ _ (by simp)]
    exact ⟨_, rfl⟩
  have h00 := dw_same hd
  generalize μ ++ [MO.dK (dwF (μ.length + 1) s), .lst (s.great.map D.int)] = ν at hd hex h00
  generalize hkk : μ.length = k at hd hex fin h00
  have dd : ∀ {a : DwS} s, dw (dw ν k (k + 1) a) k (k + 1) s = dw ν k (k + 1) s := fun s => dw_dw hd.ne
  have hA : ∀ {s : DwS} (s' : DwS) (e : Mu), GDw s → dw (dw ν k (k + 1) s ++ e) k (k + 1) s' = dw ν k (k + 1) s' ++ e := fun s' e g => by rw [dw_app (hd.dw g), dd]
  have wA : ∀ {s : DwS} (e : Mu), GDw s → Dw k (k + 1) s (dw ν k (k + 1) s ++ e) := fun e g => (hd.dw g).app
  have hN : ∀ (s : DwS) (e : Mu), (dw ν k (k + 1) s ++ e).length = (ν ++ e).length := fun s e => by rw [List.length_append, List.length_append, dw_len]
  have gN : ∀ (s : DwS) (e : Mu) (o : MO), (dw ν k (k + 1) s ++ (e ++ [o]))[(ν ++ e).length]? = some o := fun s e o => by rw [← hN s, ← List.append_assoc]; exact mu_last
  have sN : ∀ (s : DwS) (e : Mu) (o o' : MO), (dw ν k (k + 1) s ++ (e ++ [o])).set (ν ++ e).length o' = dw ν k (k + 1) s ++ (e ++ [o']) := fun s e o o' => by rw [← hN s, ← List.append_assoc, ← List.append_assoc]; exact set_last
  have rY : ∀ {a b c e : D}, a.dat = true → (∀ s : Str, a = .str s → s.length ≤ 100 ∧ PyData.strOk s = true) → b.dat = true → c.dat = true → e.dat = true → RowY a b c e := fun h1 h2 h3 h4 h5 => ⟨⟨h1, fun s e => by have := (h2 s e).1; omega, h3, h4⟩, h2, h5⟩
  have ps : ∀ s : Str, D.str "psalm" = .str s → s.length ≤ 100 ∧ PyData.strOk s = true := fun s e => by cases e; exact ⟨by decide +kernel, by decide +kernel⟩
  refine q_set ?_
  wtm_at "E"
  refine q_for ?_
  wtm_at "E"
  refine ⟨by omega, by omega, ?_⟩
  refine ⟨fun i ρ' μ' => ∃ (s' : DwS) (b : D) (y3 y4 y5 y6 y7 y8 y9 y10 : Option D) (ext : Mu), ρ' = [some (.rdl (nums.map D.int)), some (.own k), some b, y3, y4, y5, y6, y7, y8, y9, y10] ∧ μ' = dw ν k (k + 1) s' ++ ext ∧ GDw s' ∧ (b = .non ∨ ∃ (r : RwT) (e : D), GRw r ∧ e.dat = true ∧ (r.going = true → e = .int r.begin) ∧ b = .tup [rowD K r, rowTup r.going (.str r.name) (.int r.many) (.int r.most) e]), ⟨s, .non, _, _, _, _, _, _, _, _, [], rfl, by rw [List.append_nil, h00], hs, .inl rfl⟩, fun _ _ _ _ _ => trivial, ?_, ?_⟩
  · rintro i d ρ' μ' hi ⟨s1, bf, y3, y4, y5, y6, y7, y8, y9, y10, ext, rfl, rfl, gs1, hb⟩
    refine dg_name ?_
    refine q_set ?_
    wtm_at "E"
    refine de_lstZ ?_
    wtm_at "E"
    refine ⟨k, k + 1, s1, _, _, rfl, wA _ gs1, .lst _, by simp, by simp, fun j kd s2 hj gs2 => ?_⟩
    rw [hA _ _ gs1]
    obtain ⟨go, rfl⟩ : ∃ go : Bool, kd = .str (kindS go) := by
      have := List.mem_of_getElem? hj
      simp only [List.mem_cons, List.not_mem_nil, or_false] at this
      rcases this with rfl | rfl
      · exact ⟨true, rfl⟩
      · exact ⟨false, rfl⟩
    refine q_set ?_
    wtm_at "E"
    refine ⟨k, k + 1, s2, 3, rfl, wA _ gs2, by omega, by omega, fun w s3 w0 w1 gs3 => ?_⟩
    rw [hA _ _ gs2]
    refine q_set ?_
    wtm_at "E"
    refine ⟨k, k + 1, s3, 5, rfl, wA _ gs3, by omega, by omega, fun wh s4 h0 h1 gs4 => ?_⟩
    rw [hA _ _ gs3]
    refine q_set (de_lstOZ ?_)
    wtm_at "E"
    rw [hN, List.append_assoc]
    refine ds_cut (M := fun ρ1 μ1 => True ∧ ∃ (a b c e : D) (s' : DwS) (y8 : Option D) (ext : Mu), ρ1 = [some (.rdl (nums.map D.int)), some (.own k), some bf, some d, some (.str (kindS go)), some (.int w), some (.int wh), some (.own (ν ++ ext).length), y8, y9, y10] ∧ μ1 = dw ν k (k + 1) s' ++ (ext ++ [.lst [.str (kindS go), a, b, c, e]]) ∧ GDw s' ∧ RowY a b c e) ?_ ?_
    · refine ds_if (dt_test ?_)
      wtm_at "E"
      · refine q_set (de_lstOZ ?_)
        wtm_at "E"
        refine ⟨k, k + 1, s4, rfl, wA _ gs4, fun a s5 a1 _ a3 gs5 => ?_⟩
        rw [hA _ _ gs4]
        wtm_at "E"
        refine ⟨k, k + 1, s5, 1, 1000000, rfl, wA _ gs5, by omega, by omega, by omega, fun b s6 b1 _ _ gs6 => ?_⟩
        rw [hA _ _ gs5]
        wtm_at "E"
        refine ⟨k, k + 1, s6, 1, 9, rfl, wA _ gs6, by omega, by omega, by omega, fun c s7 c1 _ _ gs7 => ?_⟩
        rw [hA _ _ gs6]
        wtm_at "E"
        rw [hN, List.append_assoc]
        generalize ext ++ [MO.lst [.str (kindS go), .str "psalm", .int 12, .int 3, .int 4]] = ext
        refine ds_if (dt_truth (de_call hE ?_))
        wtm_at "E"
        refine ro_ixL (.own (gN _ _ _)) (d := b) rfl ?_
        wtm_at "E"
        refine ⟨b, 1, 1000000, rfl, b1, ?_⟩
        refine ⟨_, rfl, fun hb => ?_, fun _ => ?_⟩
        · obtain ⟨n, rfl⟩ : ∃ n, b = .int n := by cases b <;> simp [isNum] at hb; exact ⟨_, rfl⟩
          have hb : 1 ≤ n ∧ n ≤ 1000000 := by simpa [isNum] using hb
          refine ds_asg (de_call hE ?_)
          wtm_at "E"
          refine ro_ixL (.own (gN _ _ _)) (d := .int n) rfl ?_
          wtm_at "E"
          refine ⟨k, k + 1, s7, 0, n - 1, rfl, wA _ gs7, by omega, by omega, by omega, fun e s8 e1 _ _ gs8 => ?_⟩
          rw [hA _ _ gs7]
          refine dg_sub ?_
          wtm_at "E"
          refine rset_lst (j := 4) (gN _ _ _) rfl ?_
          rw [sN]
          exact ⟨trivial, a, .int n, c, e, s8, _, ext, rfl, rfl, gs8, rY a1 a3 b1 c1 e1⟩
        · exact ds_next ⟨trivial, a, b, c, .int 0, s7, _, ext, rfl, rfl, gs7, rY a1 a3 b1 c1 rfl⟩
      · refine q_set ?_
        wtm_at "E"
        refine ⟨k, k + 1, s4, 4, rfl, wA _ gs4, by omega, by omega, fun at0 s5 q0 q1 gs5 => ?_⟩
        rw [hA _ _ gs4]
        wtm_at "E"
        refine ds_if (dt_test ?_)
        wtm_at "E"
        · rename_i hq
          obtain rfl : at0 = 0 := by have : 1 + at0 = 1 := by simpa using hq
                                     omega
          refine ds_asg (de_call hE ?_)
          wtm_at "E"
          refine ⟨k, k + 1, s5, rfl, wA _ gs5, fun a s6 a1 _ a3 gs6 => ?_⟩
          rw [hA _ _ gs5]
          refine dg_sub ?_
          wtm_at "E"
          refine rset_lst (j := 1) (gN _ _ _) rfl ?_
          rw [sN]
          exact ⟨trivial, a, .int 12, .int 3, .int 4, s6, _, ext, rfl, rfl, gs6, rY a1 a3 rfl rfl rfl⟩
        · rename_i hq
          have hq : ¬ 1 + at0 = 1 := by simpa using hq
          have hat : at0 = 1 ∨ at0 = 2 ∨ at0 = 3 := by omega
          rcases hat with rfl | rfl | rfl
          · refine ds_asg (de_call hE ?_)
            wtm_at "E"
            refine de_lstZ ?_
            wtm_at "E"
            refine ro_ixL (.lst _) (d := .int 1) rfl ?_
            wtm_at "E"
            refine de_lstZ ?_
            wtm_at "E"
            refine ro_ixL (.lst _) (d := .int 1000000) rfl ?_
            wtm_at "E"
            refine ⟨k, k + 1, s5, 1, 1000000, rfl, wA _ gs5, by omega, by omega, by omega, fun v s6 v1 _ _ gs6 => ?_⟩
            rw [hA _ _ gs5]
            refine dg_sub ?_
            wtm_at "E"
            refine rset_lst (j := 2) (gN _ _ _) rfl ?_
            rw [sN]
            exact ⟨trivial, .str "psalm", v, .int 3, .int 4, s6, _, ext, rfl, rfl, gs6, rY rfl ps v1 rfl rfl⟩
          · refine ds_asg (de_call hE ?_)
            wtm_at "E"
            refine de_lstZ ?_
            wtm_at "E"
            refine ro_ixL (.lst _) (d := .int 1) rfl ?_
            wtm_at "E"
            refine de_lstZ ?_
            wtm_at "E"
            refine ro_ixL (.lst _) (d := .int 9) rfl ?_
            wtm_at "E"
            refine ⟨k, k + 1, s5, 1, 9, rfl, wA _ gs5, by omega, by omega, by omega, fun v s6 v1 _ _ gs6 => ?_⟩
            rw [hA _ _ gs5]
            refine dg_sub ?_
            wtm_at "E"
            refine rset_lst (j := 3) (gN _ _ _) rfl ?_
            rw [sN]
            exact ⟨trivial, .str "psalm", .int 12, v, .int 4, s6, _, ext, rfl, rfl, gs6, rY rfl ps rfl v1 rfl⟩
          · refine ds_asg (de_call hE ?_)
            wtm_at "E"
            refine de_lstZ ?_
            wtm_at "E"
            refine ro_ixL (.lst _) (d := .int 0) rfl ?_
            wtm_at "E"
            refine de_lstZ ?_
            wtm_at "E"
            refine ro_ixL (.lst _) (d := .int 11) rfl ?_
            wtm_at "E"
            refine ⟨k, k + 1, s5, 0, 11, rfl, wA _ gs5, by omega, by omega, by omega, fun v s6 v1 _ _ gs6 => ?_⟩
            rw [hA _ _ gs5]
            refine dg_sub ?_
            wtm_at "E"
            refine rset_lst (j := 4) (gN _ _ _) rfl ?_
            rw [sN]
            exact ⟨trivial, .str "psalm", .int 12, .int 3, v, s6, _, ext, rfl, rfl, gs6, rY rfl ps rfl rfl v1⟩
    rintro ρ1 μ1 ⟨_, a, b, c, e, s5, y8, ext, rfl, rfl, gs5, rw5⟩
    refine q_set (de_tupOf ?_)
    wtm_at "E"
    refine ⟨_, .own (gN _ _ _), ?_⟩
    generalize ext ++ [MO.lst [.str (kindS go), a, b, c, e]] = ext
    refine q_asg (de_call hE ?_)
    wtm_at "E"
    refine ⟨go, a, b, c, e, w, rfl, rw5, w0, w1, fun r hr => ?_, fun hn => ?_⟩
    · wtm_at "E"
      refine ds_if (dt_truth (de_call hE ?_))
      wtm_at "E"
      refine ⟨go, a, b, c, e, rfl, rw5, fun _ => ?_, fun hn => absurd ⟨r, hr⟩ hn⟩
      refine ⟨_, rfl, fun _ => ?_, fun z => (nomatch z)⟩
      refine q_when (dt_or ?_)
      wtm_at "E"
      obtain ⟨gr, rfl, rfl, rfl, rfl, he⟩ := hr
      refine ⟨r, e, rfl, gr, rw5.de, he, ?_⟩
      refine ⟨_, rfl, fun z => (nomatch z), fun _ => ?_⟩
      refine ds_set ?_
      wtm_at "E"
      exact ⟨s5, _, _, _, _, _, _, _, _, _, ext, rfl, rfl, gs5, .inr ⟨r, e, gr, rw5.de, he, rfl⟩⟩
    · wtm_at "E"
      refine ds_if (dt_truth (de_call hE ?_))
      wtm_at "E"
      refine ⟨go, a, b, c, e, rfl, rw5, fun hr => absurd hr hn, fun _ => ?_⟩
      refine ⟨_, rfl, fun z => (nomatch z), fun _ => ?_⟩
      refine s_when (dt_or ?_)
      wtm_at "E"
      refine ⟨"BadRow", "row", [], 3, rfl, by decide +kernel, by decide +kernel, ?_⟩
      rw [show decide (excNames[3]? = some (Str.ofString "BadRow")) = true by decide +kernel]
      refine ⟨_, rfl, fun z => (nomatch z), fun _ => ?_⟩
      exact ⟨s5, _, _, _, _, _, _, _, _, _, ext, rfl, rfl, gs5, hb⟩
  · rintro ρ' μ' ⟨s1, bf, y3, y4, y5, y6, y7, y8, y9, y10, ext, rfl, rfl, gs1, hb⟩
    refine ds_ret (de_orV ?_)
    rcases hb with rfl | ⟨r, e, gr, hed, he, rfl⟩
    · wtm_at "E"
      obtain ⟨ext', e⟩ := hex s1
      rw [e, List.append_assoc]
      exact fin _
    · wtm_at "E"
      refine ⟨r, e, rfl, gr, hed, he, ?_⟩
      obtain ⟨ext', e⟩ := hex s1
      rw [e, List.append_assoc]
      exact fin _
end
local macro_rules | `(tactic| wtm_at "ln") => `(tactic| (intro ds μ P PX h; first | (obtain ⟨_, e, _⟩ := h; exact congrArg List.length e) | (obtain ⟨_, _, e, _⟩ := h; exact congrArg List.length e) | (obtain ⟨_, _, _, e, _⟩ := h; exact congrArg List.length e) | (obtain ⟨_, _, _, _, e, _⟩ := h; exact congrArg List.length e) | (obtain ⟨_, _, _, _, _, e, _⟩ := h; exact congrArg List.length e) | (obtain ⟨_, _, _, _, _, _, e, _⟩ := h; exact congrArg List.length e) | (obtain ⟨_, _, _, _, _, _, _, e, _⟩ := h; exact congrArg List.length e) | (obtain ⟨_, _, _, _, _, _, _, _, e, _⟩ := h; exact congrArg List.length e) | (obtain ⟨_, _, _, _, _, _, _, _, _, e, _⟩ := h; exact congrArg List.length e) | (obtain ⟨_, _, _, _, _, _, _, _, _, _, e, _⟩ := h; exact congrArg List.length e) | (obtain ⟨_, _, _, _, _, _, _, _, _, _, _, e, _⟩ := h; exact congrArg List.length e) | (obtain ⟨_, _, _, _, _, _, _, _, _, _, _, _, e, _⟩ := h; exact congrArg List.length e) | (obtain ⟨_, _, _, _, _, _, _, _, _, _, _, _, _, e, _⟩ := h; exact congrArg List.length e) | (obtain ⟨_, _, _, _, _, _, _, _, _, _, _, _, _, _, e, _⟩ := h; exact congrArg List.length e)))
local macro_rules | `(tactic| wtm_at "oi") => `(tactic| first | exact Or.inl rfl | exact Or.inr rfl)
structure FQ (P : Program) (w : World) (K : PySem.W.Frag) (mg : Str → Option Value) (base : Heap) (n : Nat) (f : Addr) (fd : FuncData) (ps : List Str) (C : CT) : Prop where
  F : FnOk P w K mg base (L2.CX P w) n f fd ps (spD K C)
  B : Binds K fd ps []
structure FG (P : Program) (w : World) (K : PySem.W.Frag) (mg : Str → Option Value) (base : Heap) (n : Nat) (f : Addr) (fd : FuncData) (ps : List Str) (C : CT) (x : Str) : Prop extends FQ P w K mg base n f fd ps C where
  m : mg x = some (.ref f)
  k : PySem.W.keepIn K (.ref f) = true
abbrev GD (K : PySem.W.Frag) (a b : Str) (s : Stmt) (f : Addr) (fd : FuncData) : Prop := FunD K a b (defArgs s) (defBody s) (defScope s) [] [] f fd
section
variable {P : Program} {w : World} {K : PySem.W.Frag} {mg : Str → Option Value} {base : Heap}
set_option maxHeartbeats 1000000
local macro_rules | `(tactic| wtm_at "pk") => `(tactic| exact passes_call (takes_of rfl rfl rfl rfl) (fun _ _ _ _ h => h))
local macro_rules | `(tactic| wtm_at "sn") => `(tactic| exact ⟨rfl, rfl, rfl, by decide +kernel, rfl, by decide +kernel, by decide +kernel⟩)
/-! ### the text, def by def -/
abbrev N_law_begun : List Str := ["_law_script", "_law_cells", "_law_cell"]
theorem sc_law_begun : FnScope N_law_begun ["_law_script"] (defScope s_law_begun) := by wtm_at "sn"
theorem ok_law_begun {f : Addr} {fd : FuncData} (F : GD K "_law_begun" "_law_begun" s_law_begun f fd) (n_abs : mg "abs" = none) :
    FnOk P w K mg base (L2.CX P w) 1 f fd ["_law_script"] (spD K (c_law_begun K)) :=
  fn_DD (t := t_law_begun K) F sc_law_begun (by wtm_at "ln") (by decide)
    (fun cdv A outer s H E hr => by exact
      (pss_cons (by first | exact ps_setLc (i := 1) (own := [("_law_cell", 2)]) (g := (gName 2)) (tt := tYes) (te := (tCB rAbs (tCons (tVar 2) tNil))) (by rfl) sc_law_begun.nd rfl rfl (sw_true rfl rfl rfl (by decide +kernel)) (pi_any (pv 0)) (blkOk_by (own := [("_law_cell", 2)]) (N := N_law_begun) (sc := defScope s_law_begun) (by decide +kernel)) (fun _ _ _ _ _ => by exact (pg_name (i := 2) sc_law_begun.nd rfl (by wtm_at "oi"))) (fun _ _ _ _ _ => by exact pts_nil) (fun _ _ _ _ _ => by exact (pe_callB call_abs (by rfl) n_abs (by decide +kernel) (pa_cons (pv 2) pa_nil))) | exact ps_set (i := 1) sc_law_begun.nd rfl (by wtm_at "oi") (pe_lc (own := [("_law_cell", 2)]) (g := (gName 2)) (tt := tYes) (te := (tCB rAbs (tCons (tVar 2) tNil))) (by rfl) sc_law_begun.nd (pi_any (pv 0)) (blkOk_by (own := [("_law_cell", 2)]) (N := N_law_begun) (sc := defScope s_law_begun) (by decide +kernel)) (fun _ _ _ _ _ => by exact (pg_name (i := 2) sc_law_begun.nd rfl (by wtm_at "oi"))) (fun _ _ _ _ _ => by exact pts_nil) (fun _ _ _ _ _ => by exact (pe_callB call_abs (by rfl) n_abs (by decide +kernel) (pa_cons (pv 2) pa_nil)))))
      (pss_one (ps_ret (pe_disp (pps_cons pe_str (pe_lc (own := [("_law_cell", 2)]) (g := (gName 2)) (tt := (tTest (tOp (rI0 fun i j => .bl (decide (j ≤ i))) (tVar 2) (tOp (rI CPow fun i j => .int (i ^ j.toNat)) (tC (.int 10)) (tC (.int 18)))))) (te := (tVar 2)) (by rfl) sc_law_begun.nd (pi_any (pv 1)) (blkOk_by (own := [("_law_cell", 2)]) (N := N_law_begun) (sc := defScope s_law_begun) (by decide +kernel)) (fun _ _ _ _ _ => by exact (pg_name (i := 2) sc_law_begun.nd rfl (by wtm_at "oi"))) (fun _ _ _ _ _ => by exact (pts_one (pt_cmpR op_ge (pv 2) (pe_op op_pow pe_int pe_int) (nomark _)))) (fun _ _ _ _ _ => by exact (pv 2))) (pps_cons pe_str (pv 1) (pps_cons pe_str pe_int (pps_cons pe_str pe_int (pps_cons pe_str pe_int pps_nil))))) rfl rfl (by simp) (by decide))))))
    (d_law_begun)
abbrev N_law_take : List Str := ["_law_draw", "_law_size", "_law_found", "_law_cell", "_law_mixed"]
theorem sc_law_take : FnScope N_law_take ["_law_draw", "_law_size"] (defScope s_law_take) := by wtm_at "sn"
theorem ok_law_take {f : Addr} {fd : FuncData} (F : GD K "_law_take" "_law_take" s_law_take f fd) (n_len : mg "len" = none) :
    FnOk P w K mg base (L2.CX P w) 1 f fd ["_law_draw", "_law_size"] (spD K (c_law_take K)) :=
  fn_DD (t := t_law_take K) F sc_law_take (by wtm_at "ln") (by decide)
    (fun cdv A outer s H E hr => by exact
      (pss_cons (ps_while (passes_of rfl) (PW.pt (pw_and (pt_cmpR (op_eqD hr.units) (pe_dget (hu_of hr) (pv 0) pe_str (fun _ _ => rfl)) pe_int (nomark _)) (pw_and1 (pt_cmpR (op_neD hr.units) (pe_dget (hu_of hr) (pv 0) pe_str (fun _ _ => rfl)) (pe_lst pa_nil) (nomark _))))) (pss_one (ps_dput (hu_of hr) (pv 0) pe_str (pe_bm PySem.F.plainAttrs_list PySem.F.slot_list_pop PySem.F.type_list_pop mt_popAt (pe_dget (hu_of hr) (pv 0) pe_str (fun _ _ => rfl)) (pa_cons pe_int pa_nil)) rfl)))
      (pss_cons (ps_if (pt_cmpR op_gt (pe_dget (hu_of hr) (pv 0) pe_str (fun _ _ => rfl)) pe_int (nomark _)) (pss_cons (ps_set (i := 2) sc_law_take.nd rfl (by wtm_at "oi") (pe_op op_modA (pe_dget (hu_of hr) (pv 0) pe_str (fun _ _ => rfl)) (pv 1)))
      (pss_cons (ps_dput (hu_of hr) (pv 0) pe_str (pe_op op_fdivA (pe_dget (hu_of hr) (pv 0) pe_str (fun _ _ => rfl)) (pv 1)) rfl)
      (pss_one (ps_ret (pv 2))))) pss_nil)
      (pss_cons (ps_set (i := 3) sc_law_take.nd rfl (by wtm_at "oi") pe_int)
      (pss_cons (ps_if (pt_cmpR (op_neD hr.units) (pe_dget (hu_of hr) (pv 0) pe_str (fun _ _ => rfl)) (pe_lst pa_nil) (nomark _)) (pss_one (ps_set (i := 3) sc_law_take.nd rfl (by wtm_at "oi") (pe_ix ix_seq (pe_dget (hu_of hr) (pv 0) pe_str (fun _ _ => rfl)) (pe_op op_modA (pe_dget (hu_of hr) (pv 0) pe_str (fun _ _ => rfl)) (pe_callB call_len (by rfl) n_len (by decide +kernel) (pa_cons (pe_dget (hu_of hr) (pv 0) pe_str (fun _ _ => rfl)) pa_nil))) (fun _ _ => rfl)))) pss_nil)
      (pss_cons (ps_dput (hu_of hr) (pv 0) pe_str (pe_op op_addA (pe_dget (hu_of hr) (pv 0) pe_str (fun _ _ => rfl)) pe_int) rfl)
      (pss_cons (ps_dput (hu_of hr) (pv 0) pe_str (pe_op op_modA (pe_op op_addA (pe_op op_addA (pe_op op_mulA (pe_dget (hu_of hr) (pv 0) pe_str (fun _ _ => rfl)) pe_int) (pv 3)) (pe_op op_mulA pe_int (pe_dget (hu_of hr) (pv 0) pe_str (fun _ _ => rfl)))) pe_int) rfl)
      (pss_cons (ps_set (i := 4) sc_law_take.nd rfl (by wtm_at "oi") (pe_op op_modA (pe_op op_addA (pe_op op_addA (pe_op op_mulA (pe_dget (hu_of hr) (pv 0) pe_str (fun _ _ => rfl)) (pe_dget (hu_of hr) (pv 0) pe_str (fun _ _ => rfl))) (pe_op op_mulA pe_int (pe_dget (hu_of hr) (pv 0) pe_str (fun _ _ => rfl)))) pe_int) pe_int))
      (pss_one (ps_ret (pe_op op_modA (pe_op op_fdivA (pe_op op_modA (pe_op op_mulA (pv 4) (pv 4)) pe_int) pe_int) (pv 1))))))))))))
    (d_law_take)
abbrev N_law_pick : List Str := ["_law_draw", "_law_some"]
theorem sc_law_pick : FnScope N_law_pick ["_law_draw", "_law_some"] (defScope s_law_pick) := by wtm_at "sn"
theorem ok_law_pick {f : Addr} {fd : FuncData} {f_law_take : Addr} {fd_law_take : FuncData} (F : GD K "_law_pick" "_law_pick" s_law_pick f fd) (F_law_take : FG P w K mg base 1 f_law_take fd_law_take ["_law_draw", "_law_size"] (c_law_take K) "_law_take") (n_len : mg "len" = none) :
    FnOk P w K mg base (L2.CX P w) 2 f fd ["_law_draw", "_law_some"] (spD K (c_law_pick K)) :=
  fn_DD (t := t_law_pick K) F sc_law_pick (by wtm_at "ln") (by decide)
    (fun cdv A outer s H E hr => by exact
      (pss_one (ps_ret (pe_ix ix_seq (pv 1) (pe_call F_law_take.F (hr.mono (by decide)) (by rfl) F_law_take.m F_law_take.k F_law_take.B .nil (by wtm_at "pk") (pa_cons (pv 0) (pa_cons (pe_callB call_len (by rfl) n_len (by decide +kernel) (pa_cons (pv 1) pa_nil)) pa_nil))) (fun _ _ => rfl)))))
    (d_law_pick)
abbrev N_law_worth : List Str := ["_law_draw", "_law_low", "_law_top", "_law_kind", "_law_beyond"]
theorem sc_law_worth : FnScope N_law_worth ["_law_draw", "_law_low", "_law_top"] (defScope s_law_worth) := by wtm_at "sn"
theorem ok_law_worth {f : Addr} {fd : FuncData} {f_law_take f_law_pick : Addr} {fd_law_take fd_law_pick : FuncData} (F : GD K "_law_worth" "_law_worth" s_law_worth f fd) (F_law_take : FG P w K mg base 1 f_law_take fd_law_take ["_law_draw", "_law_size"] (c_law_take K) "_law_take") (F_law_pick : FG P w K mg base 2 f_law_pick fd_law_pick ["_law_draw", "_law_some"] (c_law_pick K) "_law_pick") (n_min : mg "min" = none) :
    FnOk P w K mg base (L2.CX P w) 3 f fd ["_law_draw", "_law_low", "_law_top"] (spD K (c_law_worth K)) :=
  fn_DD (t := t_law_worth K) F sc_law_worth (by wtm_at "ln") (by decide)
    (fun cdv A outer s H E hr => by exact
      (pss_cons (ps_set (i := 3) sc_law_worth.nd rfl (by wtm_at "oi") (pe_call F_law_take.F (hr.mono (by decide)) (by rfl) F_law_take.m F_law_take.k F_law_take.B .nil (by wtm_at "pk") (pa_cons (pv 0) (pa_cons pe_int pa_nil))))
      (pss_cons (ps_if (pt_cmpR (op_eqD hr.units) (pv 3) pe_int (nomark _)) (pss_one (ps_ret (pe_call F_law_pick.F (hr.mono (by decide)) (by rfl) F_law_pick.m F_law_pick.k F_law_pick.B .nil (by wtm_at "pk") (pa_cons (pv 0) (pa_cons (pe_lst (pa_cons pe_bl (pa_cons pe_bl (pa_cons pe_non (pa_cons pe_str (pa_cons (pe_lst (pa_cons pe_int pa_nil)) (pa_cons (pe_tup (pa_cons pe_int pa_nil)) pa_nil))))))) pa_nil))))) pss_nil)
      (pss_cons (ps_if (pt_cmpR op_lt (pv 3) pe_int (nomark _)) (pss_one (ps_ret (pe_ix ix_seq (pe_lst (pa_cons (pe_op op_sub (pv 1) pe_int) (pa_cons (pe_op op_addA (pv 2) pe_int) pa_nil))) (pe_op op_sub (pv 3) pe_int) (fun _ _ => rfl)))) pss_nil)
      (pss_cons (ps_if (pt_cmpR op_lt (pv 3) pe_int (nomark _)) (pss_cons (ps_set (i := 4) sc_law_worth.nd rfl (by wtm_at "oi") (pe_call F_law_take.F (hr.mono (by decide)) (by rfl) F_law_take.m F_law_take.k F_law_take.B .nil (by wtm_at "pk") (pa_cons (pv 0) (pa_cons (pe_op op_pow pe_int pe_int) pa_nil))))
      (pss_one (ps_ret (pe_ix ix_seq (pe_lst (pa_cons (pe_op op_sub (pe_op op_sub (pv 1) pe_int) (pv 4)) (pa_cons (pe_op op_addA (pe_op op_addA (pv 2) pe_int) (pv 4)) pa_nil))) (pe_op op_sub (pv 3) pe_int) (fun _ _ => rfl))))) pss_nil)
      (pss_cons (ps_if (pt_cmpR op_lt (pv 3) pe_int (nomark _)) (pss_one (ps_ret (pe_ix ix_seq (pe_lst (pa_cons (pv 1) (pa_cons (pv 2) (pa_cons (pe_callB (call_minA rfl) (by rfl) n_min (by decide +kernel) (pa_cons (pe_op op_addA (pv 1) pe_int) (pa_cons (pv 2) pa_nil))) pa_nil)))) (pe_op op_sub (pv 3) pe_int) (fun _ _ => rfl)))) pss_nil)
      (pss_one (ps_ret (pe_op op_addA (pv 1) (pe_call F_law_take.F (hr.mono (by decide)) (by rfl) F_law_take.m F_law_take.k F_law_take.B .nil (by wtm_at "pk") (pa_cons (pv 0) (pa_cons (pe_op op_addA (pe_op op_sub (pv 2) (pv 1)) pe_int) pa_nil))))))))))))
    (d_law_worth)
abbrev N_law_title : List Str := ["_law_draw", "_law_letters", "_law_kind", "_law_long", "_law_signs", "_law_k", "_law_at"]
theorem sc_law_title : FnScope N_law_title ["_law_draw"] (defScope s_law_title) := by wtm_at "sn"
theorem ok_law_title {f : Addr} {fd : FuncData} {f_law_take f_law_pick : Addr} {fd_law_take fd_law_pick : FuncData} (F : GD K "_law_title" "_law_title" s_law_title f fd) (F_law_take : FG P w K mg base 1 f_law_take fd_law_take ["_law_draw", "_law_size"] (c_law_take K) "_law_take") (F_law_pick : FG P w K mg base 2 f_law_pick fd_law_pick ["_law_draw", "_law_some"] (c_law_pick K) "_law_pick") (n_range : mg "range" = none) :
    FnOk P w K mg base (L2.CX P w) 3 f fd ["_law_draw"] (spD K (c_law_title K)) :=
  fn_DD (t := t_law_title K) F sc_law_title (by wtm_at "ln") (by decide)
    (fun cdv A outer s H E hr => by exact
      (pss_cons (ps_set (i := 1) sc_law_title.nd rfl (by wtm_at "oi") pe_str)
      (pss_cons (ps_set (i := 2) sc_law_title.nd rfl (by wtm_at "oi") (pe_call F_law_take.F (hr.mono (by decide)) (by rfl) F_law_take.m F_law_take.k F_law_take.B .nil (by wtm_at "pk") (pa_cons (pv 0) (pa_cons pe_int pa_nil))))
      (pss_cons (ps_if (pt_cmpR (op_eqD hr.units) (pv 2) pe_int (nomark _)) (pss_one (ps_ret (pe_call F_law_pick.F (hr.mono (by decide)) (by rfl) F_law_pick.m F_law_pick.k F_law_pick.B .nil (by wtm_at "pk") (pa_cons (pv 0) (pa_cons (pe_lst (pa_cons pe_non (pa_cons pe_int (pa_cons pe_bl (pa_cons (pe_lst (pa_cons pe_str pa_nil)) (pa_cons pe_str (pa_cons (pe_tup (pa_cons pe_str pa_nil)) pa_nil))))))) pa_nil))))) pss_nil)
      (pss_cons (ps_set (i := 3) sc_law_title.nd rfl (by wtm_at "oi") (pe_op op_addA pe_int (pe_call F_law_take.F (hr.mono (by decide)) (by rfl) F_law_take.m F_law_take.k F_law_take.B .nil (by wtm_at "pk") (pa_cons (pv 0) (pa_cons pe_int pa_nil)))))
      (pss_cons (ps_if (pt_cmpR (op_eqD hr.units) (pv 2) pe_int (nomark _)) (pss_one (ps_set (i := 3) sc_law_title.nd rfl (by wtm_at "oi") (pe_op op_addA pe_int (pe_call F_law_take.F (hr.mono (by decide)) (by rfl) F_law_take.m F_law_take.k F_law_take.B .nil (by wtm_at "pk") (pa_cons (pv 0) (pa_cons pe_int pa_nil)))))) pss_nil)
      (pss_cons (by first | exact ps_setLc (i := 4) (own := [("_law_k", 5)]) (g := (gName 5)) (tt := tYes) (te := (tCall (spD K (c_law_pick K)) [] E0 (tCons (tVar 0) (tCons (tVar 1) tNil)))) (by rfl) sc_law_title.nd rfl rfl (sw_true rfl rfl rfl (by decide +kernel)) (pi_range1 (by rfl) n_range (pa_cons (pv 3) pa_nil)) (blkOk_by (own := [("_law_k", 5)]) (N := N_law_title) (sc := defScope s_law_title) (by decide +kernel)) (fun _ _ _ _ _ => by exact (pg_name (i := 5) sc_law_title.nd rfl (by wtm_at "oi"))) (fun _ _ _ _ _ => by exact pts_nil) (fun _ _ _ _ _ => by exact (pe_call F_law_pick.F (hr.mono (by decide)) (by rfl) F_law_pick.m F_law_pick.k F_law_pick.B .nil passL (pa_cons (pv 0) (pa_cons (pv 1) pa_nil)))) | exact ps_set (i := 4) sc_law_title.nd rfl (by wtm_at "oi") (pe_lc (own := [("_law_k", 5)]) (g := (gName 5)) (tt := tYes) (te := (tCall (spD K (c_law_pick K)) [] E0 (tCons (tVar 0) (tCons (tVar 1) tNil)))) (by rfl) sc_law_title.nd (pi_range1 (by rfl) n_range (pa_cons (pv 3) pa_nil)) (blkOk_by (own := [("_law_k", 5)]) (N := N_law_title) (sc := defScope s_law_title) (by decide +kernel)) (fun _ _ _ _ _ => by exact (pg_name (i := 5) sc_law_title.nd rfl (by wtm_at "oi"))) (fun _ _ _ _ _ => by exact pts_nil) (fun _ _ _ _ _ => by exact (pe_call F_law_pick.F (hr.mono (by decide)) (by rfl) F_law_pick.m F_law_pick.k F_law_pick.B .nil passL (pa_cons (pv 0) (pa_cons (pv 1) pa_nil))))))
      (pss_cons (ps_if (pt_cmpR (op_eqD hr.units) (pv 2) pe_int (nomark _)) (pss_cons (ps_set (i := 6) sc_law_title.nd rfl (by wtm_at "oi") (pe_call F_law_take.F (hr.mono (by decide)) (by rfl) F_law_take.m F_law_take.k F_law_take.B .nil (by wtm_at "pk") (pa_cons (pv 0) (pa_cons (pv 3) pa_nil))))
      (pss_one (ps_asg (pe_call F_law_pick.F (hr.mono (by decide)) (by rfl) F_law_pick.m F_law_pick.k F_law_pick.B .nil (by wtm_at "pk") (pa_cons (pv 0) (pa_cons (pe_lst (pa_cons pe_str (pa_cons pe_str (pa_cons pe_str (pa_cons pe_str (pa_cons pe_str (pa_cons pe_str (pa_cons pe_str (pa_cons pe_str (pa_cons pe_str (pa_cons pe_str pa_nil))))))))))) pa_nil))) (pg_sub (pv 4) (pv 6) set_list)))) pss_nil)
      (pss_one (ps_ret (pe_bm PySem.F.plainAttrs_str PySem.F.slot_str_join PySem.F.type_str_join mt_join pe_str (pa_cons (pv 4) pa_nil))))))))))))
    (d_law_title)
abbrev N_law_is_number : List Str := ["_law_thing", "_law_low", "_law_top"]
theorem sc_law_is_number : FnScope N_law_is_number ["_law_thing", "_law_low", "_law_top"] (defScope s_law_is_number) := by wtm_at "sn"
theorem ok_law_is_number {f : Addr} {fd : FuncData} (F : GD K "_law_is_number" "_law_is_number" s_law_is_number f fd) (n_int : mg "int" = none) (n_isinstance : mg "isinstance" = none) (n_bool : mg "bool" = none) :
    FnOk P w K mg base (L2.CX P w) 1 f fd ["_law_thing", "_law_low", "_law_top"] (spD K (c_law_is_number K)) :=
  fn_DD (t := t_law_is_number K) F sc_law_is_number (by wtm_at "ln") (by decide)
    (fun cdv A outer s H E hr => by exact
      (pss_one (ps_ret (pe_and (pe_callB call_isi (by rfl) n_isinstance (by decide +kernel) (pa_cons (pv 0) (pa_cons (pe_bltn (v := .ty "int") (by rfl) n_int (by decide +kernel) rfl) pa_nil))) (pe_and (pe_not (pe_callB call_isi (by rfl) n_isinstance (by decide +kernel) (pa_cons (pv 0) (pa_cons (pe_bltn (v := .ty "bool") (by rfl) n_bool (by decide +kernel) rfl) pa_nil)))) (pe_one (pe_chain op_le op_le (pv 1) (pv 0) (pv 2))))))))
    (d_law_is_number)
abbrev N_is_name : List Str := ["thing", "sign"]
theorem sc_is_name : FnScope N_is_name ["thing"] (defScope s_is_name) := by wtm_at "sn"
theorem ok_is_name {f : Addr} {fd : FuncData} (F : GD K "is_name" "is_name" s_is_name f fd) (n_str : mg "str" = none) (n_isinstance : mg "isinstance" = none) (n_len : mg "len" = none) (k_LETTERS : ∃ t, mg "LETTERS" = some (.str "abcdefghijklmnopqrstuvwxyz" t)) (n_all : mg "all" = none) :
    FnOk P w K mg base (L2.CX P w) 1 f fd ["thing"] (spD K (c_is_name K)) :=
  fn_DD (t := t_is_name K) F sc_is_name (by wtm_at "ln") (by decide)
    (fun cdv A outer s H E hr => by exact
      (pss_cons (ps_if (PW.pt (pw_or (pt_not (pt_truth (pe_callB call_isi (by rfl) n_isinstance (by decide +kernel) (pa_cons (pv 0) (pa_cons (pe_bltn (v := .ty "str") (by rfl) n_str (by decide +kernel) rfl) pa_nil))) (by intro _; rfl))) (pw_or1 (pt_not (pt_chain op_le op_le pe_int (pe_callB call_len (by rfl) n_len (by decide +kernel) (pa_cons (pv 0) pa_nil)) pe_int))))) (pss_one (ps_ret pe_bl)) pss_nil)
      (pss_one (ps_ret (pe_callB (cr_all rfl) (by rfl) n_all (by decide +kernel) (pa_cons (pe_lc (own := [("sign", 1)]) (g := (gName 1)) (tt := tYes) (te := (tOp (rInA K) (tVar 1) (tC (.str "abcdefghijklmnopqrstuvwxyz")))) (by rfl) sc_is_name.nd (pi_any (pv 0)) (blkOk_by (own := [("sign", 1)]) (N := N_is_name) (sc := defScope s_is_name) (by decide +kernel)) (fun _ _ _ _ _ => by exact (pg_name (i := 1) sc_is_name.nd rfl (by wtm_at "oi"))) (fun _ _ _ _ _ => by exact pts_nil) (fun _ _ _ _ _ => by exact (pe_cmpR op_inA (pv 1) (pe_glob (v := .str "abcdefghijklmnopqrstuvwxyz") (by rfl) k_LETTERS.choose_spec ⟨_, rfl⟩) (by rfl)))) pa_nil))))))
    (d_is_name)
abbrev N_is_number : List Str := ["thing", "least", "most"]
theorem sc_is_number : FnScope N_is_number ["thing", "least", "most"] (defScope s_is_number) := by wtm_at "sn"
theorem ok_is_number {f : Addr} {fd : FuncData} (F : GD K "is_number" "is_number" s_is_number f fd) (n_int : mg "int" = none) (n_isinstance : mg "isinstance" = none) (n_bool : mg "bool" = none) :
    FnOk P w K mg base (L2.CX P w) 1 f fd ["thing", "least", "most"] (spD K (c_is_number K)) :=
  fn_DD (t := t_is_number K) F sc_is_number (by wtm_at "ln") (by decide)
    (fun cdv A outer s H E hr => by exact
      (pss_one (ps_ret (pe_and (pe_callB call_isi (by rfl) n_isinstance (by decide +kernel) (pa_cons (pv 0) (pa_cons (pe_bltn (v := .ty "int") (by rfl) n_int (by decide +kernel) rfl) pa_nil))) (pe_and (pe_not (pe_callB call_isi (by rfl) n_isinstance (by decide +kernel) (pa_cons (pv 0) (pa_cons (pe_bltn (v := .ty "bool") (by rfl) n_bool (by decide +kernel) rfl) pa_nil)))) (pe_one (pe_chain op_le op_le (pv 1) (pv 0) (pv 2))))))))
    (d_is_number)
abbrev N_Row_init : List Str := ["self", "name", "pieces", "most"]
theorem sc_Row_init : FnScope N_Row_init ["self", "name", "pieces", "most"] (defScope s_Row_init) := by wtm_at "sn"
theorem ok_Row_init {f : Addr} {fd : FuncData} {f_is_name f_is_number : Addr} {fd_is_name fd_is_number : FuncData} (F : GD K "__init__" "Row.__init__" s_Row_init f fd) (F_is_name : FG P w K mg base 1 f_is_name fd_is_name ["thing"] (c_is_name K) "is_name") (F_is_number : FG P w K mg base 1 f_is_number fd_is_number ["thing", "least", "most"] (c_is_number K) "is_number") (x_BadRow : ExC K mg "BadRow") (kr : KRw K) :
    FnOk P w K mg base (L2.CX P w) 2 f fd ["self", "name", "pieces", "most"] (spD K (c_Row_init K)) :=
  fn_DD (t := t_Row_init K) F sc_Row_init (by wtm_at "ln") (by decide)
    (fun cdv A outer s H E hr => by exact
      (pss_cons (ps_if (PW.pt (pw_or (pt_not (pt_truth (pe_call F_is_name.F (hr.mono (by decide)) (by rfl) F_is_name.m F_is_name.k F_is_name.B .nil (by wtm_at "pk") (pa_cons (pv 1) pa_nil)) (by intro _; rfl))) (pw_or (pt_not (pt_truth (pe_call F_is_number.F (hr.mono (by decide)) (by rfl) F_is_number.m F_is_number.k F_is_number.B .nil (by wtm_at "pk") (pa_cons (pv 2) (pa_cons pe_int (pa_cons pe_int pa_nil)))) (by intro _; rfl))) (pw_or1 (pt_not (pt_truth (pe_call F_is_number.F (hr.mono (by decide)) (by rfl) F_is_number.m F_is_number.k F_is_number.B .nil (by wtm_at "pk") (pa_cons (pv 3) (pa_cons pe_int (pa_cons pe_int pa_nil)))) (by intro _; rfl))))))) (pss_one (ps_raise rfl (takes_of rfl rfl rfl rfl) (pmk_own PySem.F.excBase_ValueError x_BadRow.xc x_BadRow.gc x_BadRow.kc (raises_own x_BadRow.bc x_BadRow.tc) (by rfl)))) pss_nil)
      (pss_cons (ps_fld (pv 0) (pv 1) rfl)
      (pss_cons (ps_fld (pv 0) (pv 2) rfl)
      (pss_one (ps_fld (pv 0) (pv 3) rfl))))))
    (d_Row_init kr)
abbrev N_Yearly_init : List Str := ["self", "name", "many", "most"]
theorem sc_Yearly_init : FnScope N_Yearly_init ["self", "name", "many", "most"] (defScope s_Yearly_init) := by wtm_at "sn"
theorem ok_Yearly_init {f : Addr} {fd : FuncData} {f_Row_init : Addr} {fd_Row_init : FuncData} (F : GD K "__init__" "Yearly.__init__" s_Yearly_init f fd) (F_Row_init : FQ P w K mg base 2 f_Row_init fd_Row_init ["self", "name", "pieces", "most"] (c_Row_init K)) (g_Row : mg "Row" = some (.ref (He.ga K "Row"))) (cf_Row_init : ClsFn K (He.ga K "Row") "__init__" f_Row_init) (kr : KRw K) :
    FnOk P w K mg base (L2.CX P w) 3 f fd ["self", "name", "many", "most"] (spD K (c_Yearly_init K)) :=
  fn_DD (t := t_Yearly_init K) F sc_Yearly_init (by wtm_at "ln") (by decide)
    (fun cdv A outer s H E hr => by exact
      (pss_one (ps_expr (pe_clsCall (pe_glob (v := .ref (He.ga K "Row")) (by rfl) g_Row rfl) cf_Row_init F_Row_init.F (hr.mono (by decide)) F_Row_init.B .nil (by wtm_at "pk") (pa_cons (pv 0) (pa_cons (pv 1) (pa_cons (pv 2) (pa_cons (pv 3) pa_nil))))))))
    (d_Yearly_init kr)
abbrev N_Going_init : List Str := ["self", "name", "many", "most", "begin"]
theorem sc_Going_init : FnScope N_Going_init ["self", "name", "many", "most", "begin"] (defScope s_Going_init) := by wtm_at "sn"
theorem ok_Going_init {f : Addr} {fd : FuncData} {f_Row_init f_is_number : Addr} {fd_Row_init fd_is_number : FuncData} (F : FunD K "__init__" "Going.__init__" (defArgs s_Going_init) (defBody s_Going_init) (defScope s_Going_init) [.int (0)] [] f fd) (F_Row_init : FQ P w K mg base 2 f_Row_init fd_Row_init ["self", "name", "pieces", "most"] (c_Row_init K)) (F_is_number : FG P w K mg base 1 f_is_number fd_is_number ["thing", "least", "most"] (c_is_number K) "is_number") (g_Row : mg "Row" = some (.ref (He.ga K "Row"))) (cf_Row_init : ClsFn K (He.ga K "Row") "__init__" f_Row_init) (x_BadRow : ExC K mg "BadRow") (kr : KRw K) :
    FnOk P w K mg base (L2.CX P w) 3 f fd ["self", "name", "many", "most", "begin"] (spD K (c_Going_init K)) :=
  fn_DD (t := t_Going_init K) F sc_Going_init (by wtm_at "ln") (by decide)
    (fun cdv A outer s H E hr => by exact
      (pss_cons (ps_expr (pe_clsCall (pe_glob (v := .ref (He.ga K "Row")) (by rfl) g_Row rfl) cf_Row_init F_Row_init.F (hr.mono (by decide)) F_Row_init.B .nil (by wtm_at "pk") (pa_cons (pv 0) (pa_cons (pv 1) (pa_cons (pv 2) (pa_cons (pv 3) pa_nil))))))
      (pss_cons (ps_if (pt_not (pt_truth (pe_call F_is_number.F (hr.mono (by decide)) (by rfl) F_is_number.m F_is_number.k F_is_number.B .nil (by wtm_at "pk") (pa_cons (pv 4) (pa_cons pe_int (pa_cons (pe_op op_sub (pv 2) pe_int) pa_nil)))) (by intro _; rfl))) (pss_one (ps_raise rfl (takes_of rfl rfl rfl rfl) (pmk_own PySem.F.excBase_ValueError x_BadRow.xc x_BadRow.gc x_BadRow.kc (raises_own x_BadRow.bc x_BadRow.tc) (by rfl)))) pss_nil)
      (pss_one (ps_fld (pv 0) (pv 4) rfl)))))
    (d_Going_init kr)
abbrev N_law_made : List Str := ["_law_row", "_law_way", "_law_kind", "_law_title_here", "_law_often", "_law_top", "_law_start", "_law_found", "_law_e", "error"]
theorem sc_law_made : FnScope N_law_made ["_law_row", "_law_way"] (defScope s_law_made) := by wtm_at "sn"
theorem ok_law_made {f : Addr} {fd : FuncData} {f_Yearly_init f_Going_init f_law_is_number : Addr} {fd_Yearly_init fd_Going_init fd_law_is_number : FuncData} {dd1_Going_init : List Value} (F : GD K "_law_made" "_law_made" s_law_made f fd) (F_Yearly_init : FQ P w K mg base 3 f_Yearly_init fd_Yearly_init ["self", "name", "many", "most"] (c_Yearly_init K)) (M_Yearly : Mk K (He.ga K "Yearly") f_Yearly_init) (F_Going_init : FQ P w K mg base 3 f_Going_init fd_Going_init ["self", "name", "many", "most", "begin"] (c_Going_init K)) (M_Going : Mk K (He.ga K "Going") f_Going_init) (F_law_is_number : FG P w K mg base 1 f_law_is_number fd_law_is_number ["_law_thing", "_law_low", "_law_top"] (c_law_is_number K) "_law_is_number") (g_ReadError : mg "ReadError" = some (.ref (He.ga K "ReadError"))) (g_Yearly : mg "Yearly" = some (.ref (He.ga K "Yearly"))) (KN_Yearly_init_most_name_many : KBn K fd_Yearly_init ["self", "name", "many", "most"] 1 ["most", "name", "many"] (gK [1,2,0]) (gK [1,2,0])) (g_Going : mg "Going" = some (.ref (He.ga K "Going"))) (BD1_Going_init : Binds K fd_Going_init ["self", "name", "many", "most", "begin"] dd1_Going_init) (VD1_Going_init : Vals [.int (0)] dd1_Going_init) (KN_Going_init_begin_most : KBn K fd_Going_init ["self", "name", "many", "most", "begin"] 3 ["begin", "most"] (gK [1,0]) (gK [1,0])) (kx : KExc K excNames) :
    FnOk P w K mg base (L2.CX P w) 5 f fd ["_law_row", "_law_way"] (spD K (c_law_made K)) :=
  fn_DD (t := t_law_made K) F sc_law_made (by wtm_at "ln") (by decide)
    (fun cdv A outer s H E hr => by exact
      (pss_cons (ps_asg (pv 0) (pg_tup rfl (pgs_cons (pg_name (i := 2) sc_law_made.nd rfl (by wtm_at "oi")) (pgs_cons (pg_name (i := 3) sc_law_made.nd rfl (by wtm_at "oi")) (pgs_cons (pg_name (i := 4) sc_law_made.nd rfl (by wtm_at "oi")) (pgs_cons (pg_name (i := 5) sc_law_made.nd rfl (by wtm_at "oi")) (pgs_cons (pg_name (i := 6) sc_law_made.nd rfl (by wtm_at "oi")) pgs_nil)))))))
      (pss_cons (ps_set (i := 7) sc_law_made.nd rfl (by wtm_at "oi") pe_non)
      (pss_cons (ps_set (i := 8) sc_law_made.nd rfl (by wtm_at "oi") pe_non)
      (pss_cons (ps_try_kp (i := 9) rfl rfl rfl sc_law_made.nd rfl rfl ⟨(by rfl), (by decide), .inl g_ReadError⟩ LamX.takes0 (fun W pn xe tk po => by exact (pss_one (ps_if (PW.pt (pw_and (pt_cmpR (op_eqD hr.units) (pv 2) pe_str (nomark _)) (pw_and1 (pt_cmpR (op_eqD hr.units) (pv 1) pe_int (nomark _))))) (pss_one (ps_set (i := 7) sc_law_made.nd rfl (by wtm_at "oi") (pe_makeNS0 (ks := ["most", "name", "many"]) (perm := [1, 2, 0]) M_Yearly F_Yearly_init.F (hr.mono (by decide)) (by rfl) g_Yearly KN_Yearly_init_most_name_many (fun σ => passAt tk σ) (pk_cons (pv 5) (pk_cons (pv 3) (pk_cons (pv 4) pk_nil)))))) (pss_one (ps_if (pt_cmpR (op_eqD hr.units) (pv 2) pe_str (nomark _)) (pss_one (ps_set (i := 7) sc_law_made.nd rfl (by wtm_at "oi") (pe_makeS M_Yearly F_Yearly_init.F (hr.mono (by decide)) (by rfl) g_Yearly F_Yearly_init.B .nil (fun σ => passAt tk σ) (pa_cons (pv 3) (pa_cons (pv 4) (pa_cons (pv 5) pa_nil)))))) (pss_one (ps_if (pt_cmpR (op_eqD hr.units) (pv 1) pe_int (nomark _)) (pss_one (ps_set (i := 7) sc_law_made.nd rfl (by wtm_at "oi") (pe_makeS M_Going F_Going_init.F (hr.mono (by decide)) (by rfl) g_Going F_Going_init.B .nil (fun σ => passAt tk σ) (pa_cons (pv 3) (pa_cons (pv 4) (pa_cons (pv 5) (pa_cons (pv 6) pa_nil))))))) (pss_one (ps_if (PW.pt (pw_and (pt_cmpR (op_eqD hr.units) (pv 1) pe_int (nomark _)) (pw_and1 (pt_truth (pe_callS F_law_is_number.F (hr.mono (by decide)) (by rfl) F_law_is_number.m F_law_is_number.k F_law_is_number.B (fun σ => passAt tk σ) (pa_cons (pv 6) (pa_cons pe_int (pa_cons pe_int pa_nil)))) (by intro _; rfl))))) (pss_one (ps_set (i := 7) sc_law_made.nd rfl (by wtm_at "oi") (pe_makeS M_Going F_Going_init.F (hr.mono (by decide)) (by rfl) g_Going BD1_Going_init VD1_Going_init (fun σ => passAt tk σ) (pa_cons (pv 3) (pa_cons (pv 4) (pa_cons (pv 5) pa_nil)))))) (pss_one (ps_set (i := 7) sc_law_made.nd rfl (by wtm_at "oi") (pe_makeNS (n := 2) (ks := ["begin", "most"]) (perm := [1, 0]) M_Going F_Going_init.F (hr.mono (by decide)) (by rfl) g_Going KN_Going_init_begin_most (fun σ => passAt tk σ) (pa_cons (pv 3) (pa_cons (pv 4) pa_nil)) (pk_cons (pv 6) (pk_cons (pv 5) pk_nil)))))))))))))) (fun a pn => by exact (pss_one (ps_set (i := 8) sc_law_made.nd rfl (by wtm_at "oi") (pv 9)))))
      (pss_one (ps_ret (pe_tup (pa_cons (pv 7) (pa_cons (pv 8) pa_nil))))))))))
    (d_law_made kx)
abbrev N_law_is_title : List Str := ["_law_thing", "_law_letters", "_law_sign"]
theorem sc_law_is_title : FnScope N_law_is_title ["_law_thing"] (defScope s_law_is_title) := by wtm_at "sn"
theorem ok_law_is_title {f : Addr} {fd : FuncData} (F : GD K "_law_is_title" "_law_is_title" s_law_is_title f fd) (n_str : mg "str" = none) (n_isinstance : mg "isinstance" = none) (n_len : mg "len" = none) :
    FnOk P w K mg base (L2.CX P w) 1 f fd ["_law_thing"] (spD K (c_law_is_title K)) :=
  fn_DD (t := t_law_is_title K) F sc_law_is_title (by wtm_at "ln") (by decide)
    (fun cdv A outer s H E hr => by exact
      (pss_cons (ps_set (i := 1) sc_law_is_title.nd rfl (by wtm_at "oi") pe_str)
      (pss_cons (ps_if (PW.pt (pw_or (pt_not (pt_truth (pe_callB call_isi (by rfl) n_isinstance (by decide +kernel) (pa_cons (pv 0) (pa_cons (pe_bltn (v := .ty "str") (by rfl) n_str (by decide +kernel) rfl) pa_nil))) (by intro _; rfl))) (pw_or1 (pt_not (pt_chain op_le op_le pe_int (pe_callB call_len (by rfl) n_len (by decide +kernel) (pa_cons (pv 0) pa_nil)) pe_int))))) (pss_one (ps_ret pe_bl)) pss_nil)
      (pss_one (ps_ret (pe_cmpR (op_eqD hr.units) (pe_lc (own := [("_law_sign", 2)]) (g := (gName 2)) (tt := (tTest (tOp (rNotInA K) (tVar 2) (tVar 1)))) (te := (tVar 2)) (by rfl) sc_law_is_title.nd (pi_any (pv 0)) (blkOk_by (own := [("_law_sign", 2)]) (N := N_law_is_title) (sc := defScope s_law_is_title) (by decide +kernel)) (fun _ _ _ _ _ => by exact (pg_name (i := 2) sc_law_is_title.nd rfl (by wtm_at "oi"))) (fun _ _ _ _ _ => by exact (pts_one (pt_cmpR op_notInA (pv 2) (pv 1) (by rfl)))) (fun _ _ _ _ _ => by exact (pv 2))) (pe_lst pa_nil) (nomark _)))))))
    (d_law_is_title)
abbrev N_law_is_row : List Str := ["_law_row", "_law_kind", "_law_title_here", "_law_often", "_law_top", "_law_start"]
theorem sc_law_is_row : FnScope N_law_is_row ["_law_row"] (defScope s_law_is_row) := by wtm_at "sn"
theorem ok_law_is_row {f : Addr} {fd : FuncData} {f_law_is_title f_law_is_number : Addr} {fd_law_is_title fd_law_is_number : FuncData} (F : GD K "_law_is_row" "_law_is_row" s_law_is_row f fd) (F_law_is_title : FG P w K mg base 1 f_law_is_title fd_law_is_title ["_law_thing"] (c_law_is_title K) "_law_is_title") (F_law_is_number : FG P w K mg base 1 f_law_is_number fd_law_is_number ["_law_thing", "_law_low", "_law_top"] (c_law_is_number K) "_law_is_number") :
    FnOk P w K mg base (L2.CX P w) 2 f fd ["_law_row"] (spD K (c_law_is_row K)) :=
  fn_DD (t := t_law_is_row K) F sc_law_is_row (by wtm_at "ln") (by decide)
    (fun cdv A outer s H E hr => by exact
      (pss_cons (ps_asg (pv 0) (pg_tup rfl (pgs_cons (pg_name (i := 1) sc_law_is_row.nd rfl (by wtm_at "oi")) (pgs_cons (pg_name (i := 2) sc_law_is_row.nd rfl (by wtm_at "oi")) (pgs_cons (pg_name (i := 3) sc_law_is_row.nd rfl (by wtm_at "oi")) (pgs_cons (pg_name (i := 4) sc_law_is_row.nd rfl (by wtm_at "oi")) (pgs_cons (pg_name (i := 5) sc_law_is_row.nd rfl (by wtm_at "oi")) pgs_nil)))))))
      (pss_cons (ps_if (PW.pt (pw_or (pt_not (pt_truth (pe_call F_law_is_title.F (hr.mono (by decide)) (by rfl) F_law_is_title.m F_law_is_title.k F_law_is_title.B .nil (by wtm_at "pk") (pa_cons (pv 2) pa_nil)) (by intro _; rfl))) (pw_or (pt_not (pt_truth (pe_call F_law_is_number.F (hr.mono (by decide)) (by rfl) F_law_is_number.m F_law_is_number.k F_law_is_number.B .nil (by wtm_at "pk") (pa_cons (pv 3) (pa_cons pe_int (pa_cons (pe_op op_pow pe_int pe_int) pa_nil)))) (by intro _; rfl))) (pw_or1 (pt_not (pt_truth (pe_call F_law_is_number.F (hr.mono (by decide)) (by rfl) F_law_is_number.m F_law_is_number.k F_law_is_number.B .nil (by wtm_at "pk") (pa_cons (pv 4) (pa_cons pe_int (pa_cons pe_int pa_nil)))) (by intro _; rfl))))))) (pss_one (ps_ret pe_bl)) pss_nil)
      (pss_one (ps_ret (pe_or (pe_cmpR (op_eqD hr.units) (pv 1) pe_str (nomark _)) (pe_one (pe_call F_law_is_number.F (hr.mono (by decide)) (by rfl) F_law_is_number.m F_law_is_number.k F_law_is_number.B .nil (by wtm_at "pk") (pa_cons (pv 5) (pa_cons pe_int (pa_cons (pe_op op_sub (pv 3) pe_int) pa_nil)))))))))))
    (d_law_is_row)
abbrev N_Going_told : List Str := ["self"]
theorem sc_Going_told : FnScope N_Going_told ["self"] (defScope s_Going_told) := by wtm_at "sn"
theorem ok_Going_told {f : Addr} {fd : FuncData} (F : GD K "told" "Going.told" s_Going_told f fd) (kr : KRw K) :
    FnOk P w K mg base (L2.CX P w) 1 f fd ["self"] (spD K (c_Going_told K)) :=
  fn_DD (t := t_Going_told K) F sc_Going_told (by wtm_at "ln") (by decide)
    (fun cdv A outer s H E hr => by exact
      (pss_one (ps_ret (pe_tup (pa_cons pe_str (pa_cons (pe_fld (pv 0) rfl) (pa_cons (pe_fld (pv 0) rfl) (pa_cons (pe_fld (pv 0) rfl) (pa_cons (pe_fld (pv 0) rfl) pa_nil)))))))))
    (d_Going_told kr)
abbrev N_Yearly_told : List Str := ["self"]
theorem sc_Yearly_told : FnScope N_Yearly_told ["self"] (defScope s_Yearly_told) := by wtm_at "sn"
theorem ok_Yearly_told {f : Addr} {fd : FuncData} (F : GD K "told" "Yearly.told" s_Yearly_told f fd) (kr : KRw K) :
    FnOk P w K mg base (L2.CX P w) 1 f fd ["self"] (spD K (c_Yearly_told K)) :=
  fn_DD (t := t_Yearly_told K) F sc_Yearly_told (by wtm_at "ln") (by decide)
    (fun cdv A outer s H E hr => by exact
      (pss_one (ps_ret (pe_tup (pa_cons pe_str (pa_cons (pe_fld (pv 0) rfl) (pa_cons (pe_fld (pv 0) rfl) (pa_cons (pe_fld (pv 0) rfl) pa_nil))))))))
    (d_Yearly_told kr)
abbrev N_Going_eq : List Str := ["self", "other"]
theorem sc_Going_eq : FnScope N_Going_eq ["self", "other"] (defScope s_Going_eq) := by wtm_at "sn"
theorem ok_Going_eq {f : Addr} {fd : FuncData} {f_Going_told : Addr} {fd_Going_told : FuncData} (F : GD K "__eq__" "Going.__eq__" s_Going_eq f fd) (F_Going_told : FQ P w K mg base 1 f_Going_told fd_Going_told ["self"] (c_Going_told K)) (g_Going : mg "Going" = some (.ref (He.ga K "Going"))) (n_isinstance : mg "isinstance" = none) (cl_Going : Cls K (He.ga K "Going")) (mm_Going_told : Meth K (He.ga K "Going") "told" f_Going_told) (kq_Going : KEq K "Going") :
    FnOk P w K mg base (L2.CX P w) 2 f fd ["self", "other"] (spD K (c_Going_eq K)) :=
  fn_DD (t := t_Going_eq K) F sc_Going_eq (by wtm_at "ln") (by decide)
    (fun cdv A outer s H E hr => by exact
      (pss_one (ps_ret (pe_and (pe_callB call_isi (by rfl) n_isinstance (by decide +kernel) (pa_cons (pv 1) (pa_cons (pe_glob (v := .ref (He.ga K "Going")) (by rfl) g_Going rfl) pa_nil))) (pe_one (pe_cmpR (op_eqD hr.units) (pe_meth0 (pv 0) cl_Going mm_Going_told F_Going_told.F (hr.mono (by decide)) F_Going_told.B .nil (by wtm_at "pk")) (pe_meth0 (pv 1) cl_Going mm_Going_told F_Going_told.F (hr.mono (by decide)) F_Going_told.B .nil (by wtm_at "pk")) (nomark _)))))))
    (d_Going_eq kq_Going)
abbrev N_Yearly_eq : List Str := ["self", "other"]
theorem sc_Yearly_eq : FnScope N_Yearly_eq ["self", "other"] (defScope s_Yearly_eq) := by wtm_at "sn"
theorem ok_Yearly_eq {f : Addr} {fd : FuncData} {f_Yearly_told : Addr} {fd_Yearly_told : FuncData} (F : GD K "__eq__" "Yearly.__eq__" s_Yearly_eq f fd) (F_Yearly_told : FQ P w K mg base 1 f_Yearly_told fd_Yearly_told ["self"] (c_Yearly_told K)) (g_Yearly : mg "Yearly" = some (.ref (He.ga K "Yearly"))) (n_isinstance : mg "isinstance" = none) (cl_Yearly : Cls K (He.ga K "Yearly")) (mm_Yearly_told : Meth K (He.ga K "Yearly") "told" f_Yearly_told) (kq_Yearly : KEq K "Yearly") :
    FnOk P w K mg base (L2.CX P w) 2 f fd ["self", "other"] (spD K (c_Yearly_eq K)) :=
  fn_DD (t := t_Yearly_eq K) F sc_Yearly_eq (by wtm_at "ln") (by decide)
    (fun cdv A outer s H E hr => by exact
      (pss_one (ps_ret (pe_and (pe_callB call_isi (by rfl) n_isinstance (by decide +kernel) (pa_cons (pv 1) (pa_cons (pe_glob (v := .ref (He.ga K "Yearly")) (by rfl) g_Yearly rfl) pa_nil))) (pe_one (pe_cmpR (op_eqD hr.units) (pe_meth0 (pv 0) cl_Yearly mm_Yearly_told F_Yearly_told.F (hr.mono (by decide)) F_Yearly_told.B .nil (by wtm_at "pk")) (pe_meth0 (pv 1) cl_Yearly mm_Yearly_told F_Yearly_told.F (hr.mono (by decide)) F_Yearly_told.B .nil (by wtm_at "pk")) (nomark _)))))))
    (d_Yearly_eq kq_Yearly)
abbrev N_are_numbers : List Str := ["thing", "long", "least", "most", "one"]
theorem sc_are_numbers : FnScope N_are_numbers ["thing", "long", "least", "most"] (defScope s_are_numbers) := by wtm_at "sn"
theorem ok_are_numbers {f : Addr} {fd : FuncData} {f_is_number : Addr} {fd_is_number : FuncData} (F : GD K "are_numbers" "are_numbers" s_are_numbers f fd) (F_is_number : FG P w K mg base 1 f_is_number fd_is_number ["thing", "least", "most"] (c_is_number K) "is_number") (n_list : mg "list" = none) (n_isinstance : mg "isinstance" = none) (n_len : mg "len" = none) (n_all : mg "all" = none) :
    FnOk P w K mg base (L2.CX P w) 2 f fd ["thing", "long", "least", "most"] (spD K (c_are_numbers K)) :=
  fn_DD (t := t_are_numbers K) F sc_are_numbers (by wtm_at "ln") (by decide)
    (fun cdv A outer s H E hr => by exact
      (pss_cons (ps_if (PW.pt (pw_or (pt_not (pt_truth (pe_callB call_isi (by rfl) n_isinstance (by decide +kernel) (pa_cons (pv 0) (pa_cons (pe_bltn (v := .ty "list") (by rfl) n_list (by decide +kernel) rfl) pa_nil))) (by intro _; rfl))) (pw_or1 (pt_not (pt_chain op_le op_le pe_int (pe_callB call_len (by rfl) n_len (by decide +kernel) (pa_cons (pv 0) pa_nil)) (pv 1)))))) (pss_one (ps_ret pe_bl)) pss_nil)
      (pss_one (ps_ret (pe_callB (cr_all rfl) (by rfl) n_all (by decide +kernel) (pa_cons (pe_lc (own := [("one", 4)]) (g := (gName 4)) (tt := tYes) (te := (tCall (spD K (c_is_number K)) [] E0 (tCons (tVar 4) (tCons (tVar 2) (tCons (tVar 3) tNil))))) (by rfl) sc_are_numbers.nd (pi_any (pv 0)) (blkOk_by (own := [("one", 4)]) (N := N_are_numbers) (sc := defScope s_are_numbers) (by decide +kernel)) (fun _ _ _ _ _ => by exact (pg_name (i := 4) sc_are_numbers.nd rfl (by wtm_at "oi"))) (fun _ _ _ _ _ => by exact pts_nil) (fun _ _ _ _ _ => by exact (pe_call F_is_number.F (hr.mono (by decide)) (by rfl) F_is_number.m F_is_number.k F_is_number.B .nil passL (pa_cons (pv 4) (pa_cons (pv 2) (pa_cons (pv 3) pa_nil)))))) pa_nil))))))
    (d_are_numbers)
abbrev N_Calendar_init : List Str := ["self", "years", "days"]
theorem sc_Calendar_init : FnScope N_Calendar_init ["self", "years"] (defScope s_Calendar_init) := by wtm_at "sn"
theorem ok_Calendar_init {f : Addr} {fd : FuncData} {f_are_numbers : Addr} {fd_are_numbers : FuncData} (F : GD K "__init__" "Calendar.__init__" s_Calendar_init f fd) (F_are_numbers : FG P w K mg base 2 f_are_numbers fd_are_numbers ["thing", "long", "least", "most"] (c_are_numbers K) "are_numbers") (x_BadCalendar : ExC K mg "BadCalendar") (n_list : mg "list" = none) (kc : KCal K) :
    FnOk P w K mg base (L2.CX P w) 3 f fd ["self", "years"] (spD K (c_Calendar_init K)) :=
  fn_DD (t := t_Calendar_init K) F sc_Calendar_init (by wtm_at "ln") (by decide)
    (fun cdv A outer s H E hr => by exact
      (pss_cons (ps_if (pt_not (pt_truth (pe_call F_are_numbers.F (hr.mono (by decide)) (by rfl) F_are_numbers.m F_are_numbers.k F_are_numbers.B .nil (by wtm_at "pk") (pa_cons (pv 1) (pa_cons pe_int (pa_cons pe_int (pa_cons pe_int pa_nil))))) (by intro _; rfl))) (pss_one (ps_raise rfl (takes_of rfl rfl rfl rfl) (pmk_own PySem.F.excBase_ValueError x_BadCalendar.xc x_BadCalendar.gc x_BadCalendar.kc (raises_own x_BadCalendar.bc x_BadCalendar.tc) (by rfl)))) pss_nil)
      (pss_cons (ps_fld (pv 0) (pe_callTy call_list_of (by rfl) n_list (by decide +kernel) (pa_cons (pv 1) pa_nil)) rfl)
      (pss_cons (ps_fld (pv 0) (pe_lst pa_nil) rfl)
      (pss_cons (ps_fld (pv 0) pe_int rfl)
      (pss_one (ps_for (passes_of rfl) rfl (pi_any (pe_fld (pv 0) rfl)) (pg_name (i := 2) sc_Calendar_init.nd rfl (by wtm_at "oi")) (pss_cons (ps_expr (pe_bm PySem.F.plainAttrs_list PySem.F.slot_list_append PySem.F.type_list_append mt_append (pe_fld (pv 0) rfl) (pa_cons (pe_fld (pv 0) rfl) pa_nil)))
      (pss_one (ps_fldaug (pv 0) (pv 2) in_add))))))))))
    (d_Calendar_init kc)
abbrev N_law_others : List Str := ["_law_row", "_law_kind", "_law_title_here", "_law_often", "_law_top", "_law_start", "_law_more", "_law_found"]
theorem sc_law_others : FnScope N_law_others ["_law_row"] (defScope s_law_others) := by wtm_at "sn"
theorem ok_law_others {f : Addr} {fd : FuncData} (F : GD K "_law_others" "_law_others" s_law_others f fd) (n_int : mg "int" = none) (n_min : mg "min" = none) :
    FnOk P w K mg base (L2.CX P w) 1 f fd ["_law_row"] (spD K (c_law_others K)) :=
  fn_DD (t := t_law_others K) F sc_law_others (by wtm_at "ln") (by decide)
    (fun cdv A outer s H E hr => by exact
      (pss_cons (ps_asg (pv 0) (pg_tup rfl (pgs_cons (pg_name (i := 1) sc_law_others.nd rfl (by wtm_at "oi")) (pgs_cons (pg_name (i := 2) sc_law_others.nd rfl (by wtm_at "oi")) (pgs_cons (pg_name (i := 3) sc_law_others.nd rfl (by wtm_at "oi")) (pgs_cons (pg_name (i := 4) sc_law_others.nd rfl (by wtm_at "oi")) (pgs_cons (pg_name (i := 5) sc_law_others.nd rfl (by wtm_at "oi")) pgs_nil)))))))
      (pss_cons (ps_if (pt_cmpR (op_eqD hr.units) (pv 1) pe_str (nomark _)) (pss_one (ps_set (i := 5) sc_law_others.nd rfl (by wtm_at "oi") pe_int)) pss_nil)
      (pss_cons (ps_set (i := 6) sc_law_others.nd rfl (by wtm_at "oi") (pe_op op_addA (pv 3) pe_int))
      (pss_cons (ps_if (pt_cmpR (op_eqD hr.units) (pv 3) (pe_op op_pow pe_int pe_int) (nomark _)) (pss_one (ps_set (i := 6) sc_law_others.nd rfl (by wtm_at "oi") (pe_op op_sub (pv 3) pe_int))) pss_nil)
      (pss_cons (ps_set (i := 7) sc_law_others.nd rfl (by wtm_at "oi") (pe_lst (pa_cons (pe_tup (pa_cons (pv 1) (pa_cons (pe_op op_addA (pe_slice sl_any (pv 2) po_none (po_some (pe_un un_neg pe_int))) (pe_ix ix_seq pe_str (pe_callTy call_int1 (by rfl) n_int (by decide +kernel) (pa_cons (pe_cmpR (op_eqD hr.units) (pe_ix ix_seq (pv 2) (pe_un un_neg pe_int) (fun _ _ => rfl)) pe_str (nomark _)) pa_nil)) (fun _ _ => rfl))) (pa_cons (pv 3) (pa_cons (pv 4) (pa_cons (pv 5) pa_nil)))))) pa_nil)))
      (pss_cons (ps_set (i := 7) sc_law_others.nd rfl (by wtm_at "oi") (pe_op op_addA (pv 7) (pe_lst (pa_cons (pe_tup (pa_cons (pv 1) (pa_cons (pv 2) (pa_cons (pv 6) (pa_cons (pv 4) (pa_cons (pe_callB (call_minA rfl) (by rfl) n_min (by decide +kernel) (pa_cons (pv 5) (pa_cons (pe_op op_sub (pv 6) pe_int) pa_nil))) pa_nil)))))) (pa_cons (pe_tup (pa_cons (pv 1) (pa_cons (pv 2) (pa_cons (pv 3) (pa_cons (pe_op op_addA pe_int (pe_op op_modA (pv 4) pe_int)) (pa_cons (pv 5) pa_nil)))))) pa_nil)))))
      (pss_cons (ps_if (PW.pt (pw_and (pt_cmpR (op_eqD hr.units) (pv 1) pe_str (nomark _)) (pw_and1 (pt_cmpR op_gt (pv 3) pe_int (nomark _))))) (pss_one (ps_expr (pe_bm PySem.F.plainAttrs_list PySem.F.slot_list_append PySem.F.type_list_append mt_append (pv 7) (pa_cons (pe_tup (pa_cons (pv 1) (pa_cons (pv 2) (pa_cons (pv 3) (pa_cons (pv 4) (pa_cons (pe_op op_modA (pe_op op_addA (pv 5) pe_int) (pv 3)) pa_nil)))))) pa_nil)))) pss_nil)
      (pss_one (ps_ret (pv 7)))))))))))
    (d_law_others)
abbrev N_law_is_told : List Str := ["_law_found", "_law_row", "_law_due", "_law_other", "_law_more", "_law_one", "_law_near"]
theorem sc_law_is_told : FnScope N_law_is_told ["_law_found", "_law_row"] (defScope s_law_is_told) := by wtm_at "sn"
theorem ok_law_is_told {f : Addr} {fd : FuncData} {f_Going_told f_Yearly_told f_Going_init f_Yearly_init f_Going_eq f_Yearly_eq f_Calendar_init f_law_made f_law_others : Addr} {fd_Going_told fd_Yearly_told fd_Going_init fd_Yearly_init fd_Going_eq fd_Yearly_eq fd_Calendar_init fd_law_made fd_law_others : FuncData} {dd1_Going_init : List Value} (F : GD K "_law_is_told" "_law_is_told" s_law_is_told f fd) (F_Going_told : FQ P w K mg base 1 f_Going_told fd_Going_told ["self"] (c_Going_told K)) (F_Yearly_told : FQ P w K mg base 1 f_Yearly_told fd_Yearly_told ["self"] (c_Yearly_told K)) (F_Going_init : FQ P w K mg base 3 f_Going_init fd_Going_init ["self", "name", "many", "most", "begin"] (c_Going_init K)) (M_Going : Mk K (He.ga K "Going") f_Going_init) (F_Yearly_init : FQ P w K mg base 3 f_Yearly_init fd_Yearly_init ["self", "name", "many", "most"] (c_Yearly_init K)) (M_Yearly : Mk K (He.ga K "Yearly") f_Yearly_init) (F_Going_eq : FQ P w K mg base 2 f_Going_eq fd_Going_eq ["self", "other"] (c_Going_eq K)) (F_Yearly_eq : FQ P w K mg base 2 f_Yearly_eq fd_Yearly_eq ["self", "other"] (c_Yearly_eq K)) (F_Calendar_init : FQ P w K mg base 3 f_Calendar_init fd_Calendar_init ["self", "years"] (c_Calendar_init K)) (M_Calendar : Mk K (He.ga K "Calendar") f_Calendar_init) (F_law_made : FG P w K mg base 5 f_law_made fd_law_made ["_law_row", "_law_way"] (c_law_made K) "_law_made") (F_law_others : FG P w K mg base 1 f_law_others fd_law_others ["_law_row"] (c_law_others K) "_law_others") (g_Row : mg "Row" = some (.ref (He.ga K "Row"))) (n_isinstance : mg "isinstance" = none) (cl_Going : Cls K (He.ga K "Going")) (mm_Going_told : Meth K (He.ga K "Going") "told" f_Going_told) (cl_Yearly : Cls K (He.ga K "Yearly")) (mm_Yearly_told : Meth K (He.ga K "Yearly") "told" f_Yearly_told) (n_tuple : mg "tuple" = none) (g_Going : mg "Going" = some (.ref (He.ga K "Going"))) (g_Yearly : mg "Yearly" = some (.ref (He.ga K "Yearly"))) (BD1_Going_init : Binds K fd_Going_init ["self", "name", "many", "most", "begin"] dd1_Going_init) (VD1_Going_init : Vals [.int (0)] dd1_Going_init) (mm_Going_eq : Meth K (He.ga K "Going") "__eq__" f_Going_eq) (mm_Yearly_eq : Meth K (He.ga K "Yearly") "__eq__" f_Yearly_eq) (g_Calendar : mg "Calendar" = some (.ref (He.ga K "Calendar"))) (ne_Going : NeO K (He.ga K "Going")) (ne_Yearly : NeO K (He.ga K "Yearly")) (ki : KIsR K) (kq_Going : KEq K "Going") (kq_Yearly : KEq K "Yearly") (kn_Going_Yearly : KNe K "Going" "Yearly") (kn_Yearly_Going : KNe K "Yearly" "Going") (kn_Going_Calendar : KNe K "Going" "Calendar") (kn_Yearly_Calendar : KNe K "Yearly" "Calendar") :
    FnOk P w K mg base (L2.CX P w) 6 f fd ["_law_found", "_law_row"] (spD K (c_law_is_told K)) :=
  fn_DD (t := t_law_is_told K) F sc_law_is_told (by wtm_at "ln") (by decide)
    (fun cdv A outer s H E hr => by exact
      (pss_cons (ps_set (i := 2) sc_law_is_told.nd rfl (by wtm_at "oi") (pe_ifExp (pt_cmpR (op_eqD hr.units) (pe_ix ix_seq (pv 1) pe_int (fun _ _ => rfl)) pe_str (nomark _)) (pv 1) (pe_slice sl_any (pv 1) po_none (po_some pe_int))))
      (pss_cons (ps_if (PW.pt (pw_or (pt_not (pt_truth (pe_callB call_isi (by rfl) n_isinstance (by decide +kernel) (pa_cons (pv 0) (pa_cons (pe_glob (v := .ref (He.ga K "Row")) (by rfl) g_Row rfl) pa_nil))) (by intro _; rfl))) (pw_or (pt_cmpR (op_neD hr.units) (PE.or (pe_meth0 (pv 0) cl_Going mm_Going_told F_Going_told.F (hr.mono (by decide)) F_Going_told.B .nil (by wtm_at "pk")) (pe_meth0 (pv 0) cl_Yearly mm_Yearly_told F_Yearly_told.F (hr.mono (by decide)) F_Yearly_told.B .nil (by wtm_at "pk"))) (pv 2) (nomark _)) (pw_or1 (pt_not (pt_truth (pe_callB call_isi (by rfl) n_isinstance (by decide +kernel) (pa_cons (PE.or (pe_meth0 (pv 0) cl_Going mm_Going_told F_Going_told.F (hr.mono (by decide)) F_Going_told.B .nil (by wtm_at "pk")) (pe_meth0 (pv 0) cl_Yearly mm_Yearly_told F_Yearly_told.F (hr.mono (by decide)) F_Yearly_told.B .nil (by wtm_at "pk"))) (pa_cons (pe_bltn (v := .ty "tuple") (by rfl) n_tuple (by decide +kernel) rfl) pa_nil))) (by intro _; rfl))))))) (pss_one (ps_ret pe_bl)) pss_nil)
      (pss_cons (ps_if (PW.pt (pw_or (pt_cmpR (op_neD hr.units) (pe_callB call_isi (by rfl) n_isinstance (by decide +kernel) (pa_cons (pv 0) (pa_cons (pe_glob (v := .ref (He.ga K "Going")) (by rfl) g_Going rfl) pa_nil))) (pe_cmpR (op_eqD hr.units) (pe_ix ix_seq (pv 1) pe_int (fun _ _ => rfl)) pe_str (nomark _)) (nomark _)) (pw_or1 (pt_cmpR (op_neD hr.units) (pe_callB call_isi (by rfl) n_isinstance (by decide +kernel) (pa_cons (pv 0) (pa_cons (pe_glob (v := .ref (He.ga K "Yearly")) (by rfl) g_Yearly rfl) pa_nil))) (pe_cmpR (op_eqD hr.units) (pe_ix ix_seq (pv 1) pe_int (fun _ _ => rfl)) pe_str (nomark _)) (nomark _))))) (pss_one (ps_ret pe_bl)) pss_nil)
      (pss_cons (ps_set (i := 3) sc_law_is_told.nd rfl (by wtm_at "oi") (pe_make M_Going F_Going_init.F (hr.mono (by decide)) (by rfl) g_Going BD1_Going_init VD1_Going_init (by wtm_at "pk") (pa_cons (pe_ix ix_seq (pv 1) pe_int (fun _ _ => rfl)) (pa_cons (pe_ix ix_seq (pv 1) pe_int (fun _ _ => rfl)) (pa_cons (pe_ix ix_seq (pv 1) pe_int (fun _ _ => rfl)) pa_nil)))))
      (pss_cons (ps_if (pt_cmpR (op_eqD hr.units) (pe_ix ix_seq (pv 1) pe_int (fun _ _ => rfl)) pe_str (nomark _)) (pss_one (ps_set (i := 3) sc_law_is_told.nd rfl (by wtm_at "oi") (pe_make M_Yearly F_Yearly_init.F (hr.mono (by decide)) (by rfl) g_Yearly F_Yearly_init.B .nil (by wtm_at "pk") (pa_cons (pe_ix ix_seq (pv 1) pe_int (fun _ _ => rfl)) (pa_cons (pe_ix ix_seq (pv 1) pe_int (fun _ _ => rfl)) (pa_cons (pe_ix ix_seq (pv 1) pe_int (fun _ _ => rfl)) pa_nil)))))) pss_nil)
      (pss_cons (ps_set (i := 4) sc_law_is_told.nd rfl (by wtm_at "oi") (pe_make M_Yearly F_Yearly_init.F (hr.mono (by decide)) (by rfl) g_Yearly F_Yearly_init.B .nil (by wtm_at "pk") (pa_cons (pe_ix ix_seq (pv 1) pe_int (fun _ _ => rfl)) (pa_cons (pe_ix ix_seq (pv 1) pe_int (fun _ _ => rfl)) (pa_cons (pe_op op_sub pe_int (pe_ix ix_seq (pv 1) pe_int (fun _ _ => rfl))) pa_nil)))))
      (pss_cons (ps_if (pt_cmpR (op_neD hr.units) (pe_cmpR (op_or (op_eqO mm_Going_eq F_Going_eq.F (hr.mono (by decide)) F_Going_eq.B (by wtm_at "pk")) (op_eqO mm_Yearly_eq F_Yearly_eq.F (hr.mono (by decide)) F_Yearly_eq.B (by wtm_at "pk"))) (pv 0) (pv 4) (nomark _)) (pe_and (pe_cmpR (op_eqD hr.units) (pe_ix ix_seq (pv 1) pe_int (fun _ _ => rfl)) pe_str (nomark _)) (pe_one (pe_cmpR (op_eqD hr.units) (pe_ix ix_seq (pv 1) pe_int (fun _ _ => rfl)) pe_int (nomark _)))) (nomark _)) (pss_one (ps_ret pe_bl)) pss_nil)
      (pss_cons (ps_if (PW.pt (pw_or (pt_cmpR (op_or (op_eqO mm_Going_eq F_Going_eq.F (hr.mono (by decide)) F_Going_eq.B (by wtm_at "pk")) (op_eqO mm_Yearly_eq F_Yearly_eq.F (hr.mono (by decide)) F_Yearly_eq.B (by wtm_at "pk"))) (pv 0) (pv 3) (nomark _)) (pw_or (pt_cmpR (op_or (op_eqO mm_Going_eq F_Going_eq.F (hr.mono (by decide)) F_Going_eq.B (by wtm_at "pk")) (op_eqO mm_Yearly_eq F_Yearly_eq.F (hr.mono (by decide)) F_Yearly_eq.B (by wtm_at "pk"))) (pv 3) (pv 0) (nomark _)) (pw_or (pt_cmpR (op_or (op_eqO mm_Going_eq F_Going_eq.F (hr.mono (by decide)) F_Going_eq.B (by wtm_at "pk")) (op_eqO mm_Yearly_eq F_Yearly_eq.F (hr.mono (by decide)) F_Yearly_eq.B (by wtm_at "pk"))) (pv 0) (pe_make M_Calendar F_Calendar_init.F (hr.mono (by decide)) (by rfl) g_Calendar F_Calendar_init.B .nil (by wtm_at "pk") (pa_cons (pe_lst (pa_cons pe_int pa_nil)) pa_nil)) (nomark _)) (pw_or1 (pt_not (pt_cmpR (op_or (op_eqO mm_Going_eq F_Going_eq.F (hr.mono (by decide)) F_Going_eq.B (by wtm_at "pk")) (op_eqO mm_Yearly_eq F_Yearly_eq.F (hr.mono (by decide)) F_Yearly_eq.B (by wtm_at "pk"))) (pv 0) (pe_ix ix_seq (pe_call F_law_made.F (hr.mono (by decide)) (by rfl) F_law_made.m F_law_made.k F_law_made.B .nil (by wtm_at "pk") (pa_cons (pv 1) (pa_cons pe_int pa_nil))) pe_int (fun _ _ => rfl)) (nomark _)))))))) (pss_one (ps_ret pe_bl)) pss_nil)
      (pss_cons (ps_for (passes_of rfl) rfl (pi_any (pe_call F_law_others.F (hr.mono (by decide)) (by rfl) F_law_others.m F_law_others.k F_law_others.B .nil (by wtm_at "pk") (pa_cons (pv 1) pa_nil))) (pg_name (i := 5) sc_law_is_told.nd rfl (by wtm_at "oi")) (pss_cons (ps_set (i := 6) sc_law_is_told.nd rfl (by wtm_at "oi") (pe_ix ix_seq (pe_call F_law_made.F (hr.mono (by decide)) (by rfl) F_law_made.m F_law_made.k F_law_made.B .nil (by wtm_at "pk") (pa_cons (pv 5) (pa_cons pe_int pa_nil))) pe_int (fun _ _ => rfl)))
      (pss_one (ps_if (PW.pt (pw_or (pt_cmpR (op_or (op_eqO mm_Going_eq F_Going_eq.F (hr.mono (by decide)) F_Going_eq.B (by wtm_at "pk")) (op_eqO mm_Yearly_eq F_Yearly_eq.F (hr.mono (by decide)) F_Yearly_eq.B (by wtm_at "pk"))) (pv 0) (pv 6) (nomark _)) (pw_or (pt_cmpR (op_or (op_eqO mm_Going_eq F_Going_eq.F (hr.mono (by decide)) F_Going_eq.B (by wtm_at "pk")) (op_eqO mm_Yearly_eq F_Yearly_eq.F (hr.mono (by decide)) F_Yearly_eq.B (by wtm_at "pk"))) (pv 6) (pv 0) (nomark _)) (pw_or1 (pt_not (pt_cmpR (op_or (op_neO mm_Going_eq ne_Going F_Going_eq.F (hr.mono (by decide)) F_Going_eq.B (by wtm_at "pk")) (op_neO mm_Yearly_eq ne_Yearly F_Yearly_eq.F (hr.mono (by decide)) F_Yearly_eq.B (by wtm_at "pk"))) (pv 0) (pv 6) (nomark _))))))) (pss_one (ps_ret pe_bl)) pss_nil))))
      (pss_one (ps_ret pe_bl))))))))))))
    (d_law_is_told ki kq_Going kq_Yearly kn_Going_Yearly kn_Yearly_Going kn_Going_Calendar kn_Yearly_Calendar)
abbrev N_law_marks : List Str := ["_law_e", "_law_marks_here"]
theorem sc_law_marks : FnScope N_law_marks ["_law_e"] (defScope s_law_marks) := by wtm_at "sn"
theorem ok_law_marks {f : Addr} {fd : FuncData} (F : GD K "_law_marks" "_law_marks" s_law_marks f fd) (g_BadRow : mg "BadRow" = some (.ref (He.ga K "BadRow"))) (n_isinstance : mg "isinstance" = none) (g_BadFeast : mg "BadFeast" = some (.ref (He.ga K "BadFeast"))) (g_BadCalendar : mg "BadCalendar" = some (.ref (He.ga K "BadCalendar"))) (g_BadBook : mg "BadBook" = some (.ref (He.ga K "BadBook"))) (g_NoRow : mg "NoRow" = some (.ref (He.ga K "NoRow"))) (g_NoDay : mg "NoDay" = some (.ref (He.ga K "NoDay"))) (g_BadNumber : mg "BadNumber" = some (.ref (He.ga K "BadNumber"))) (g_BadHouse : mg "BadHouse" = some (.ref (He.ga K "BadHouse"))) (g_TooFar : mg "TooFar" = some (.ref (He.ga K "TooFar"))) (g_NeverDone : mg "NeverDone" = some (.ref (He.ga K "NeverDone"))) (g_TooTight : mg "TooTight" = some (.ref (He.ga K "TooTight"))) (g_NoPiece : mg "NoPiece" = some (.ref (He.ga K "NoPiece"))) (g_BadText : mg "BadText" = some (.ref (He.ga K "BadText"))) (g_NoDeed : mg "NoDeed" = some (.ref (He.ga K "NoDeed"))) (kx : KExc K excNames) :
    FnOk P w K mg base (L2.CX P w) 1 f fd ["_law_e"] (spD K (c_law_marks K)) :=
  fn_DD (t := t_law_marks K) F sc_law_marks (by wtm_at "ln") (by decide)
    (fun cdv A outer s H E hr => by exact
      (pss_cons (ps_set (i := 1) sc_law_marks.nd rfl (by wtm_at "oi") (pe_lst (pa_cons (pe_callB call_isX (by rfl) n_isinstance (by decide +kernel) (pa_cons (pv 0) (pa_cons (pe_glob (v := .ref (He.ga K "BadBook")) (by rfl) g_BadBook rfl) pa_nil))) (pa_cons (pe_callB call_isX (by rfl) n_isinstance (by decide +kernel) (pa_cons (pv 0) (pa_cons (pe_glob (v := .ref (He.ga K "BadCalendar")) (by rfl) g_BadCalendar rfl) pa_nil))) (pa_cons (pe_callB call_isX (by rfl) n_isinstance (by decide +kernel) (pa_cons (pv 0) (pa_cons (pe_glob (v := .ref (He.ga K "BadFeast")) (by rfl) g_BadFeast rfl) pa_nil))) (pa_cons (pe_callB call_isX (by rfl) n_isinstance (by decide +kernel) (pa_cons (pv 0) (pa_cons (pe_glob (v := .ref (He.ga K "BadRow")) (by rfl) g_BadRow rfl) pa_nil))) pa_nil))))))
      (pss_cons (ps_set (i := 1) sc_law_marks.nd rfl (by wtm_at "oi") (pe_op op_addA (pv 1) (pe_lst (pa_cons (pe_callB call_isX (by rfl) n_isinstance (by decide +kernel) (pa_cons (pv 0) (pa_cons (pe_glob (v := .ref (He.ga K "BadHouse")) (by rfl) g_BadHouse rfl) pa_nil))) (pa_cons (pe_callB call_isX (by rfl) n_isinstance (by decide +kernel) (pa_cons (pv 0) (pa_cons (pe_glob (v := .ref (He.ga K "BadNumber")) (by rfl) g_BadNumber rfl) pa_nil))) (pa_cons (pe_callB call_isX (by rfl) n_isinstance (by decide +kernel) (pa_cons (pv 0) (pa_cons (pe_glob (v := .ref (He.ga K "NoDay")) (by rfl) g_NoDay rfl) pa_nil))) (pa_cons (pe_callB call_isX (by rfl) n_isinstance (by decide +kernel) (pa_cons (pv 0) (pa_cons (pe_glob (v := .ref (He.ga K "NoRow")) (by rfl) g_NoRow rfl) pa_nil))) pa_nil)))))))
      (pss_cons (ps_set (i := 1) sc_law_marks.nd rfl (by wtm_at "oi") (pe_op op_addA (pv 1) (pe_lst (pa_cons (pe_callB call_isX (by rfl) n_isinstance (by decide +kernel) (pa_cons (pv 0) (pa_cons (pe_glob (v := .ref (He.ga K "NoPiece")) (by rfl) g_NoPiece rfl) pa_nil))) (pa_cons (pe_callB call_isX (by rfl) n_isinstance (by decide +kernel) (pa_cons (pv 0) (pa_cons (pe_glob (v := .ref (He.ga K "TooTight")) (by rfl) g_TooTight rfl) pa_nil))) (pa_cons (pe_callB call_isX (by rfl) n_isinstance (by decide +kernel) (pa_cons (pv 0) (pa_cons (pe_glob (v := .ref (He.ga K "NeverDone")) (by rfl) g_NeverDone rfl) pa_nil))) (pa_cons (pe_callB call_isX (by rfl) n_isinstance (by decide +kernel) (pa_cons (pv 0) (pa_cons (pe_glob (v := .ref (He.ga K "TooFar")) (by rfl) g_TooFar rfl) pa_nil))) pa_nil)))))))
      (pss_one (ps_ret (pe_op op_addA (pv 1) (pe_lst (pa_cons (pe_callB call_isX (by rfl) n_isinstance (by decide +kernel) (pa_cons (pv 0) (pa_cons (pe_glob (v := .ref (He.ga K "NoDeed")) (by rfl) g_NoDeed rfl) pa_nil))) (pa_cons (pe_callB call_isX (by rfl) n_isinstance (by decide +kernel) (pa_cons (pv 0) (pa_cons (pe_glob (v := .ref (He.ga K "BadText")) (by rfl) g_BadText rfl) pa_nil))) pa_nil))))))))))
    (d_law_marks kx)
abbrev N_law_is_alone : List Str := ["_law_e", "_law_word", "_law_words", "_law_place", "_law_marks_here"]
theorem sc_law_is_alone : FnScope N_law_is_alone ["_law_e", "_law_word"] (defScope s_law_is_alone) := by wtm_at "sn"
theorem ok_law_is_alone {f : Addr} {fd : FuncData} {f_law_marks : Addr} {fd_law_marks : FuncData} (F : GD K "_law_is_alone" "_law_is_alone" s_law_is_alone f fd) (F_law_marks : FG P w K mg base 1 f_law_marks fd_law_marks ["_law_e"] (c_law_marks K) "_law_marks") (g_ReadError : mg "ReadError" = some (.ref (He.ga K "ReadError"))) (n_isinstance : mg "isinstance" = none) (n_ValueError : mg "ValueError" = none) (kx : KExc K excNames) :
    FnOk P w K mg base (L2.CX P w) 2 f fd ["_law_e", "_law_word"] (spD K (c_law_is_alone K)) :=
  fn_DD (t := t_law_is_alone K) F sc_law_is_alone (by wtm_at "ln") (by decide)
    (fun cdv A outer s H E hr => by exact
      (pss_cons (ps_set (i := 2) sc_law_is_alone.nd rfl (by wtm_at "oi") (pe_lst (pa_cons pe_str (pa_cons pe_str (pa_cons pe_str (pa_cons pe_str (pa_cons pe_str (pa_cons pe_str (pa_cons pe_str (pa_cons pe_str (pa_cons pe_str (pa_cons pe_str (pa_cons pe_str (pa_cons pe_str pa_nil))))))))))))))
      (pss_cons (ps_set (i := 3) sc_law_is_alone.nd rfl (by wtm_at "oi") (pe_bm PySem.F.plainAttrs_list PySem.F.slot_list_index PySem.F.type_list_index (mt_indexD (hu65 hr)) (pe_op op_addA (pv 2) (pe_lst (pa_cons pe_str (pa_cons pe_str pa_nil)))) (pa_cons (pv 1) pa_nil)))
      (pss_cons (ps_set (i := 4) sc_law_is_alone.nd rfl (by wtm_at "oi") (pe_call F_law_marks.F (hr.mono (by decide)) (by rfl) F_law_marks.m F_law_marks.k F_law_marks.B .nil (by wtm_at "pk") (pa_cons (pv 0) pa_nil)))
      (pss_one (ps_ret (pe_and (pe_cmpR (op_eqD hr.units) (pe_bm PySem.F.plainAttrs_list PySem.F.slot_list_count PySem.F.type_list_count (mt_countD (hu65 hr)) (pv 4) (pa_cons pe_bl pa_nil)) pe_int (nomark _)) (pe_and (pe_ix ix_seq (pv 4) (pv 3) (fun _ _ => rfl)) (pe_and (pe_callB call_isX (by rfl) n_isinstance (by decide +kernel) (pa_cons (pv 0) (pa_cons (pe_glob (v := .ref (He.ga K "ReadError")) (by rfl) g_ReadError rfl) pa_nil))) (pe_one (pe_callB call_isX (by rfl) n_isinstance (by decide +kernel) (pa_cons (pv 0) (pa_cons (pe_bltn (v := .ty "ValueError") (by rfl) n_ValueError (by decide +kernel) rfl) pa_nil)))))))))))))
    (d_law_is_alone kx)
abbrev N_law : List Str := ["_law_script", "_law_draw", "_law_before", "_law_turn", "_law_kind", "_law_way", "_law_which", "_law_row", "_law_at", "_law_found", "_law_e"]
theorem sc_law : FnScope N_law ["_law_script"] (defScope s_law) := by wtm_at "sn"
theorem ok_law {f : Addr} {fd : FuncData} {f_law_begun f_law_pick f_law_take f_law_worth f_law_title f_law_is_number f_law_made f_law_is_row f_law_is_told f_law_is_alone : Addr} {fd_law_begun fd_law_pick fd_law_take fd_law_worth fd_law_title fd_law_is_number fd_law_made fd_law_is_row fd_law_is_told fd_law_is_alone : FuncData} (F : GD K "law" "law" s_law f fd) (F_law_begun : FG P w K mg base 1 f_law_begun fd_law_begun ["_law_script"] (c_law_begun K) "_law_begun") (F_law_pick : FG P w K mg base 2 f_law_pick fd_law_pick ["_law_draw", "_law_some"] (c_law_pick K) "_law_pick") (F_law_take : FG P w K mg base 1 f_law_take fd_law_take ["_law_draw", "_law_size"] (c_law_take K) "_law_take") (F_law_worth : FG P w K mg base 3 f_law_worth fd_law_worth ["_law_draw", "_law_low", "_law_top"] (c_law_worth K) "_law_worth") (F_law_title : FG P w K mg base 3 f_law_title fd_law_title ["_law_draw"] (c_law_title K) "_law_title") (F_law_is_number : FG P w K mg base 1 f_law_is_number fd_law_is_number ["_law_thing", "_law_low", "_law_top"] (c_law_is_number K) "_law_is_number") (F_law_made : FG P w K mg base 5 f_law_made fd_law_made ["_law_row", "_law_way"] (c_law_made K) "_law_made") (F_law_is_row : FG P w K mg base 2 f_law_is_row fd_law_is_row ["_law_row"] (c_law_is_row K) "_law_is_row") (F_law_is_told : FG P w K mg base 6 f_law_is_told fd_law_is_told ["_law_found", "_law_row"] (c_law_is_told K) "_law_is_told") (F_law_is_alone : FG P w K mg base 2 f_law_is_alone fd_law_is_alone ["_law_e", "_law_word"] (c_law_is_alone K) "_law_is_alone") (n_range : mg "range" = none) (n_tuple : mg "tuple" = none) :
    FnOk P w K mg base (L2.CX P w) 7 f fd ["_law_script"] (spD K (c_law K)) :=
  fn_DD (t := t_law K) F sc_law (by wtm_at "ln") (by decide)
    (fun cdv A outer s H E hr => by exact
      (pss_cons (ps_set (i := 1) sc_law.nd rfl (by wtm_at "oi") (pe_call F_law_begun.F (hr.mono (by decide)) (by rfl) F_law_begun.m F_law_begun.k F_law_begun.B .nil (by wtm_at "pk") (pa_cons (pv 0) pa_nil)))
      (pss_cons (ps_set (i := 2) sc_law.nd rfl (by wtm_at "oi") pe_non)
      (pss_cons (ps_for (passes_of rfl) rfl (pi_range1 (by rfl) n_range (pa_cons pe_int pa_nil)) (pg_name (i := 3) sc_law.nd rfl (by wtm_at "oi")) (pss_cons (ps_set (i := 4) sc_law.nd rfl (by wtm_at "oi") (pe_call F_law_pick.F (hr.mono (by decide)) (by rfl) F_law_pick.m F_law_pick.k F_law_pick.B .nil (by wtm_at "pk") (pa_cons (pv 1) (pa_cons (pe_lst (pa_cons pe_str (pa_cons pe_str pa_nil))) pa_nil))))
      (pss_cons (ps_set (i := 5) sc_law.nd rfl (by wtm_at "oi") (pe_call F_law_take.F (hr.mono (by decide)) (by rfl) F_law_take.m F_law_take.k F_law_take.B .nil (by wtm_at "pk") (pa_cons (pv 1) (pa_cons pe_int pa_nil))))
      (pss_cons (ps_set (i := 6) sc_law.nd rfl (by wtm_at "oi") (pe_call F_law_take.F (hr.mono (by decide)) (by rfl) F_law_take.m F_law_take.k F_law_take.B .nil (by wtm_at "pk") (pa_cons (pv 1) (pa_cons pe_int pa_nil))))
      (pss_cons (ps_set (i := 7) sc_law.nd rfl (by wtm_at "oi") (pe_lst (pa_cons (pv 4) (pa_cons pe_str (pa_cons pe_int (pa_cons pe_int (pa_cons pe_int pa_nil)))))))
      (pss_cons (ps_if (pt_cmpR op_lt (pv 6) pe_int (nomark _)) (pss_cons (ps_set (i := 7) sc_law.nd rfl (by wtm_at "oi") (pe_lst (pa_cons (pv 4) (pa_cons (pe_call F_law_title.F (hr.mono (by decide)) (by rfl) F_law_title.m F_law_title.k F_law_title.B .nil (by wtm_at "pk") (pa_cons (pv 1) pa_nil)) (pa_cons (pe_call F_law_worth.F (hr.mono (by decide)) (by rfl) F_law_worth.m F_law_worth.k F_law_worth.B .nil (by wtm_at "pk") (pa_cons (pv 1) (pa_cons pe_int (pa_cons (pe_op op_pow pe_int pe_int) pa_nil)))) (pa_cons (pe_call F_law_worth.F (hr.mono (by decide)) (by rfl) F_law_worth.m F_law_worth.k F_law_worth.B .nil (by wtm_at "pk") (pa_cons (pv 1) (pa_cons pe_int (pa_cons pe_int pa_nil)))) (pa_cons pe_int pa_nil)))))))
      (pss_one (ps_if (pt_truth (pe_call F_law_is_number.F (hr.mono (by decide)) (by rfl) F_law_is_number.m F_law_is_number.k F_law_is_number.B .nil (by wtm_at "pk") (pa_cons (pe_ix ix_seq (pv 7) pe_int (fun _ _ => rfl)) (pa_cons pe_int (pa_cons (pe_op op_pow pe_int pe_int) pa_nil)))) (by intro _; rfl)) (pss_one (ps_asg (pe_call F_law_worth.F (hr.mono (by decide)) (by rfl) F_law_worth.m F_law_worth.k F_law_worth.B .nil (by wtm_at "pk") (pa_cons (pv 1) (pa_cons pe_int (pa_cons (pe_op op_sub (pe_ix ix_seq (pv 7) pe_int (fun _ _ => rfl)) pe_int) pa_nil)))) (pg_sub (pv 7) pe_int set_list))) pss_nil))) (pss_cons (ps_set (i := 8) sc_law.nd rfl (by wtm_at "oi") (pe_op op_addA pe_int (pe_call F_law_take.F (hr.mono (by decide)) (by rfl) F_law_take.m F_law_take.k F_law_take.B .nil (by wtm_at "pk") (pa_cons (pv 1) (pa_cons pe_int pa_nil)))))
      (pss_one (ps_if (pt_cmpR (op_eqD hr.units) (pv 8) pe_int (nomark _)) (pss_one (ps_asg (pe_call F_law_title.F (hr.mono (by decide)) (by rfl) F_law_title.m F_law_title.k F_law_title.B .nil (by wtm_at "pk") (pa_cons (pv 1) pa_nil)) (pg_sub (pv 7) (pv 8) set_list))) (pss_one (ps_asg (pe_call F_law_worth.F (hr.mono (by decide)) (by rfl) F_law_worth.m F_law_worth.k F_law_worth.B .nil (by wtm_at "pk") (pa_cons (pv 1) (pa_cons (pe_ix ix_seq (pe_lst (pa_cons pe_int (pa_cons pe_int (pa_cons pe_int pa_nil)))) (pe_op op_sub (pv 8) pe_int) (fun _ _ => rfl)) (pa_cons (pe_ix ix_seq (pe_lst (pa_cons (pe_op op_pow pe_int pe_int) (pa_cons pe_int (pa_cons pe_int pa_nil)))) (pe_op op_sub (pv 8) pe_int) (fun _ _ => rfl)) pa_nil)))) (pg_sub (pv 7) (pv 8) set_list)))))))
      (pss_cons (ps_set (i := 7) sc_law.nd rfl (by wtm_at "oi") (pe_tupleOf (by rfl) n_tuple (pv 7)))
      (pss_cons (ps_asg (pe_call F_law_made.F (hr.mono (by decide)) (by rfl) F_law_made.m F_law_made.k F_law_made.B .nil (by wtm_at "pk") (pa_cons (pv 7) (pa_cons (pv 5) pa_nil))) (pg_tup rfl (pgs_cons (pg_name (i := 9) sc_law.nd rfl (by wtm_at "oi")) (pgs_cons (pg_name (i := 10) sc_law.nd rfl (by wtm_at "oi")) pgs_nil))))
      (pss_one (ps_if (pt_truth (pe_call F_law_is_row.F (hr.mono (by decide)) (by rfl) F_law_is_row.m F_law_is_row.k F_law_is_row.B .nil (by wtm_at "pk") (pa_cons (pv 7) pa_nil)) (by intro _; rfl)) (pss_cons (ps_if (PW.pt (pw_or (pt_cmp (pc_notN (pv 10)) rfl) (pw_or1 (pt_not (pt_truth (pe_call F_law_is_told.F (hr.mono (by decide)) (by rfl) F_law_is_told.m F_law_is_told.k F_law_is_told.B .nil (by wtm_at "pk") (pa_cons (pv 9) (pa_cons (pv 7) pa_nil))) (by intro _; rfl)))))) (pss_one (ps_ret pe_bl)) pss_nil)
      (pss_one (ps_set (i := 2) sc_law.nd rfl (by wtm_at "oi") (pe_tup (pa_cons (pv 9) (pa_cons (pv 7) pa_nil)))))) (pss_one (ps_if (PW.pt (pw_or (pt_cmp (pc_isN (pv 10)) rfl) (pw_or1 (pt_not (pt_truth (pe_call F_law_is_alone.F (hr.mono (by decide)) (by rfl) F_law_is_alone.m F_law_is_alone.k F_law_is_alone.B .nil (by wtm_at "pk") (pa_cons (pv 10) (pa_cons pe_str pa_nil))) (by intro _; rfl)))))) (pss_one (ps_ret pe_bl)) pss_nil))))))))))))
      (pss_one (ps_ret (pe_or (pe_cmp (pc_isN (pv 2)) rfl) (pe_one (pe_call F_law_is_told.F (hr.mono (by decide)) (by rfl) F_law_is_told.m F_law_is_told.k F_law_is_told.B .nil (by wtm_at "pk") (pa_cons (pe_ix ix_seq (pv 2) pe_int (fun _ _ => rfl)) (pa_cons (pe_ix ix_seq (pv 2) pe_int (fun _ _ => rfl)) pa_nil)))))))))))
    (d_law)
end
/-! ### the end -/
set_option maxHeartbeats 0 in
theorem facts {P : Program} {w : World} {K : PySem.W.Frag} {h : Heap} {mg : Str → Option Value} {f : Addr} (X : K.In h) (G : h.Ns mainGlobals mg) (hfa : mg ("law" : Str) = some (.ref f)) (c : He.SaysD fas fns K) (cx : exAll exs K = true) :
    ∃ fd : FuncData, (∀ (s : Shared) (v : Value), BindsTo s fd ⟨[v], []⟩ [("_law_script", v)]) ∧ ∀ base : Heap, K.In base → base.Ns mainGlobals mg → FnOk P w K mg base (L2.CX P w) 7 f fd ["_law_script"] (spD K (c_law K)) := by
  have e := hfa.symm.trans (He.glo_ok X G (c.fact 70 (f := .glo "law") rfl))
  cases e
  have q0 := He.free_ok X G (c.fact 1 (f := .free "len") rfl)
  have q1 := He.glo_ok X G (c.fact 2 (f := .glo "_law_take") rfl)
  have q2 := He.glo_ok X G (c.fact 3 (f := .glo "_law_pick") rfl)
  have q3 := He.free_ok X G (c.fact 4 (f := .free "min") rfl)
  have q4 := He.free_ok X G (c.fact 5 (f := .free "range") rfl)
  have q5 := He.free_ok X G (c.fact 6 (f := .free "int") rfl)
  have q6 := He.free_ok X G (c.fact 7 (f := .free "isinstance") rfl)
  have q7 := He.free_ok X G (c.fact 8 (f := .free "bool") rfl)
  have q8 := He.free_ok X G (c.fact 9 (f := .free "str") rfl)
  have q9 := He.free_ok X G (c.fact 11 (f := .free "all") rfl)
  have q10 := He.glo_ok X G (c.fact 13 (f := .glo "is_number") rfl)
  have q11 := He.exc_ok (c.fact 14 (f := .exc "BadRow") rfl)
  have q12 := He.glo_ok X G (c.fact 15 (f := .glo "BadRow") rfl)
  have q13 := He.cls_ok (c.fact 16 (f := .cls "Going") rfl)
  have q14 := He.cls_ok (c.fact 17 (f := .cls "Yearly") rfl)
  have q15 := He.noat_ok (c.fact 18 (f := .noat "Going" "name") rfl)
  have q16 := He.noat_ok (c.fact 19 (f := .noat "Going" "pieces") rfl)
  have q17 := He.noat_ok (c.fact 20 (f := .noat "Going" "most") rfl)
  have q18 := He.noat_ok (c.fact 21 (f := .noat "Going" "begin") rfl)
  have q19 := He.noat_ok (c.fact 22 (f := .noat "Yearly" "name") rfl)
  have q20 := He.noat_ok (c.fact 23 (f := .noat "Yearly" "pieces") rfl)
  have q21 := He.noat_ok (c.fact 24 (f := .noat "Yearly" "most") rfl)
  have q22 := He.glo_ok X G (c.fact 25 (f := .glo "Row") rfl)
  have q23 := He.mkr_ok (c.fact 26 (f := .mkr "Yearly") rfl)
  have q24 := He.mkr_ok (c.fact 27 (f := .mkr "Going") rfl)
  have q25 := He.glo_ok X G (c.fact 28 (f := .glo "_law_is_number") rfl)
  have q26 := He.glo_ok X G (c.fact 29 (f := .glo "ReadError") rfl)
  have q27 := He.glo_ok X G (c.fact 30 (f := .glo "Yearly") rfl)
  have q28 := He.glo_ok X G (c.fact 31 (f := .glo "Going") rfl)
  have q29 := He.meth_ok (c.fact 33 (f := .meth "Going" "told") rfl)
  have q30 := He.meth_ok (c.fact 34 (f := .meth "Yearly" "told") rfl)
  have q31 := He.free_ok X G (c.fact 35 (f := .free "list") rfl)
  have q32 := He.exc_ok (c.fact 37 (f := .exc "BadCalendar") rfl)
  have q33 := He.glo_ok X G (c.fact 38 (f := .glo "BadCalendar") rfl)
  have q34 := He.cls_ok (c.fact 39 (f := .cls "Calendar") rfl)
  have q35 := He.glo_ok X G (c.fact 44 (f := .glo "_law_made") rfl)
  have q36 := He.free_ok X G (c.fact 46 (f := .free "tuple") rfl)
  obtain ⟨fd_law_begun, G0_law_begun⟩ := c.def_ 0 (d := dd_law_begun) rfl
  have G_law_begun : GD K "_law_begun" "_law_begun" s_law_begun (He.ga K "_law_begun") fd_law_begun := G0_law_begun
  have B_law_begun : Binds K fd_law_begun ["_law_script"] [] := G_law_begun.bindsN fun _ _ _ _ _ _ us hl => match us, hl with | [_], _ => rfl
  obtain ⟨fd_law_take, G0_law_take⟩ := c.def_ 1 (d := dd_law_take) rfl
  have G_law_take : GD K "_law_take" "_law_take" s_law_take (He.ga K "_law_take") fd_law_take := G0_law_take
  have B_law_take : Binds K fd_law_take ["_law_draw", "_law_size"] [] := G_law_take.bindsN fun _ _ _ _ _ _ us hl => match us, hl with | [_, _], _ => rfl
  obtain ⟨fd_law_pick, G0_law_pick⟩ := c.def_ 2 (d := dd_law_pick) rfl
  have G_law_pick : GD K "_law_pick" "_law_pick" s_law_pick (He.ga K "_law_pick") fd_law_pick := G0_law_pick
  have B_law_pick : Binds K fd_law_pick ["_law_draw", "_law_some"] [] := G_law_pick.bindsN fun _ _ _ _ _ _ us hl => match us, hl with | [_, _], _ => rfl
  obtain ⟨fd_law_worth, G0_law_worth⟩ := c.def_ 3 (d := dd_law_worth) rfl
  have G_law_worth : GD K "_law_worth" "_law_worth" s_law_worth (He.ga K "_law_worth") fd_law_worth := G0_law_worth
  have B_law_worth : Binds K fd_law_worth ["_law_draw", "_law_low", "_law_top"] [] := G_law_worth.bindsN fun _ _ _ _ _ _ us hl => match us, hl with | [_, _, _], _ => rfl
  obtain ⟨fd_law_title, G0_law_title⟩ := c.def_ 4 (d := dd_law_title) rfl
  have G_law_title : GD K "_law_title" "_law_title" s_law_title (He.ga K "_law_title") fd_law_title := G0_law_title
  have B_law_title : Binds K fd_law_title ["_law_draw"] [] := G_law_title.bindsN fun _ _ _ _ _ _ us hl => match us, hl with | [_], _ => rfl
  obtain ⟨fd_law_is_number, G0_law_is_number⟩ := c.def_ 5 (d := dd_law_is_number) rfl
  have G_law_is_number : GD K "_law_is_number" "_law_is_number" s_law_is_number (He.ga K "_law_is_number") fd_law_is_number := G0_law_is_number
  have B_law_is_number : Binds K fd_law_is_number ["_law_thing", "_law_low", "_law_top"] [] := G_law_is_number.bindsN fun _ _ _ _ _ _ us hl => match us, hl with | [_, _, _], _ => rfl
  obtain ⟨fd_is_name, G0_is_name⟩ := c.def_ 6 (d := dd_is_name) rfl
  have G_is_name : GD K "is_name" "is_name" s_is_name (He.ga K "is_name") fd_is_name := G0_is_name
  have B_is_name : Binds K fd_is_name ["thing"] [] := G_is_name.bindsN fun _ _ _ _ _ _ us hl => match us, hl with | [_], _ => rfl
  obtain ⟨fd_is_number, G0_is_number⟩ := c.def_ 7 (d := dd_is_number) rfl
  have G_is_number : GD K "is_number" "is_number" s_is_number (He.ga K "is_number") fd_is_number := G0_is_number
  have B_is_number : Binds K fd_is_number ["thing", "least", "most"] [] := G_is_number.bindsN fun _ _ _ _ _ _ us hl => match us, hl with | [_, _, _], _ => rfl
  obtain ⟨fd_Row_init, G0_Row_init⟩ := c.def_ 8 (d := dd_Row_init) rfl
  have G_Row_init : GD K "__init__" "Row.__init__" s_Row_init (He.ma K (He.ga K "Row") "__init__") fd_Row_init := G0_Row_init
  have B_Row_init : Binds K fd_Row_init ["self", "name", "pieces", "most"] [] := G_Row_init.bindsN fun _ _ _ _ _ _ us hl => match us, hl with | [_, _, _, _], _ => rfl
  obtain ⟨fd_Yearly_init, G0_Yearly_init⟩ := c.def_ 9 (d := dd_Yearly_init) rfl
  have G_Yearly_init : GD K "__init__" "Yearly.__init__" s_Yearly_init (He.ma K (He.ga K "Yearly") "__init__") fd_Yearly_init := G0_Yearly_init
  have B_Yearly_init : Binds K fd_Yearly_init ["self", "name", "many", "most"] [] := G_Yearly_init.bindsN fun _ _ _ _ _ _ us hl => match us, hl with | [_, _, _, _], _ => rfl
  obtain ⟨fd_Going_init, G0_Going_init⟩ := c.def_ 10 (d := dd_Going_init) rfl
  have G_Going_init : FunD K "__init__" "Going.__init__" (defArgs s_Going_init) (defBody s_Going_init) (defScope s_Going_init) [.int (0)] [] (He.ma K (He.ga K "Going") "__init__") fd_Going_init := G0_Going_init
  obtain ⟨ds_Going_init, V_Going_init, B0_Going_init⟩ := FunD.binds1 (ps := ["self", "name", "many", "most", "begin"]) G_Going_init 5 1 (by simp) (by decide) fun _ _ _ _ _ _ _ us its hu hi => match us, its, hu, hi with | [_, _, _, _, _], [_], _, _ => ⟨_, rfl, rfl⟩
  have B_Going_init : Binds K fd_Going_init ["self", "name", "many", "most", "begin"] [] := by
    cases V_Going_init
    exact B0_Going_init
  obtain ⟨dd1_Going_init, VD1_Going_init, BD1_Going_init⟩ := FunD.binds1 (ps := ["self", "name", "many", "most", "begin"]) G_Going_init 4 0 (by simp) (by decide) fun _ _ _ _ _ _ _ us its hu hi => match us, its, hu, hi with | [_, _, _, _], [_], _, _ => ⟨_, rfl, rfl⟩
  obtain ⟨fd_law_made, G0_law_made⟩ := c.def_ 11 (d := dd_law_made) rfl
  have G_law_made : GD K "_law_made" "_law_made" s_law_made (He.ga K "_law_made") fd_law_made := G0_law_made
  have B_law_made : Binds K fd_law_made ["_law_row", "_law_way"] [] := G_law_made.bindsN fun _ _ _ _ _ _ us hl => match us, hl with | [_, _], _ => rfl
  obtain ⟨fd_law_is_title, G0_law_is_title⟩ := c.def_ 12 (d := dd_law_is_title) rfl
  have G_law_is_title : GD K "_law_is_title" "_law_is_title" s_law_is_title (He.ga K "_law_is_title") fd_law_is_title := G0_law_is_title
  have B_law_is_title : Binds K fd_law_is_title ["_law_thing"] [] := G_law_is_title.bindsN fun _ _ _ _ _ _ us hl => match us, hl with | [_], _ => rfl
  obtain ⟨fd_law_is_row, G0_law_is_row⟩ := c.def_ 13 (d := dd_law_is_row) rfl
  have G_law_is_row : GD K "_law_is_row" "_law_is_row" s_law_is_row (He.ga K "_law_is_row") fd_law_is_row := G0_law_is_row
  have B_law_is_row : Binds K fd_law_is_row ["_law_row"] [] := G_law_is_row.bindsN fun _ _ _ _ _ _ us hl => match us, hl with | [_], _ => rfl
  obtain ⟨fd_Going_told, G0_Going_told⟩ := c.def_ 14 (d := dd_Going_told) rfl
  have G_Going_told : GD K "told" "Going.told" s_Going_told (He.ma K (He.ga K "Going") "told") fd_Going_told := G0_Going_told
  have B_Going_told : Binds K fd_Going_told ["self"] [] := G_Going_told.bindsN fun _ _ _ _ _ _ us hl => match us, hl with | [_], _ => rfl
  obtain ⟨fd_Yearly_told, G0_Yearly_told⟩ := c.def_ 15 (d := dd_Yearly_told) rfl
  have G_Yearly_told : GD K "told" "Yearly.told" s_Yearly_told (He.ma K (He.ga K "Yearly") "told") fd_Yearly_told := G0_Yearly_told
  have B_Yearly_told : Binds K fd_Yearly_told ["self"] [] := G_Yearly_told.bindsN fun _ _ _ _ _ _ us hl => match us, hl with | [_], _ => rfl
  obtain ⟨fd_Going_eq, G0_Going_eq⟩ := c.def_ 16 (d := dd_Going_eq) rfl
  have G_Going_eq : GD K "__eq__" "Going.__eq__" s_Going_eq (He.ma K (He.ga K "Going") "__eq__") fd_Going_eq := G0_Going_eq
  have B_Going_eq : Binds K fd_Going_eq ["self", "other"] [] := G_Going_eq.bindsN fun _ _ _ _ _ _ us hl => match us, hl with | [_, _], _ => rfl
  obtain ⟨fd_Yearly_eq, G0_Yearly_eq⟩ := c.def_ 17 (d := dd_Yearly_eq) rfl
  have G_Yearly_eq : GD K "__eq__" "Yearly.__eq__" s_Yearly_eq (He.ma K (He.ga K "Yearly") "__eq__") fd_Yearly_eq := G0_Yearly_eq
  have B_Yearly_eq : Binds K fd_Yearly_eq ["self", "other"] [] := G_Yearly_eq.bindsN fun _ _ _ _ _ _ us hl => match us, hl with | [_, _], _ => rfl
  obtain ⟨fd_are_numbers, G0_are_numbers⟩ := c.def_ 18 (d := dd_are_numbers) rfl
  have G_are_numbers : GD K "are_numbers" "are_numbers" s_are_numbers (He.ga K "are_numbers") fd_are_numbers := G0_are_numbers
  have B_are_numbers : Binds K fd_are_numbers ["thing", "long", "least", "most"] [] := G_are_numbers.bindsN fun _ _ _ _ _ _ us hl => match us, hl with | [_, _, _, _], _ => rfl
  obtain ⟨fd_Calendar_init, G0_Calendar_init⟩ := c.def_ 19 (d := dd_Calendar_init) rfl
  have G_Calendar_init : GD K "__init__" "Calendar.__init__" s_Calendar_init (He.ma K (He.ga K "Calendar") "__init__") fd_Calendar_init := G0_Calendar_init
  have B_Calendar_init : Binds K fd_Calendar_init ["self", "years"] [] := G_Calendar_init.bindsN fun _ _ _ _ _ _ us hl => match us, hl with | [_, _], _ => rfl
  obtain ⟨fd_law_others, G0_law_others⟩ := c.def_ 20 (d := dd_law_others) rfl
  have G_law_others : GD K "_law_others" "_law_others" s_law_others (He.ga K "_law_others") fd_law_others := G0_law_others
  have B_law_others : Binds K fd_law_others ["_law_row"] [] := G_law_others.bindsN fun _ _ _ _ _ _ us hl => match us, hl with | [_], _ => rfl
  obtain ⟨fd_law_is_told, G0_law_is_told⟩ := c.def_ 21 (d := dd_law_is_told) rfl
  have G_law_is_told : GD K "_law_is_told" "_law_is_told" s_law_is_told (He.ga K "_law_is_told") fd_law_is_told := G0_law_is_told
  have B_law_is_told : Binds K fd_law_is_told ["_law_found", "_law_row"] [] := G_law_is_told.bindsN fun _ _ _ _ _ _ us hl => match us, hl with | [_, _], _ => rfl
  obtain ⟨fd_law_marks, G0_law_marks⟩ := c.def_ 22 (d := dd_law_marks) rfl
  have G_law_marks : GD K "_law_marks" "_law_marks" s_law_marks (He.ga K "_law_marks") fd_law_marks := G0_law_marks
  have B_law_marks : Binds K fd_law_marks ["_law_e"] [] := G_law_marks.bindsN fun _ _ _ _ _ _ us hl => match us, hl with | [_], _ => rfl
  obtain ⟨fd_law_is_alone, G0_law_is_alone⟩ := c.def_ 23 (d := dd_law_is_alone) rfl
  have G_law_is_alone : GD K "_law_is_alone" "_law_is_alone" s_law_is_alone (He.ga K "_law_is_alone") fd_law_is_alone := G0_law_is_alone
  have B_law_is_alone : Binds K fd_law_is_alone ["_law_e", "_law_word"] [] := G_law_is_alone.bindsN fun _ _ _ _ _ _ us hl => match us, hl with | [_, _], _ => rfl
  obtain ⟨fd_law, G0_law⟩ := c.def_ 24 (d := dd_law) rfl
  have G_law : GD K "law" "law" s_law (He.ga K "law") fd_law := G0_law
  have b := FunD.bindsA (ps := ["_law_script"]) G_law fun _ _ _ _ _ _ us hl => match us, hl with | [_], _ => rfl
  refine ⟨fd_law, fun s v => b s [v] rfl, fun base _ _ => ?_⟩
  have F_law_begun : FnOk P w K mg base (L2.CX P w) 1 _ fd_law_begun ["_law_script"] (spD K (c_law_begun K)) := ok_law_begun G_law_begun (He.free_ok X G (c.fact 0 (f := .free "abs") rfl))
  have F_law_take : FnOk P w K mg base (L2.CX P w) 1 _ fd_law_take ["_law_draw", "_law_size"] (spD K (c_law_take K)) := ok_law_take G_law_take q0
  have F_law_pick : FnOk P w K mg base (L2.CX P w) 2 _ fd_law_pick ["_law_draw", "_law_some"] (spD K (c_law_pick K)) := ok_law_pick G_law_pick ⟨⟨F_law_take, B_law_take⟩, q1, G_law_take.kp⟩ q0
  have F_law_worth : FnOk P w K mg base (L2.CX P w) 3 _ fd_law_worth ["_law_draw", "_law_low", "_law_top"] (spD K (c_law_worth K)) := ok_law_worth G_law_worth ⟨⟨F_law_take, B_law_take⟩, q1, G_law_take.kp⟩ ⟨⟨F_law_pick, B_law_pick⟩, q2, G_law_pick.kp⟩ q3
  have F_law_title : FnOk P w K mg base (L2.CX P w) 3 _ fd_law_title ["_law_draw"] (spD K (c_law_title K)) := ok_law_title G_law_title ⟨⟨F_law_take, B_law_take⟩, q1, G_law_take.kp⟩ ⟨⟨F_law_pick, B_law_pick⟩, q2, G_law_pick.kp⟩ q4
  have F_law_is_number : FnOk P w K mg base (L2.CX P w) 1 _ fd_law_is_number ["_law_thing", "_law_low", "_law_top"] (spD K (c_law_is_number K)) := ok_law_is_number G_law_is_number q5 q6 q7
  have F_is_name : FnOk P w K mg base (L2.CX P w) 1 _ fd_is_name ["thing"] (spD K (c_is_name K)) := ok_is_name G_is_name q8 q6 q0 (He.str_ok X G (c.fact 10 (f := .str "LETTERS" "abcdefghijklmnopqrstuvwxyz") rfl)) q9
  have F_is_number : FnOk P w K mg base (L2.CX P w) 1 _ fd_is_number ["thing", "least", "most"] (spD K (c_is_number K)) := ok_is_number G_is_number q5 q6 q7
  have F_Row_init : FnOk P w K mg base (L2.CX P w) 2 _ fd_Row_init ["self", "name", "pieces", "most"] (spD K (c_Row_init K)) := ok_Row_init G_Row_init ⟨⟨F_is_name, B_is_name⟩, (He.glo_ok X G (c.fact 12 (f := .glo "is_name") rfl)), G_is_name.kp⟩ ⟨⟨F_is_number, B_is_number⟩, q10, G_is_number.kp⟩ ⟨q11.1, q12, q11.2.1, q11.2.2.1, q11.2.2.2⟩ (⟨q13, q14, q15, q16, q17, q18, q19, q20, q21⟩)
  have F_Yearly_init : FnOk P w K mg base (L2.CX P w) 3 _ fd_Yearly_init ["self", "name", "many", "most"] (spD K (c_Yearly_init K)) := ok_Yearly_init G_Yearly_init ⟨F_Row_init, B_Row_init⟩ q22 (clsFnB_ok (exAll_at cx 0 (e := clsFnB "Row" "__init__") rfl)) (⟨q13, q14, q15, q16, q17, q18, q19, q20, q21⟩)
  have F_Going_init : FnOk P w K mg base (L2.CX P w) 3 _ fd_Going_init ["self", "name", "many", "most", "begin"] (spD K (c_Going_init K)) := ok_Going_init G_Going_init ⟨F_Row_init, B_Row_init⟩ ⟨⟨F_is_number, B_is_number⟩, q10, G_is_number.kp⟩ q22 (clsFnB_ok (exAll_at cx 0 (e := clsFnB "Row" "__init__") rfl)) ⟨q11.1, q12, q11.2.1, q11.2.2.1, q11.2.2.2⟩ (⟨q13, q14, q15, q16, q17, q18, q19, q20, q21⟩)
  have F_law_made : FnOk P w K mg base (L2.CX P w) 5 _ fd_law_made ["_law_row", "_law_way"] (spD K (c_law_made K)) := ok_law_made G_law_made ⟨F_Yearly_init, B_Yearly_init⟩ q23 ⟨F_Going_init, B_Going_init⟩ q24 ⟨⟨F_law_is_number, B_law_is_number⟩, q25, G_law_is_number.kp⟩ q26 q27 (kbn_non G_Yearly_init 1 ["most", "name", "many"] [1,2,0] fun _ _ _ _ _ _ us ws hu hw => match us, ws, hu, hw with | [_], [_, _, _], _, _ => rfl) q28 BD1_Going_init VD1_Going_init (kbn_def G_Going_init (by simp) 3 ["begin", "most"] [1,0] fun _ _ _ _ _ _ _ us its ws hu hi hw => match us, its, ws, hu, hi, hw with | [_, _, _], [_], [_, _], _, _, _ => ⟨_, rfl, rfl⟩) (kexcB_ok (exAll_at cx 1 (e := kexcB excNames) rfl))
  have F_law_is_title : FnOk P w K mg base (L2.CX P w) 1 _ fd_law_is_title ["_law_thing"] (spD K (c_law_is_title K)) := ok_law_is_title G_law_is_title q8 q6 q0
  have F_law_is_row : FnOk P w K mg base (L2.CX P w) 2 _ fd_law_is_row ["_law_row"] (spD K (c_law_is_row K)) := ok_law_is_row G_law_is_row ⟨⟨F_law_is_title, B_law_is_title⟩, (He.glo_ok X G (c.fact 32 (f := .glo "_law_is_title") rfl)), G_law_is_title.kp⟩ ⟨⟨F_law_is_number, B_law_is_number⟩, q25, G_law_is_number.kp⟩
  have F_Going_told : FnOk P w K mg base (L2.CX P w) 1 _ fd_Going_told ["self"] (spD K (c_Going_told K)) := ok_Going_told G_Going_told (⟨q13, q14, q15, q16, q17, q18, q19, q20, q21⟩)
  have F_Yearly_told : FnOk P w K mg base (L2.CX P w) 1 _ fd_Yearly_told ["self"] (spD K (c_Yearly_told K)) := ok_Yearly_told G_Yearly_told (⟨q13, q14, q15, q16, q17, q18, q19, q20, q21⟩)
  have F_Going_eq : FnOk P w K mg base (L2.CX P w) 2 _ fd_Going_eq ["self", "other"] (spD K (c_Going_eq K)) := ok_Going_eq G_Going_eq ⟨F_Going_told, B_Going_told⟩ q28 q6 q13 q29 (keqB_ok q13 (exAll_at cx 2 (e := keqB "Going") rfl))
  have F_Yearly_eq : FnOk P w K mg base (L2.CX P w) 2 _ fd_Yearly_eq ["self", "other"] (spD K (c_Yearly_eq K)) := ok_Yearly_eq G_Yearly_eq ⟨F_Yearly_told, B_Yearly_told⟩ q27 q6 q14 q30 (keqB_ok q14 (exAll_at cx 3 (e := keqB "Yearly") rfl))
  have F_are_numbers : FnOk P w K mg base (L2.CX P w) 2 _ fd_are_numbers ["thing", "long", "least", "most"] (spD K (c_are_numbers K)) := ok_are_numbers G_are_numbers ⟨⟨F_is_number, B_is_number⟩, q10, G_is_number.kp⟩ q31 q6 q0 q9
  have F_Calendar_init : FnOk P w K mg base (L2.CX P w) 3 _ fd_Calendar_init ["self", "years"] (spD K (c_Calendar_init K)) := ok_Calendar_init G_Calendar_init ⟨⟨F_are_numbers, B_are_numbers⟩, (He.glo_ok X G (c.fact 36 (f := .glo "are_numbers") rfl)), G_are_numbers.kp⟩ ⟨q32.1, q33, q32.2.1, q32.2.2.1, q32.2.2.2⟩ q31 (⟨q34, He.noat_ok (c.fact 40 (f := .noat "Calendar" "lengths") rfl), He.noat_ok (c.fact 41 (f := .noat "Calendar" "begins") rfl), He.noat_ok (c.fact 42 (f := .noat "Calendar" "whole") rfl)⟩)
  have F_law_others : FnOk P w K mg base (L2.CX P w) 1 _ fd_law_others ["_law_row"] (spD K (c_law_others K)) := ok_law_others G_law_others q5 q3
  have F_law_is_told : FnOk P w K mg base (L2.CX P w) 6 _ fd_law_is_told ["_law_found", "_law_row"] (spD K (c_law_is_told K)) := ok_law_is_told G_law_is_told ⟨F_Going_told, B_Going_told⟩ ⟨F_Yearly_told, B_Yearly_told⟩ ⟨F_Going_init, B_Going_init⟩ q24 ⟨F_Yearly_init, B_Yearly_init⟩ q23 ⟨F_Going_eq, B_Going_eq⟩ ⟨F_Yearly_eq, B_Yearly_eq⟩ ⟨F_Calendar_init, B_Calendar_init⟩ (He.mkr_ok (c.fact 43 (f := .mkr "Calendar") rfl)) ⟨⟨F_law_made, B_law_made⟩, q35, G_law_made.kp⟩ ⟨⟨F_law_others, B_law_others⟩, (He.glo_ok X G (c.fact 45 (f := .glo "_law_others") rfl)), G_law_others.kp⟩ q22 q6 q13 q29 q14 q30 q36 q28 q27 BD1_Going_init VD1_Going_init (He.meth_ok (c.fact 47 (f := .meth "Going" "__eq__") rfl)) (He.meth_ok (c.fact 48 (f := .meth "Yearly" "__eq__") rfl)) (He.glo_ok X G (c.fact 49 (f := .glo "Calendar") rfl)) (neB_ok (exAll_at cx 4 (e := neB "Going") rfl)) (neB_ok (exAll_at cx 5 (e := neB "Yearly") rfl)) (⟨obtB_ok q13 (exAll_at cx 6 (e := obtB "Going") rfl), obtB_ok q14 (exAll_at cx 7 (e := obtB "Yearly") rfl), isB_ok (exAll_at cx 8 (e := isB "Going" "Row" true) rfl), isB_ok (exAll_at cx 9 (e := isB "Yearly" "Row" true) rfl)⟩) (keqB_ok q13 (exAll_at cx 2 (e := keqB "Going") rfl)) (keqB_ok q14 (exAll_at cx 3 (e := keqB "Yearly") rfl)) (kneB_ok q14 (exAll_at cx 10 (e := kneB "Going" "Yearly") rfl)) (kneB_ok q13 (exAll_at cx 11 (e := kneB "Yearly" "Going") rfl)) (kneB_ok q34 (exAll_at cx 12 (e := kneB "Going" "Calendar") rfl)) (kneB_ok q34 (exAll_at cx 13 (e := kneB "Yearly" "Calendar") rfl))
  have F_law_marks : FnOk P w K mg base (L2.CX P w) 1 _ fd_law_marks ["_law_e"] (spD K (c_law_marks K)) := ok_law_marks G_law_marks q12 q6 (He.glo_ok X G (c.fact 50 (f := .glo "BadFeast") rfl)) q33 (He.glo_ok X G (c.fact 51 (f := .glo "BadBook") rfl)) (He.glo_ok X G (c.fact 52 (f := .glo "NoRow") rfl)) (He.glo_ok X G (c.fact 53 (f := .glo "NoDay") rfl)) (He.glo_ok X G (c.fact 54 (f := .glo "BadNumber") rfl)) (He.glo_ok X G (c.fact 55 (f := .glo "BadHouse") rfl)) (He.glo_ok X G (c.fact 56 (f := .glo "TooFar") rfl)) (He.glo_ok X G (c.fact 57 (f := .glo "NeverDone") rfl)) (He.glo_ok X G (c.fact 58 (f := .glo "TooTight") rfl)) (He.glo_ok X G (c.fact 59 (f := .glo "NoPiece") rfl)) (He.glo_ok X G (c.fact 60 (f := .glo "BadText") rfl)) (He.glo_ok X G (c.fact 61 (f := .glo "NoDeed") rfl)) (kexcB_ok (exAll_at cx 1 (e := kexcB excNames) rfl))
  have F_law_is_alone : FnOk P w K mg base (L2.CX P w) 2 _ fd_law_is_alone ["_law_e", "_law_word"] (spD K (c_law_is_alone K)) := ok_law_is_alone G_law_is_alone ⟨⟨F_law_marks, B_law_marks⟩, (He.glo_ok X G (c.fact 62 (f := .glo "_law_marks") rfl)), G_law_marks.kp⟩ q26 q6 (He.free_ok X G (c.fact 63 (f := .free "ValueError") rfl)) (kexcB_ok (exAll_at cx 1 (e := kexcB excNames) rfl))
  exact ok_law (base := base) G_law ⟨⟨F_law_begun, B_law_begun⟩, (He.glo_ok X G (c.fact 64 (f := .glo "_law_begun") rfl)), G_law_begun.kp⟩ ⟨⟨F_law_pick, B_law_pick⟩, q2, G_law_pick.kp⟩ ⟨⟨F_law_take, B_law_take⟩, q1, G_law_take.kp⟩ ⟨⟨F_law_worth, B_law_worth⟩, (He.glo_ok X G (c.fact 65 (f := .glo "_law_worth") rfl)), G_law_worth.kp⟩ ⟨⟨F_law_title, B_law_title⟩, (He.glo_ok X G (c.fact 66 (f := .glo "_law_title") rfl)), G_law_title.kp⟩ ⟨⟨F_law_is_number, B_law_is_number⟩, q25, G_law_is_number.kp⟩ ⟨⟨F_law_made, B_law_made⟩, q35, G_law_made.kp⟩ ⟨⟨F_law_is_row, B_law_is_row⟩, (He.glo_ok X G (c.fact 67 (f := .glo "_law_is_row") rfl)), G_law_is_row.kp⟩ ⟨⟨F_law_is_told, B_law_is_told⟩, (He.glo_ok X G (c.fact 68 (f := .glo "_law_is_told") rfl)), G_law_is_told.kp⟩ ⟨⟨F_law_is_alone, B_law_is_alone⟩, (He.glo_ok X G (c.fact 69 (f := .glo "_law_is_alone") rfl)), G_law_is_alone.kp⟩ q4 q36
end Dl
open PySem PySem.W PySem.Calls PyProof.Rows
set_option maxRecDepth 100000
set_option maxHeartbeats 0
theorem PySem.Challenge.cw_readround_k23_rows_known_holds : PySem.Challenge.rw_readround_k23_rows_known.Holds := by
  refine Dl.lawOf ?hc
  case hc =>
    refine Dl.walk_ofW (l := PySem.Challenge.rw_readround_k23_rows_known) (n := 63) (k := 7) (x := "_law_script") rfl (by decide) Dl.law_dflt ⟨rfl, by decide, by decide⟩ ?F
    intro w mg fa h Y G hmg0
    obtain ⟨K, KX, c, cx⟩ := Y
    have hmg : mg ("law" : PySem.Str) = some (.ref fa) := by
      rw [← Dl.law_name]
      exact hmg0
    obtain ⟨fd, hb, hF⟩ := Dl.facts (P := (PySem.Challenge.rw_readround_k23_rows_known).prog) (w := w) KX G hmg c cx
    exact ⟨K, fd, _, KX, hb, fun H a ns hl hO hS => Dl.law_sp hS ⟨ns, rfl, hl, fun _ => rfl⟩, hF⟩
