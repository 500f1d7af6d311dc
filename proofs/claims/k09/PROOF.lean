import PyProof.Rows.All
import Wide.All
import OpenK.AllK
import Wide.FinOn
import HandS.ForMost
import HandS.ForExc
import HandS.Lambda
import HandS.IsInst
import HandS.Wide
import HandS.Defaults
import HandS.Zip
import HandS.Strs
import HandS.Style
import HandS.HeadHook2
import HandS.Ends
import HandS.HeadEnd
import HandS.Head2
import PyProof.Rows.SetListFold
import HandS.Conv
import HandS.Text
import HandS.NoneIn
import HandS.Codes
import PyProof.LongRange
import HandS.SortKw
import KE.DataMinMax
import PyProof.ListRange
import HandS.SetFor
import HandS.ExcIs
import HandS.ExcInit
import HandS.ExcField
import HandS.CallSlots
import HandS.Iter
import HandS.HeadHook4
import HandS.HeadWalk
import HandS.Deep
import HandS.DictComp
import HandS.SortInts
import HandS.More
import PyProof.InstEq
import HandS.DictTup
import HandS.TupLen
import KE.KeyNested
import KE.SortData
import HandS.TryMany
import PySem.Challenge.RW_readround_k09_again_and_shared
set_option Elab.async false
set_option linter.all false
set_option maxRecDepth 100000
/-! Dl: a layer of data over the hand layer's readings: what is frozen is told as data (D), what may still change stands in a list (Mu) -/
namespace Dl
open PySem L2
/-- data -/
inductive D where
  | non | bl (b : Bool) | int (i : Int) | str (x : Str) | ty (n : String)
  | tup (xs : List D) | lst (xs : List D)
  /-- a list, a tuple that is read alone (the script, a written one) -/
  | rdl (xs : List D) | rdt (xs : List D)
  | obj (C : Addr) (fs : List (Str × D))
  | dct (kvs : List (Key × D))
  /-- the k-th thing that may change -/
  | own (k : Nat)
  /-- an object of the written part -/
  | loc (a : Addr)
  /-- a caught exception: its class, its fields -/
  | exc (C : Addr) (fs : List (Str × D))
deriving Inhabited
/-- a caught exception in the heap: its class, its own dict -/
def ExV (cls : Value) (d : Option Addr) (a : Addr) : HO := .ext fun h => ∃ (oe : Obj) (vs : Array Value), h.get? a = some oe ∧ Zc cls d oe ∧ oe.data = .fields vs
/-- the own dict of an exception -/
def ExD (G : Hp) (d : Option Addr) (fs : List (Str × V)) : Prop := (d = none ∧ fs = []) ∨ ∃ dx, d = some dx ∧ G dx = some (.xd fs)
theorem ExD.mono {G G' : Hp} (s : Same G G') {d : Option Addr} {fs : List (Str × V)} (h : ExD G d fs) : ExD G' d fs := h.imp id fun ⟨dx, e, g⟩ => ⟨dx, e, s _ _ g⟩
/-- what a thing that may change is now -/
inductive MO where
  | dead
  | lst (xs : List D)
  | ins (C : Addr) (fs : List (Str × D))
  | dK (kvs : List (Key × D))
  | dT (kvs : List (List Key × D))
  /-- the table at p of code objects of the name q -/
  | tab (p : Addr) (q : Str)
deriving Inhabited
abbrev Mu := List MO
abbrev En := List (Option D)
section
variable (K : PySem.W.Frag) (G : Hp) (al : List Addr)
mutual
inductive Rp : V → D → Prop
  | non : Rp .non .non
  | bl (b : Bool) : Rp (.bl b) (.bl b)
  | int (i : Int) : Rp (.int i) (.int i)
  | str (x : Str) : Rp (.str x) (.str x)
  | ty (n : String) : Rp (.ty n) (.ty n)
  | tup {a : Addr} {vs : List V} {ds : List D} : G a = some (.tup vs) → Rps vs ds → Rp (.ref a) (.tup ds)
  | lst {a : Addr} {vs : List V} {ds : List D} : G a = some (.lst vs) → Rps vs ds → Rp (.ref a) (.lst ds)
  | rdl {a : Addr} {vs : List V} {ds : List D} : SqL K G a vs → Rps vs ds → Rp (.ref a) (.rdl ds)
  | rdt {a : Addr} {vs : List V} {ds : List D} : SqT K G a vs → Rps vs ds → Rp (.ref a) (.rdt ds)
  | obj {a C dx : Addr} {fs : List (Str × V)} {gs : List (Str × D)} : G a = some (.ins C dx fs) → Rpf fs gs → Rp (.ref a) (.obj C gs)
  | dct {a : Addr} {kvs : List (Key × V)} {gs : List (Key × D)} : Rd G a (.dK kvs) → Rpk kvs gs → Rp (.ref a) (.dct gs)
  | own {a : Addr} {k : Nat} : al[k]? = some a → Rp (.ref a) (.own k)
  | loc (a : Addr) : Rp (.ref a) (.loc a)
  | exc {a C : Addr} {dd : Option Addr} {fs : List (Str × V)} {gs : List (Str × D)} : G a = some (ExV (.ref C) dd a) → ExD G dd fs → Rpf fs gs → Rp (.ref a) (.exc C gs)
inductive Rps : List V → List D → Prop
  | nil : Rps [] []
  | cons {v : V} {vs : List V} {d : D} {ds : List D} : Rp v d → Rps vs ds → Rps (v :: vs) (d :: ds)
inductive Rpf : List (Str × V) → List (Str × D) → Prop
  | nil : Rpf [] []
  | cons {f : Str} {v : V} {vs : List (Str × V)} {d : D} {ds : List (Str × D)} : Rp v d → Rpf vs ds → Rpf ((f, v) :: vs) ((f, d) :: ds)
inductive Rpk : List (Key × V) → List (Key × D) → Prop
  | nil : Rpk [] []
  | cons {f : Key} {v : V} {vs : List (Key × V)} {d : D} {ds : List (Key × D)} : Rp v d → Rpk vs ds → Rpk ((f, v) :: vs) ((f, d) :: ds)
end
end
theorem rd_mono {H H' : Hp} {a : Addr} {u : HO} (s : Same H H') (h : Rd H a u) : Rd H' a u := by
  rcases h with h | ⟨o, h⟩
  · exact .inl (s _ _ h)
  · exact .inr ⟨o, s _ _ h⟩
theorem sql_mono {K : PySem.W.Frag} {H H' : Hp} {a : Addr} {xs : List V} (e : Same H H') (h : SqL K H a xs) : SqL K H' a xs := e.seq h
theorem sqt_mono {K : PySem.W.Frag} {H H' : Hp} {a : Addr} {xs : List V} (e : Same H H') (h : SqT K H a xs) : SqT K H' a xs := by
  rcases h with (h | ⟨o, h⟩) | h
  · exact .inl (.inl (e _ _ h))
  · exact .inl (.inr ⟨o, e _ _ h⟩)
  · exact .inr h
/-- al' goes on from al -/
def Pre (al al' : List Addr) : Prop := ∃ be, al' = al ++ be
theorem Pre.refl (al : List Addr) : Pre al al := ⟨[], by simp⟩
theorem Pre.trans {a b c : List Addr} (h : Pre a b) (h' : Pre b c) : Pre a c := by
  obtain ⟨x, rfl⟩ := h
  obtain ⟨y, rfl⟩ := h'
  exact ⟨x ++ y, by simp⟩
theorem Pre.get {al al' : List Addr} (h : Pre al al') {k : Nat} {a : Addr} (e : al[k]? = some a) : al'[k]? = some a := by
  obtain ⟨x, rfl⟩ := h
  rw [List.getElem?_append_left (List.getElem?_eq_some_iff.mp e).1]
  exact e
theorem Pre.mem {al al' : List Addr} (h : Pre al al') {a : Addr} (e : a ∈ al) : a ∈ al' := by
  obtain ⟨x, rfl⟩ := h
  exact List.mem_append_left _ e
section
variable {K : PySem.W.Frag} {G G' : Hp} {al al' : List Addr}
mutual
theorem Rp.mono (s : Same G G') (p : Pre al al') : ∀ {v : V} {d : D}, Rp K G al v d → Rp K G' al' v d
  | _, _, .non => .non
  | _, _, .bl b => .bl b
  | _, _, .int i => .int i
  | _, _, .str x => .str x
  | _, _, .ty x => .ty x
  | _, _, .tup h r => .tup (s _ _ h) (Rps.mono s p r)
  | _, _, .lst h r => .lst (s _ _ h) (Rps.mono s p r)
  | _, _, .rdl h r => .rdl (sql_mono s h) (Rps.mono s p r)
  | _, _, .rdt h r => .rdt (sqt_mono s h) (Rps.mono s p r)
  | _, _, .obj h r => .obj (s _ _ h) (Rpf.mono s p r)
  | _, _, .dct h r => .dct (rd_mono s h) (Rpk.mono s p r)
  | _, _, .own h => .own (p.get h)
  | _, _, .loc a => .loc a
  | _, _, .exc h hd r => .exc (s _ _ h) (hd.mono s) (Rpf.mono s p r)
theorem Rps.mono (s : Same G G') (p : Pre al al') : ∀ {v : List V} {d : List D}, Rps K G al v d → Rps K G' al' v d
  | _, _, .nil => .nil
  | _, _, .cons h r => .cons (Rp.mono s p h) (Rps.mono s p r)
theorem Rpf.mono (s : Same G G') (p : Pre al al') : ∀ {v : List (Str × V)} {d : List (Str × D)}, Rpf K G al v d → Rpf K G' al' v d
  | _, _, .nil => .nil
  | _, _, .cons h r => .cons (Rp.mono s p h) (Rpf.mono s p r)
theorem Rpk.mono (s : Same G G') (p : Pre al al') : ∀ {v : List (Key × V)} {d : List (Key × D)}, Rpk K G al v d → Rpk K G' al' v d
  | _, _, .nil => .nil
  | _, _, .cons h r => .cons (Rp.mono s p h) (Rpk.mono s p r)
end
theorem Rps.length {vs : List V} {ds : List D} (h : Rps K G al vs ds) : vs.length = ds.length := by
  induction ds generalizing vs with
  | nil => cases h; rfl
  | cons d ds ih => cases h with | cons _ r => simp [ih r]
theorem Rps.get {vs : List V} {ds : List D} (h : Rps K G al vs ds) : ∀ {i : Nat} {d : D}, ds[i]? = some d → ∃ v, vs[i]? = some v ∧ Rp K G al v d := by
  induction ds generalizing vs with
  | nil => intro i d e; simp at e
  | cons x xs ih =>
    intro i d e
    cases h with
    | cons r t =>
      cases i with
      | zero => simp at e; subst e; exact ⟨_, rfl, r⟩
      | succ i => simp at e; simpa using ih t e
theorem Rps.getV {vs : List V} {ds : List D} (h : Rps K G al vs ds) {i : Nat} {v : V} (e : vs[i]? = some v) : ∃ d, ds[i]? = some d ∧ Rp K G al v d := by
  have hi : i < ds.length := by rw [← h.length]; exact (List.getElem?_eq_some_iff.mp e).1
  obtain ⟨w, e2, r⟩ := h.get (List.getElem?_eq_getElem hi)
  rw [e] at e2; cases e2
  exact ⟨_, List.getElem?_eq_getElem hi, r⟩
theorem Rps.append {vs ws : List V} {ds es : List D} (h : Rps K G al vs ds) (h' : Rps K G al ws es) : Rps K G al (vs ++ ws) (ds ++ es) := by
  induction ds generalizing vs with
  | nil => cases h; exact h'
  | cons d ds ih => cases h with | cons r t => exact .cons r (ih t)
theorem Rps.take {vs : List V} {ds : List D} (h : Rps K G al vs ds) (n : Nat) : Rps K G al (vs.take n) (ds.take n) := by
  induction n generalizing vs ds with
  | zero => simp; exact .nil
  | succ n ih => cases h with
    | nil => simp; exact .nil
    | cons r t => simpa using .cons r (ih t)
theorem Rps.drop {vs : List V} {ds : List D} (h : Rps K G al vs ds) (n : Nat) : Rps K G al (vs.drop n) (ds.drop n) := by
  induction n generalizing vs ds with
  | zero => simpa using h
  | succ n ih => cases h with
    | nil => simp; exact .nil
    | cons r t => simpa using ih t
theorem Rps.reverse {vs : List V} {ds : List D} (h : Rps K G al vs ds) : Rps K G al vs.reverse ds.reverse := by
  induction ds generalizing vs with
  | nil => cases h; exact .nil
  | cons d ds ih => cases h with | cons r t => simpa using (ih t).append (.cons r .nil)
theorem Rps.set {vs : List V} {ds : List D} (h : Rps K G al vs ds) (i : Nat) {v : V} {d : D} (r : Rp K G al v d) : Rps K G al (vs.set i v) (ds.set i d) := by
  induction ds generalizing vs i with
  | nil => cases h; simp; exact .nil
  | cons x xs ih => cases h with
    | cons r' t => cases i with
      | zero => exact .cons r t
      | succ i => exact .cons r' (ih t i)
theorem Rps.ints : ∀ {vs : List V} {ns : List Int}, Rps K G al vs (ns.map D.int) → vs = ns.map V.int
  | _, [], h => by cases h; rfl
  | _, n :: ns, h => by
    cases h with
    | cons r t => cases r; rw [Rps.ints (ns := ns) t]; rfl
theorem Rps.of_ints : ∀ (ns : List Int), Rps K G al (ns.map V.int) (ns.map D.int)
  | [] => .nil
  | n :: ns => .cons (.int n) (Rps.of_ints ns)
theorem Rps.bools : ∀ {vs : List V} {ns : List Bool}, Rps K G al vs (ns.map D.bl) → vs = ns.map V.bl
  | _, [], h => by cases h; rfl
  | _, n :: ns, h => by
    cases h with
    | cons r t => cases r; rw [Rps.bools (ns := ns) t]; rfl
theorem Rpf.look {fs : List (Str × V)} {gs : List (Str × D)} (h : Rpf K G al fs gs) {f : Str} {d : D} (e : gs.lookup f = some d) : ∃ v, fs.lookup f = some v ∧ Rp K G al v d := by
  induction gs generalizing fs with
  | nil => simp at e
  | cons x xs ih =>
    cases h with
    | cons r t =>
      rw [List.lookup_cons] at e ⊢
      split at e
      · cases e; exact ⟨_, rfl, r⟩
      · exact ih t e
theorem Rpf.none {fs : List (Str × V)} {gs : List (Str × D)} (h : Rpf K G al fs gs) {f : Str} (e : gs.lookup f = Option.none) : fs.lookup f = Option.none := by
  induction gs generalizing fs with
  | nil => cases h; rfl
  | cons x xs ih =>
    cases h with
    | cons r t =>
      rw [List.lookup_cons] at e ⊢
      split at e
      · cases e
      · exact ih t e
theorem Rpf.length {fs : List (Str × V)} {gs : List (Str × D)} (h : Rpf K G al fs gs) : fs.length = gs.length := by
  induction gs generalizing fs with
  | nil => cases h; rfl
  | cons d ds ih => cases h with | cons _ r => simp [ih r]
end
/-- a field put -/
def putD (f : Str) (v : D) : List (Str × D) → List (Str × D)
  | [] => [(f, v)]
  | (g, x) :: r => if g = f then (g, v) :: r else (g, x) :: putD f v r
theorem Rpf.put {K : PySem.W.Frag} {G : Hp} {al : List Addr} {fs : List (Str × V)} {gs : List (Str × D)} (h : Rpf K G al fs gs) (f : Str) {v : V} {d : D} (r : Rp K G al v d) : Rpf K G al (putF f v fs) (putD f d gs) := by
  induction gs generalizing fs with
  | nil => cases h; exact .cons r .nil
  | cons x xs ih =>
    cases h with
    | cons r' t =>
      unfold putF putD
      split
      · exact .cons r t
      · exact .cons r' (ih t)
/-! ### the slots -/
def RpS (K : PySem.W.Frag) (G : Hp) (al : List Addr) (σ : St) (ρ : En) : Prop := σ.length = ρ.length ∧ ∀ (i : Nat) (d : D), ρ[i]? = some (some d) → ∃ v, σ[i]? = some (some v) ∧ Rp K G al v d
section
variable {K : PySem.W.Frag} {G G' : Hp} {al al' : List Addr} {σ : St} {ρ : En}
theorem RpS.mono (s : Same G G') (p : Pre al al') (h : RpS K G al σ ρ) : RpS K G' al' σ ρ := ⟨h.1, fun i d e => by
  obtain ⟨v, e1, r⟩ := h.2 i d e
  exact ⟨v, e1, r.mono s p⟩⟩
theorem RpS.set (h : RpS K G al σ ρ) (i : Nat) {v : V} {d : D} (r : Rp K G al v d) : RpS K G al (σ.set i (some v)) (ρ.set i (some d)) := by
  refine ⟨by simp [h.1], fun j e hj => ?_⟩
  rw [List.getElem?_set] at hj ⊢
  by_cases hij : i = j
  · subst hij
    rw [if_pos rfl] at hj ⊢
    by_cases hl : i < ρ.length
    · rw [if_pos hl] at hj
      have hl2 : i < σ.length := by rw [h.1]; exact hl
      rw [if_pos hl2]
      cases hj
      exact ⟨v, rfl, r⟩
    · rw [if_neg hl] at hj; cases hj
  · rw [if_neg hij] at hj ⊢
    exact h.2 j e hj
/-- a slot's value forgotten -/
theorem RpS.forget (h : RpS K G al σ ρ) (i : Nat) (x : Option V) : RpS K G al (σ.set i x) (ρ.set i none) := by
  refine ⟨by simp [h.1], fun j e hj => ?_⟩
  rw [List.getElem?_set] at hj ⊢
  by_cases hij : i = j
  · subst hij
    rw [if_pos rfl] at hj
    by_cases hl : i < ρ.length
    · rw [if_pos hl] at hj; cases hj
    · rw [if_neg hl] at hj; cases hj
  · rw [if_neg hij] at hj ⊢
    exact h.2 j e hj
end
/-! ### what may change -/
def OkO (K : PySem.W.Frag) (G H : Hp) (al : List Addr) (a : Addr) : MO → Prop
  | .dead => True
  | .lst ds => G a = none ∧ ∃ vs, H a = some (.lst vs) ∧ Rps K G al vs ds
  | .ins C gs => G a = none ∧ ∃ dx fs, H a = some (.ins C dx fs) ∧ Rpf K G al fs gs
  | .dK gs => G a = none ∧ ∃ kvs, H a = some (.dK kvs) ∧ Rpk K G al kvs gs
  | .dT gs => G a = none ∧ ∃ kvs : List (List Key × V), H a = some (.dT kvs) ∧ kvs.map (·.1) = gs.map (·.1) ∧ Rps K G al (kvs.map (·.2)) (gs.map (·.2))
  | .tab p q => G a = none ∧ a = p ∧ ∃ ps : Array Value, H a = some (.tbl ps) ∧ TriplesOk ps.toList ∧ ∀ (pos : Pos) (cv : Value), codeAmong pos ps.toList = some cv → ∃ c, cv = .ref c ∧ G c = some (LamX.CodeO c q)
structure As (K : PySem.W.Frag) (G H : Hp) (al : List Addr) (μ : Mu) : Prop where
  sub : Same G H
  nd : al.Nodup
  len : al.length = μ.length
  here : ∀ a ∈ al, H a ≠ none
  ok : ∀ (k : Nat) (a : Addr) (o : MO), al[k]? = some a → μ[k]? = some o → OkO K G H al a o
/-- a later state -/
structure Nx (G H : Hp) (al : List Addr) (G' H' : Hp) (al' : List Addr) : Prop where
  g : Same G G'
  p : Pre al al'
  keep : ∀ a o, H a = some o → a ∉ al → H' a = some o
  out : ∀ a, H a ≠ none → (∀ vs, H a ≠ some (.tup vs)) → a ∉ al → G a = none → G' a = none
  new : ∀ a ∈ al', a ∈ al ∨ H a = none
section
variable {K : PySem.W.Frag} {G G1 G2 H H1 H2 : Hp} {al al1 al2 : List Addr} {μ : Mu}
theorem Nx.refl : Nx G H al G H al := ⟨Same.refl _, Pre.refl _, fun _ _ h _ => h, fun _ _ _ _ h => h, fun _ h => .inl h⟩
theorem Nx.trans (a : Nx G H al G1 H1 al1) (b : Nx G1 H1 al1 G2 H2 al2) : Nx G H al G2 H2 al2 := by
  have nin : ∀ x o, H x = some o → x ∉ al → x ∉ al1 := fun x o h n m => by
    rcases a.new x m with z | z
    · exact n z
    · rw [h] at z; cases z
  refine ⟨a.g.trans b.g, a.p.trans b.p, fun x o h n => b.keep x o (a.keep x o h n) (nin x o h n), fun x h t n g => ?_, fun x m => ?_⟩
  · cases q : H x with
    | none => exact absurd q h
    | some o =>
      have h1 := a.keep x o q n
      exact b.out x (by rw [h1]; simp) (fun vs e => t vs (by rw [q, ← h1, e])) (nin x o q n) (a.out x h t n g)
  · rcases b.new x m with z | z
    · exact a.new x z
    · by_cases hx : x ∈ al
      · exact .inl hx
      · refine .inr ?_
        cases q : H x with
        | none => rfl
        | some o => rw [a.keep x o q hx] at z; cases z
theorem Rp.nx (n : Nx G H al G1 H1 al1) {v : V} {d : D} (h : Rp K G al v d) : Rp K G1 al1 v d := h.mono n.g n.p
theorem Rps.nx (n : Nx G H al G1 H1 al1) {v : List V} {d : List D} (h : Rps K G al v d) : Rps K G1 al1 v d := h.mono n.g n.p
theorem RpS.nx (n : Nx G H al G1 H1 al1) {σ : St} {ρ : En} (h : RpS K G al σ ρ) : RpS K G1 al1 σ ρ := h.mono n.g n.p
theorem OkO.mono {a : Addr} {o : MO} (s : Same G G1) (p : Pre al al1) (hg : o ≠ .dead → G a = none → G1 a = none) (hh : H1 a = H a) (h : OkO K G H al a o) : OkO K G1 H1 al1 a o := by
  cases o with
  | dead => trivial
  | lst ds => obtain ⟨g, vs, e, r⟩ := h; exact ⟨hg (by simp) g, vs, hh.trans e, r.mono s p⟩
  | ins C gs => obtain ⟨g, dx, vs, e, r⟩ := h; exact ⟨hg (by simp) g, dx, vs, hh.trans e, r.mono s p⟩
  | dK gs => obtain ⟨g, vs, e, r⟩ := h; exact ⟨hg (by simp) g, vs, hh.trans e, r.mono s p⟩
  | dT gs => obtain ⟨g, vs, e, k, r⟩ := h; exact ⟨hg (by simp) g, vs, hh.trans e, k, r.mono s p⟩
  | tab p q => obtain ⟨g, ep, ps, e, k, r⟩ := h; exact ⟨hg (by simp) g, ep, ps, hh.trans e, k, fun pos cv hc => let ⟨c, e1, e2⟩ := r pos cv hc; ⟨c, e1, s _ _ e2⟩⟩
/-- a new frozen thing -/
theorem As.frz {p : Addr} {o : HO} (A : As K G H al μ) (hp : H p = none) : As K (upd G p o) (upd H p o) al μ ∧ Nx G H al (upd G p o) (upd H p o) al := by
  have gp : G p = none := A.sub.free hp
  have s1 : Same G (upd G p o) := fun b u e => by rw [upd_ne (ne_of_none e gp)]; exact e
  have npal : p ∉ al := fun m => A.here p m hp
  refine ⟨⟨fun b u e => ?_, A.nd, A.len, fun a m => ?_, fun k a ob e1 e2 => ?_⟩, ⟨s1, Pre.refl _, fun a u h _ => ?_, fun a h _ n g => ?_, fun a m => .inl m⟩⟩
  · by_cases hb : b = p
    · subst hb; rw [upd_same] at e ⊢; exact e
    · rw [upd_ne hb] at e ⊢; exact A.sub _ _ e
  · have : a ≠ p := fun z => npal (z ▸ m)
    rw [upd_ne this]; exact A.here a m
  · have : a ≠ p := fun z => npal (z ▸ List.mem_of_getElem? e1)
    exact OkO.mono s1 (Pre.refl _) (fun _ g => by rw [upd_ne this]; exact g) (by rw [upd_ne this]) (A.ok k a ob e1 e2)
  · rw [upd_ne (ne_of_none h hp)]; exact h
  · have z : a ≠ p := fun z => h (by rw [z]; exact hp)
    rw [upd_ne z]; exact g
/-- a new thing that may change -/
theorem As.own {p : Addr} {o : HO} {m : MO} (A : As K G H al μ) (hp : H p = none) (ok : OkO K G (upd H p o) (al ++ [p]) p m) : As K G (upd H p o) (al ++ [p]) (μ ++ [m]) ∧ Nx G H al G (upd H p o) (al ++ [p]) := by
  have npal : p ∉ al := fun m => A.here p m hp
  have gp : G p = none := A.sub.free hp
  refine ⟨⟨fun b u e => ?_, ?_, by simp [A.len], fun a m => ?_, fun k a ob e1 e2 => ?_⟩, ⟨Same.refl _, ⟨[p], rfl⟩, fun a u h _ => ?_, fun a h _ n g => g, fun a m => ?_⟩⟩
  · rw [upd_ne (ne_of_none e gp)]; exact A.sub _ _ e
  · rw [List.nodup_append]
    exact ⟨A.nd, by simp, fun a ha b hb => by simp at hb; subst hb; exact fun z => npal (z ▸ ha)⟩
  · rcases List.mem_append.mp m with m | m
    · have : a ≠ p := fun z => npal (z ▸ m)
      rw [upd_ne this]; exact A.here a m
    · simp at m; subst m; rw [upd_same]; simp
  · by_cases hk : k < al.length
    · rw [List.getElem?_append_left hk] at e1
      rw [List.getElem?_append_left (by rw [← A.len]; exact hk)] at e2
      have : a ≠ p := fun z => npal (z ▸ List.mem_of_getElem? e1)
      exact OkO.mono (Same.refl _) ⟨[p], rfl⟩ (fun _ g => g) (by rw [upd_ne this]) (A.ok k a ob e1 e2)
    · have hk1 := (List.getElem?_eq_some_iff.mp e1).1
      have hk' : k = al.length := by simp at hk1; omega
      subst hk'
      simp at e1
      rw [A.len] at e2
      simp at e2
      subst e1 e2
      exact ok
  · rw [upd_ne (ne_of_none h hp)]; exact h
  · rcases List.mem_append.mp m with m | m
    · exact .inl m
    · simp at m; subst m; exact .inr hp
/-- a thing that may change is changed -/
theorem As.put {k : Nat} {a : Addr} {o : HO} {m m' : MO} (A : As K G H al μ) (hk : al[k]? = some a) (hm : μ[k]? = some m) (hd : m ≠ .dead) (ok : OkO K G (upd H a o) al a m') : As K G (upd H a o) al (μ.set k m') ∧ Nx G H al G (upd H a o) al := by
  have ga : G a = none := by
    have := A.ok k a m hk hm
    cases m with
    | dead => exact absurd rfl hd
    | lst _ => exact this.1
    | ins _ _ => exact this.1
    | dK _ => exact this.1
    | dT _ => exact this.1
    | tab _ _ => exact this.1
  have ma : a ∈ al := List.mem_of_getElem? hk
  refine ⟨⟨fun b u e => ?_, A.nd, by simp [A.len], fun b m => ?_, fun j b ob e1 e2 => ?_⟩, ⟨Same.refl _, Pre.refl _, fun b u h n => ?_, fun _ _ _ _ g => g, fun _ m => .inl m⟩⟩
  · rw [upd_ne (ne_of_none e ga)]; exact A.sub _ _ e
  · by_cases hb : b = a
    · subst hb; rw [upd_same]; simp
    · rw [upd_ne hb]; exact A.here b m
  · rw [List.getElem?_set] at e2
    by_cases hj : k = j
    · subst hj
      rw [if_pos rfl] at e2
      split at e2
      · cases e2; rw [hk] at e1; cases e1; exact ok
      · cases e2
    · rw [if_neg hj] at e2
      have hne : b ≠ a := fun z => by
        subst z
        exact hj (nd_ix A.nd hk e1)
      exact OkO.mono (Same.refl _) (Pre.refl _) (fun _ g => g) (by rw [upd_ne hne]) (A.ok j b ob e1 e2)
  · have z : b ≠ a := fun z => n (by rw [z]; exact ma)
    rw [upd_ne z]; exact h
/-- .. it is frozen -/
theorem As.freeze {k : Nat} {a : Addr} {o : HO} (A : As K G H al μ) (hk : al[k]? = some a) (ha : H a = some o) (ga : G a = none) : As K (upd G a o) H al (μ.set k .dead) ∧ Nx G H al (upd G a o) H al := by
  have ma : a ∈ al := List.mem_of_getElem? hk
  have s1 : Same G (upd G a o) := fun b u e => by rw [upd_ne (ne_of_none e ga)]; exact e
  refine ⟨⟨fun b u e => ?_, A.nd, by simp [A.len], A.here, fun j b ob e1 e2 => ?_⟩, ⟨s1, Pre.refl _, fun b u h n => h, fun b h _ n g => ?_, fun _ m => .inl m⟩⟩
  · by_cases hb : b = a
    · subst hb; rw [upd_same] at e; rw [← e]; exact ha
    · rw [upd_ne hb] at e; exact A.sub _ _ e
  · rw [List.getElem?_set] at e2
    by_cases hj : k = j
    · subst hj
      rw [if_pos rfl] at e2
      split at e2
      · cases e2; trivial
      · cases e2
    · rw [if_neg hj] at e2
      have hne : b ≠ a := fun z => by
        subst z
        exact hj (nd_ix A.nd hk e1)
      exact OkO.mono s1 (Pre.refl _) (fun _ g => by rw [upd_ne hne]; exact g) rfl (A.ok j b ob e1 e2)
  · have z : b ≠ a := fun z => n (by rw [z]; exact ma)
    rw [upd_ne z]; exact g
theorem As.get {k : Nat} {m : MO} (A : As K G H al μ) (hm : μ[k]? = some m) : ∃ a, al[k]? = some a ∧ OkO K G H al a m := by
  have hk : k < al.length := by rw [A.len]; exact (List.getElem?_eq_some_iff.mp hm).1
  exact ⟨al[k], List.getElem?_eq_getElem hk, A.ok k _ m (List.getElem?_eq_getElem hk) hm⟩
end
end Dl
set_option Elab.async false
set_option linter.all false
set_option maxRecDepth 100000
namespace Dl
open PySem L2
/-! ### judgements over data -/
structure Bs where
  G : Hp
  H : Hp
  al : List Addr
abbrev Bs.le (B : Bs) (G H : Hp) (al : List Addr) : Prop := Nx B.G B.H B.al G H al
section
variable (K : PySem.W.Frag)
def KV (G H : Hp) (al : List Addr) (P : D → Mu → Prop) (Q : VK) : Prop := ∀ v d μ' G' H' al', Nx G H al G' H' al' → As K G' H' al' μ' → Rp K G' al' v d → P d μ' → Q v H'
def KT (G H : Hp) (al : List Addr) (P : Bool → Mu → Prop) (Q : Bool → Hp → Prop) : Prop := ∀ b μ' G' H' al', Nx G H al G' H' al' → As K G' H' al' μ' → P b μ' → Q b H'
def KA (G H : Hp) (al : List Addr) (P : List D → Mu → Prop) (Q : List V → Hp → Prop) : Prop := ∀ vs ds μ' G' H' al', Nx G H al G' H' al' → As K G' H' al' μ' → Rps K G' al' vs ds → P ds μ' → Q vs H'
def KS (G H : Hp) (al : List Addr) (P : En → Mu → Prop) (Q : St → Hp → Prop) : Prop := ∀ σ' ρ' μ' G' H' al', Nx G H al G' H' al' → RpS K G' al' σ' ρ' → As K G' H' al' μ' → P ρ' μ' → Q σ' H'
def DE (B : Bs) (te : TE) (ρ : En) (μ : Mu) (P : D → Mu → Prop) : Prop := ∀ σ G H al, B.le G H al → RpS K G al σ ρ → As K G H al μ → ∀ Q, KV K G H al P Q → te σ H Q
def DT (B : Bs) (tt : TT) (ρ : En) (μ : Mu) (P : Bool → Mu → Prop) : Prop := ∀ σ G H al, B.le G H al → RpS K G al σ ρ → As K G H al μ → ∀ Q, KT K G H al P Q → tt σ H Q
def DA (B : Bs) (ta : TA) (ρ : En) (μ : Mu) (P : List D → Mu → Prop) : Prop := ∀ σ G H al, B.le G H al → RpS K G al σ ρ → As K G H al μ → ∀ Q, KA K G H al P Q → ta σ H Q
/-- a part of a slice -/
def DO (B : Bs) (to : TO) (ρ : En) (μ : Mu) (P : Option Int → Mu → Prop) : Prop := ∀ σ G H al, B.le G H al → RpS K G al σ ρ → As K G H al μ → ∀ Q : Option Int → Hp → Prop, (∀ o μ' G' H' al', Nx G H al G' H' al' → As K G' H' al' μ' → P o μ' → Q o H') → to σ H Q
def DG (B : Bs) (g : TG) (d : D) (ρ : En) (μ : Mu) (P : En → Mu → Prop) : Prop := ∀ σ G H al v, B.le G H al → RpS K G al σ ρ → As K G H al μ → Rp K G al v d → ∀ Q, KS K G H al P Q → g v σ H Q
def DGs (B : Bs) (g : TGs) (ds : List D) (ρ : En) (μ : Mu) (P : En → Mu → Prop) : Prop := ∀ σ G H al vs, B.le G H al → RpS K G al σ ρ → As K G H al μ → Rps K G al vs ds → ∀ Q, KS K G H al P Q → g vs σ H Q
/-- operations on values -/
def RO (r : R2) (x y : D) (μ : Mu) (P : D → Mu → Prop) : Prop := ∀ G H al v w, As K G H al μ → Rp K G al v x → Rp K G al w y → ∀ Q, KV K G H al P Q → r v w H Q
def RU (r : V → Hp → VK → Prop) (x : D) (μ : Mu) (P : D → Mu → Prop) : Prop := ∀ G H al v, As K G H al μ → Rp K G al v x → ∀ Q, KV K G H al P Q → r v H Q
def RC (r : List V → Hp → VK → Prop) (xs : List D) (μ : Mu) (P : D → Mu → Prop) : Prop := ∀ G H al vs, As K G H al μ → Rps K G al vs xs → ∀ Q, KV K G H al P Q → r vs H Q
def RM (r : V → List V → Hp → VK → Prop) (x : D) (xs : List D) (μ : Mu) (P : D → Mu → Prop) : Prop := ∀ G H al v vs, As K G H al μ → Rp K G al v x → Rps K G al vs xs → ∀ Q, KV K G H al P Q → r v vs H Q
def RS (r : V → Option Int → Option Int → Hp → VK → Prop) (x : D) (lo hi : Option Int) (μ : Mu) (P : D → Mu → Prop) : Prop := ∀ G H al v, As K G H al μ → Rp K G al v x → ∀ Q, KV K G H al P Q → r v lo hi H Q
def RSet (r : V → V → V → Hp → (Hp → Prop) → Prop) (o i d : D) (μ : Mu) (P : Mu → Prop) : Prop := ∀ G H al v w u, As K G H al μ → Rp K G al v o → Rp K G al w i → Rp K G al u d → ∀ Q : Hp → Prop, (∀ μ' G' H' al', Nx G H al G' H' al' → As K G' H' al' μ' → P μ' → Q H') → r v w u H Q
end
structure DEnds where
  nx : En → Mu → Prop
  rt : D → Mu → Prop
  bk : En → Mu → Prop := fun _ _ => False
  ct : En → Mu → Prop := fun _ _ => False
structure Ag (K : PySem.W.Frag) (G H : Hp) (al : List Addr) (P : DEnds) (De : Ends) : Prop where
  nx : KS K G H al P.nx De.nx
  rt : KV K G H al P.rt De.rt
  bk : KS K G H al P.bk De.bk
  ct : KS K G H al P.ct De.ct
def DS (K : PySem.W.Frag) (B : Bs) (t : TS) (ρ : En) (μ : Mu) (P : DEnds) : Prop := ∀ σ G H al, B.le G H al → RpS K G al σ ρ → As K G H al μ → ∀ De, Ag K G H al P De → t De σ H
section
variable {K : PySem.W.Frag} {B : Bs} {G H G1 H1 : Hp} {al al1 : List Addr}
theorem KV.nx {P : D → Mu → Prop} {Q : VK} (n : Nx G H al G1 H1 al1) (h : KV K G H al P Q) : KV K G1 H1 al1 P Q := fun v d μ' G' H' al' n' A r p => h v d μ' G' H' al' (n.trans n') A r p
theorem KT.nx {P : Bool → Mu → Prop} {Q : Bool → Hp → Prop} (n : Nx G H al G1 H1 al1) (h : KT K G H al P Q) : KT K G1 H1 al1 P Q := fun v μ' G' H' al' n' A p => h v μ' G' H' al' (n.trans n') A p
theorem KA.nx {P : List D → Mu → Prop} {Q : List V → Hp → Prop} (n : Nx G H al G1 H1 al1) (h : KA K G H al P Q) : KA K G1 H1 al1 P Q := fun v d μ' G' H' al' n' A r p => h v d μ' G' H' al' (n.trans n') A r p
theorem KS.nx {P : En → Mu → Prop} {Q : St → Hp → Prop} (n : Nx G H al G1 H1 al1) (h : KS K G H al P Q) : KS K G1 H1 al1 P Q := fun v d μ' G' H' al' n' A r p => h v d μ' G' H' al' (n.trans n') A r p
theorem Ag.nx' {P : DEnds} {De : Ends} (n : Nx G H al G1 H1 al1) (h : Ag K G H al P De) : Ag K G1 H1 al1 P De := ⟨h.nx.nx n, h.rt.nx n, h.bk.nx n, h.ct.nx n⟩
theorem KV.now {P : D → Mu → Prop} {Q : VK} {v : V} {d : D} {μ : Mu} (h : KV K G H al P Q) (A : As K G H al μ) (r : Rp K G al v d) (p : P d μ) : Q v H := h v d μ G H al .refl A r p
variable {ρ : En} {μ : Mu} {P : D → Mu → Prop} {ta tb te tc : TE}
/-! ### expressions -/
theorem DE.imp {P' : D → Mu → Prop} (h : DE K B te ρ μ P') (i : ∀ d μ', P' d μ' → P d μ') : DE K B te ρ μ P := fun σ G H al hB hσ hA Q hQ => h σ G H al hB hσ hA Q fun v d μ' G' H' al' n A r p => hQ v d μ' G' H' al' n A r (i d μ' p)
theorem de_var {i : Nat} {d : D} (e : ρ[i]? = some (some d)) (h : P d μ) : DE K B (tVar i) ρ μ P := fun σ G H al hB hσ hA Q hQ => by
  obtain ⟨v, e1, r⟩ := hσ.2 i d e
  exact ⟨v, e1, hQ.now hA r h⟩
theorem de_int {i : Int} (h : P (.int i) μ) : DE K B (tC (.int i)) ρ μ P := fun σ G H al hB hσ hA Q hQ => hQ.now hA (.int i) h
theorem de_bl {i : Bool} (h : P (.bl i) μ) : DE K B (tC (.bl i)) ρ μ P := fun σ G H al hB hσ hA Q hQ => hQ.now hA (.bl i) h
theorem de_non (h : P .non μ) : DE K B (tC .non) ρ μ P := fun σ G H al hB hσ hA Q hQ => hQ.now hA .non h
theorem de_str {x : Str} (h : P (.str x) μ) : DE K B (tC (.str x)) ρ μ P := fun σ G H al hB hσ hA Q hQ => hQ.now hA (.str x) h
theorem de_ty {x : String} (h : P (.ty x) μ) : DE K B (tC (.ty x)) ρ μ P := fun σ G H al hB hσ hA Q hQ => hQ.now hA (.ty x) h
theorem de_loc {x : Addr} (h : P (.loc x) μ) : DE K B (tC (.ref x)) ρ μ P := fun σ G H al hB hσ hA Q hQ => hQ.now hA (.loc x) h
theorem de_op {r : R2} (h : DE K B ta ρ μ fun x μ1 => DE K B tb ρ μ1 fun y μ2 => RO K r x y μ2 P) : DE K B (tOp r ta tb) ρ μ P := fun σ G H al hB hσ hA Q hQ =>
  h σ G H al hB hσ hA _ fun v d μ1 G1 H1 al1 n1 A1 r1 p1 => p1 σ G1 H1 al1 (hB.trans n1) (hσ.nx n1) A1 _ fun w e μ2 G2 H2 al2 n2 A2 r2 p2 => p2 G2 H2 al2 v w A2 (r1.nx n2) r2 Q (hQ.nx (n1.trans n2))
theorem de_un {r : V → Hp → VK → Prop} (h : DE K B ta ρ μ fun x μ1 => RU K r x μ1 P) : DE K B (tUn r ta) ρ μ P := fun σ G H al hB hσ hA Q hQ =>
  h σ G H al hB hσ hA _ fun v d μ1 G1 H1 al1 n1 A1 r1 p1 => p1 G1 H1 al1 v A1 r1 Q (hQ.nx n1)
theorem de_chain {r r' : R2} (h : DE K B ta ρ μ fun x μ1 => DE K B tb ρ μ1 fun y μ2 => RO K r x y μ2 fun z μ3 => ∃ b, z = .bl b ∧ (b = true → DE K B tc ρ μ3 fun w μ4 => RO K r' y w μ4 P) ∧ (b = false → P (.bl false) μ3)) :
    DE K B (tChain r r' ta tb tc) ρ μ P := fun σ G H al hB hσ hA Q hQ =>
  h σ G H al hB hσ hA _ fun v d μ1 G1 H1 al1 n1 A1 r1 p1 => p1 σ G1 H1 al1 (hB.trans n1) (hσ.nx n1) A1 _ fun w e μ2 G2 H2 al2 n2 A2 r2 p2 =>
    p2 G2 H2 al2 v w A2 (r1.nx n2) r2 _ fun z dz μ3 G3 H3 al3 n3 A3 r3 p3 => by
      obtain ⟨b, rfl, pt, pf⟩ := p3
      cases r3
      refine ⟨b, rfl, ?_⟩
      cases b with
      | true =>
        rw [if_pos rfl]
        exact pt rfl σ G3 H3 al3 ((hB.trans n1).trans (n2.trans n3)) (((hσ.nx n1).nx n2).nx n3) A3 _ fun u du μ4 G4 H4 al4 n4 A4 r4 p4 => p4 G4 H4 al4 w u A4 ((r2.nx n3).nx n4) r4 Q (hQ.nx (((n1.trans n2).trans n3).trans n4))
      | false =>
        rw [if_neg (by simp)]
        exact hQ (.bl false) _ μ3 G3 H3 al3 ((n1.trans n2).trans n3) A3 (.bl _) (pf rfl)
theorem de_andV (h : DE K B ta ρ μ fun x μ1 => ∃ b, x = .bl b ∧ (b = true → DE K B tb ρ μ1 P) ∧ (b = false → P (.bl false) μ1)) : DE K B (tAndV ta tb) ρ μ P := fun σ G H al hB hσ hA Q hQ =>
  h σ G H al hB hσ hA _ fun v d μ1 G1 H1 al1 n1 A1 r1 p1 => by
    obtain ⟨b, rfl, pt, pf⟩ := p1
    cases r1
    refine ⟨b, rfl, ?_⟩
    cases b with
    | true => rw [if_pos rfl]; exact pt rfl σ G1 H1 al1 (hB.trans n1) (hσ.nx n1) A1 Q (hQ.nx n1)
    | false => rw [if_neg (by simp)]; exact hQ (.bl false) _ μ1 G1 H1 al1 n1 A1 (.bl _) (pf rfl)
theorem de_orV (h : DE K B ta ρ μ fun x μ1 => ∃ b, x = .bl b ∧ (b = false → DE K B tb ρ μ1 P) ∧ (b = true → P (.bl true) μ1)) : DE K B (tOrV ta tb) ρ μ P := fun σ G H al hB hσ hA Q hQ =>
  h σ G H al hB hσ hA _ fun v d μ1 G1 H1 al1 n1 A1 r1 p1 => by
    obtain ⟨b, rfl, pt, pf⟩ := p1
    cases r1
    refine ⟨b, rfl, ?_⟩
    cases b with
    | false => rw [if_neg (by simp)]; exact pt rfl σ G1 H1 al1 (hB.trans n1) (hσ.nx n1) A1 Q (hQ.nx n1)
    | true => rw [if_pos rfl]; exact hQ (.bl true) _ μ1 G1 H1 al1 n1 A1 (.bl _) (pf rfl)
theorem de_notV (h : DE K B ta ρ μ fun x μ1 => ∃ b, x = .bl b ∧ P (.bl (!b)) μ1) : DE K B (tNotV ta) ρ μ P := fun σ G H al hB hσ hA Q hQ =>
  h σ G H al hB hσ hA _ fun v d μ1 G1 H1 al1 n1 A1 r1 p1 => by
    obtain ⟨b, rfl, pt⟩ := p1
    cases r1
    exact ⟨b, rfl, hQ _ _ μ1 G1 H1 al1 n1 A1 (.bl _) pt⟩
theorem de_if {t : TT} (h : DT K B t ρ μ fun b μ1 => (b = true → DE K B ta ρ μ1 P) ∧ (b = false → DE K B tb ρ μ1 P)) : DE K B (tIf t ta tb) ρ μ P := fun σ G H al hB hσ hA Q hQ =>
  h σ G H al hB hσ hA _ fun b μ1 G1 H1 al1 n1 A1 p1 => by
    cases b with
    | true => rw [if_pos rfl]; exact p1.1 rfl σ G1 H1 al1 (hB.trans n1) (hσ.nx n1) A1 Q (hQ.nx n1)
    | false => rw [if_neg (by simp)]; exact p1.2 rfl σ G1 H1 al1 (hB.trans n1) (hσ.nx n1) A1 Q (hQ.nx n1)
theorem de_isN (h : DE K B ta ρ μ fun x μ1 => ∃ b, (b = true ↔ x = .non) ∧ P (.bl b) μ1) : DE K B (tIsN ta) ρ μ P := fun σ G H al hB hσ hA Q hQ =>
  h σ G H al hB hσ hA _ fun v d μ1 G1 H1 al1 n1 A1 r1 p1 => by
    obtain ⟨b, hb, p⟩ := p1
    have e : decide (v = .non) = b := by
      cases d with
      | non => cases r1; simp at hb; simp [hb]
      | _ => cases r1 <;> simp at hb <;> simp [hb]
    rw [e]
    exact hQ _ _ μ1 G1 H1 al1 n1 A1 (.bl _) p
theorem de_notN (h : DE K B ta ρ μ fun x μ1 => ∃ b, (b = true ↔ x = .non) ∧ P (.bl (!b)) μ1) : DE K B (tNotN ta) ρ μ P := fun σ G H al hB hσ hA Q hQ =>
  h σ G H al hB hσ hA _ fun v d μ1 G1 H1 al1 n1 A1 r1 p1 => by
    obtain ⟨b, hb, p⟩ := p1
    have e : decide (v = .non) = b := by
      cases d with
      | non => cases r1; simp at hb; simp [hb]
      | _ => cases r1 <;> simp at hb <;> simp [hb]
    rw [e]
    exact hQ _ _ μ1 G1 H1 al1 n1 A1 (.bl _) p
/-! tests -/
variable {PT' : Bool → Mu → Prop} {t u : TT}
theorem dt_test (h : DE K B te ρ μ fun x μ1 => ∃ b, x = .bl b ∧ PT' b μ1) : DT K B (tTest te) ρ μ PT' := fun σ G H al hB hσ hA Q hQ =>
  h σ G H al hB hσ hA _ fun v d μ1 G1 H1 al1 n1 A1 r1 p1 => by
    obtain ⟨b, rfl, p⟩ := p1
    cases r1
    exact ⟨b, rfl, hQ b μ1 G1 H1 al1 n1 A1 p⟩
theorem dt_B (h : DE K B te ρ μ fun x μ1 => ∃ b, x = .bl b ∧ PT' b μ1) : DT K B (tB te) ρ μ PT' := dt_test h
theorem dt_and (h : DT K B t ρ μ fun b μ1 => (b = true → DT K B u ρ μ1 PT') ∧ (b = false → PT' false μ1)) : DT K B (tAnd t u) ρ μ PT' := fun σ G H al hB hσ hA Q hQ =>
  h σ G H al hB hσ hA _ fun b μ1 G1 H1 al1 n1 A1 p1 => by
    cases b with
    | true => rw [if_pos rfl]; exact p1.1 rfl σ G1 H1 al1 (hB.trans n1) (hσ.nx n1) A1 Q (hQ.nx n1)
    | false => rw [if_neg (by simp)]; exact hQ false μ1 G1 H1 al1 n1 A1 (p1.2 rfl)
theorem dt_or (h : DT K B t ρ μ fun b μ1 => (b = false → DT K B u ρ μ1 PT') ∧ (b = true → PT' true μ1)) : DT K B (tOr t u) ρ μ PT' := fun σ G H al hB hσ hA Q hQ =>
  h σ G H al hB hσ hA _ fun b μ1 G1 H1 al1 n1 A1 p1 => by
    cases b with
    | false => rw [if_neg (by simp)]; exact p1.1 rfl σ G1 H1 al1 (hB.trans n1) (hσ.nx n1) A1 Q (hQ.nx n1)
    | true => rw [if_pos rfl]; exact hQ true μ1 G1 H1 al1 n1 A1 (p1.2 rfl)
theorem dt_not (h : DT K B t ρ μ fun b μ1 => PT' (!b) μ1) : DT K B (tNot t) ρ μ PT' := fun σ G H al hB hσ hA Q hQ =>
  h σ G H al hB hσ hA _ fun b μ1 G1 H1 al1 n1 A1 p1 => hQ (!b) μ1 G1 H1 al1 n1 A1 p1
/-! arguments -/
variable {PA' : List D → Mu → Prop} {tr : TA}
theorem da_nil (h : PA' [] μ) : DA K B tNil ρ μ PA' := fun σ G H al hB hσ hA Q hQ => hQ [] [] μ G H al .refl hA .nil h
theorem da_cons (h : DE K B ta ρ μ fun x μ1 => DA K B tr ρ μ1 fun xs μ2 => PA' (x :: xs) μ2) : DA K B (tCons ta tr) ρ μ PA' := fun σ G H al hB hσ hA Q hQ =>
  h σ G H al hB hσ hA _ fun v d μ1 G1 H1 al1 n1 A1 r1 p1 => p1 σ G1 H1 al1 (hB.trans n1) (hσ.nx n1) A1 _ fun vs ds μ2 G2 H2 al2 n2 A2 r2 p2 => hQ (v :: vs) (d :: ds) μ2 G2 H2 al2 (n1.trans n2) A2 (.cons (r1.nx n2) r2) p2
theorem de_tup {ts : TA} (h : DA K B ts ρ μ fun xs μ1 => xs.length ≤ 100000 ∧ P (.tup xs) μ1) : DE K B (tTup ts) ρ μ P := fun σ G H al hB hσ hA Q hQ =>
  h σ G H al hB hσ hA _ fun vs ds μ1 G1 H1 al1 n1 A1 r1 p1 => by
    refine ⟨by rw [r1.length]; exact Nat.le_trans p1.1 (by decide), fun p hp => ?_⟩
    obtain ⟨A2, n2⟩ := A1.frz (o := .tup vs) hp
    exact hQ _ _ μ1 _ _ al1 (n1.trans n2) A2 (.tup upd_same (r1.nx n2)) p1.2
/-- a list, frozen at once -/
theorem de_lst {ts : TA} (h : DA K B ts ρ μ fun xs μ1 => xs.length ≤ 100000 ∧ P (.lst xs) μ1) : DE K B (tLst ts) ρ μ P := fun σ G H al hB hσ hA Q hQ =>
  h σ G H al hB hσ hA _ fun vs ds μ1 G1 H1 al1 n1 A1 r1 p1 => by
    refine ⟨by rw [r1.length]; exact Nat.le_trans p1.1 (by decide), fun p hp => ?_⟩
    obtain ⟨A2, n2⟩ := A1.frz (o := .lst vs) hp
    exact hQ _ _ μ1 _ _ al1 (n1.trans n2) A2 (.lst upd_same (r1.nx n2)) p1.2
/-- a list that will change -/
theorem de_lstO {ts : TA} (h : DA K B ts ρ μ fun xs μ1 => xs.length ≤ 100000 ∧ P (.own μ1.length) (μ1 ++ [.lst xs])) : DE K B (tLst ts) ρ μ P := fun σ G H al hB hσ hA Q hQ =>
  h σ G H al hB hσ hA _ fun vs ds μ1 G1 H1 al1 n1 A1 r1 p1 => by
    refine ⟨by rw [r1.length]; exact Nat.le_trans p1.1 (by decide), fun p hp => ?_⟩
    obtain ⟨A2, n2⟩ := A1.own (o := .lst vs) (m := .lst ds) hp ⟨A1.sub.free hp, vs, upd_same, r1.mono (Same.refl _) ⟨[p], rfl⟩⟩
    exact hQ _ _ _ _ _ _ (n1.trans n2) A2 (.own (by rw [← A1.len]; simp)) p1.2
/-- .. is frozen as it is handed on -/
theorem de_frz {te : TE} (h : DE K B te ρ μ fun x μ1 => ∃ k ds, x = .own k ∧ μ1[k]? = some (.lst ds) ∧ P (.lst ds) (μ1.set k .dead)) : DE K B te ρ μ P := fun σ G H al hB hσ hA Q hQ =>
  h σ G H al hB hσ hA _ fun v d μ1 G1 H1 al1 n1 A1 r1 p1 => by
    obtain ⟨k, ds, rfl, hk, p⟩ := p1
    obtain ⟨a, ha, ok⟩ := A1.get hk
    cases r1 with
    | own e =>
      rw [ha] at e
      cases e
      obtain ⟨ga, vs, hv, rv⟩ := ok
      obtain ⟨A2, n2⟩ := A1.freeze ha hv ga
      exact hQ _ _ _ _ _ _ (n1.trans n2) A2 (.lst upd_same (rv.nx n2)) p
theorem de_cb {r : List V → Hp → VK → Prop} {ts : TA} (h : DA K B ts ρ μ fun xs μ1 => RC K r xs μ1 P) : DE K B (tCB r ts) ρ μ P := fun σ G H al hB hσ hA Q hQ =>
  h σ G H al hB hσ hA _ fun vs ds μ1 G1 H1 al1 n1 A1 r1 p1 => p1 G1 H1 al1 vs A1 r1 Q (hQ.nx n1)
theorem do_no {PO : Option Int → Mu → Prop} (h : PO none μ) : DO K B tNoPart ρ μ PO := fun σ G H al hB hσ hA Q hQ => hQ none μ G H al .refl hA h
theorem do_part {PO : Option Int → Mu → Prop} (h : DE K B te ρ μ fun x μ1 => ∃ i, x = .int i ∧ PO (some i) μ1) : DO K B (tPart te) ρ μ PO := fun σ G H al hB hσ hA Q hQ =>
  h σ G H al hB hσ hA _ fun v d μ1 G1 H1 al1 n1 A1 r1 p1 => by
    obtain ⟨i, rfl, p⟩ := p1
    cases r1
    exact ⟨i, rfl, hQ _ μ1 G1 H1 al1 n1 A1 p⟩
theorem de_sl {r : V → Option Int → Option Int → Hp → VK → Prop} {tl th : TO} (h : DE K B te ρ μ fun x μ1 => DO K B tl ρ μ1 fun lo μ2 => DO K B th ρ μ2 fun hi μ3 => RS K r x lo hi μ3 P) : DE K B (tSl r te tl th) ρ μ P := fun σ G H al hB hσ hA Q hQ =>
  h σ G H al hB hσ hA _ fun v d μ1 G1 H1 al1 n1 A1 r1 p1 => p1 σ G1 H1 al1 (hB.trans n1) (hσ.nx n1) A1 _ fun lo μ2 G2 H2 al2 n2 A2 p2 =>
    p2 σ G2 H2 al2 ((hB.trans n1).trans n2) ((hσ.nx n1).nx n2) A2 _ fun hi μ3 G3 H3 al3 n3 A3 p3 => p3 G3 H3 al3 v A3 ((r1.nx n2).nx n3) Q (hQ.nx ((n1.trans n2).trans n3))
/-! fields, methods of built-in types -/
theorem de_fld {f : Str} (h : DE K B te ρ μ fun x μ1 => ∃ C gs d, (x = .obj C gs ∨ ∃ k, x = .own k ∧ μ1[k]? = some (.ins C gs)) ∧ Cls K C ∧ NoAttr K C f ∧ gs.lookup f = some d ∧ P d μ1) : DE K B (tFld K te f) ρ μ P := fun σ G H al hB hσ hA Q hQ =>
  h σ G H al hB hσ hA _ fun v d μ1 G1 H1 al1 n1 A1 r1 p1 => by
    obtain ⟨C, gs, z, hx, cl, na, lk, p⟩ := p1
    rcases hx with rfl | ⟨k, rfl, hk⟩
    · cases r1 with
      | obj e rf =>
        obtain ⟨w, lw, rw'⟩ := rf.look lk
        exact ⟨_, C, _, _, w, rfl, A1.sub _ _ e, cl, na, lw, hQ _ _ μ1 _ _ _ n1 A1 rw' p⟩
    · obtain ⟨a, ha, ok⟩ := A1.get hk
      cases r1 with
      | own e =>
        rw [ha] at e
        cases e
        obtain ⟨ga, dx, fs, hv, rf⟩ := ok
        obtain ⟨w, lw, rw'⟩ := rf.look lk
        exact ⟨_, C, _, _, w, rfl, hv, cl, na, lw, hQ _ _ μ1 _ _ _ n1 A1 rw' p⟩
theorem de_bm {T : String} {r : V → List V → Hp → VK → Prop} {ts : TA} (h : DE K B te ρ μ fun x μ1 => (∀ G H al v, As K G H al μ1 → Rp K G al v x → tyV K T v H) ∧ DA K B ts ρ μ1 fun xs μ2 => RM K r x xs μ2 P) : DE K B (tBM K T r te ts) ρ μ P := fun σ G H al hB hσ hA Q hQ =>
  h σ G H al hB hσ hA _ fun v d μ1 G1 H1 al1 n1 A1 r1 p1 => ⟨p1.1 G1 H1 al1 v A1 r1, p1.2 σ G1 H1 al1 (hB.trans n1) (hσ.nx n1) A1 _ fun vs ds μ2 G2 H2 al2 n2 A2 r2 p2 => p2 G2 H2 al2 v vs A2 (r1.nx n2) r2 Q (hQ.nx (n1.trans n2))⟩
theorem de_bm0 {T : String} {r : V → List V → Hp → VK → Prop} (h : DE K B te ρ μ fun x μ1 => (∀ G H al v, As K G H al μ1 → Rp K G al v x → tyV K T v H) ∧ RM K r x [] μ1 P) : DE K B (tBM0 K T r te) ρ μ P := fun σ G H al hB hσ hA Q hQ =>
  h σ G H al hB hσ hA _ fun v d μ1 G1 H1 al1 n1 A1 r1 p1 => ⟨p1.1 G1 H1 al1 v A1 r1, p1.2 G1 H1 al1 v [] A1 r1 .nil Q (hQ.nx n1)⟩
end
/-! ### targets, statements -/
section
variable {K : PySem.W.Frag} {B : Bs} {ρ : En} {μ : Mu} {P : DEnds} {te ta tb : TE} {t u : TS} {PG' : En → Mu → Prop}
theorem dg_name {i : Nat} {d : D} (h : PG' (ρ.set i (some d)) μ) : DG K B (gName i) d ρ μ PG' := fun σ G H al v hB hσ hA r Q hQ => hQ _ _ μ G H al .refl (hσ.set i r) hA h
theorem dgs_nil (h : PG' ρ μ) : DGs K B gNil [] ρ μ PG' := fun σ G H al vs hB hσ hA r Q hQ => by
  cases r
  exact ⟨rfl, hQ _ _ μ G H al .refl hσ hA h⟩
theorem dgs_cons {g : TG} {gs : TGs} {d : D} {ds : List D} (h : DG K B g d ρ μ fun ρ1 μ1 => DGs K B gs ds ρ1 μ1 PG') : DGs K B (gCons g gs) (d :: ds) ρ μ PG' := fun σ G H al vs hB hσ hA r Q hQ => by
  cases r with
  | cons r1 rs => exact ⟨_, _, rfl, h σ G H al _ hB hσ hA r1 _ fun σ1 ρ1 μ1 G1 H1 al1 n1 hσ1 A1 p1 => p1 σ1 G1 H1 al1 _ (hB.trans n1) hσ1 A1 (rs.nx n1) Q (hQ.nx n1)⟩
theorem dg_tup {n : Nat} {gs : TGs} {ds : List D} (hn : ds.length = n) (h : DGs K B gs ds ρ μ PG') : DG K B (gTup K n gs) (.tup ds) ρ μ PG' := fun σ G H al v hB hσ hA r Q hQ => by
  cases r with
  | tup e rs => exact ⟨_, _, rfl, .inl (.inl (hA.sub _ _ e)), rs.length.trans hn, h σ G H al _ hB hσ hA rs Q hQ⟩
theorem dg_sub {to ti : TE} {r : TSet} {d : D} (h : DE K B to ρ μ fun o μ1 => DE K B ti ρ μ1 fun i μ2 => RSet K r o i d μ2 fun μ3 => PG' ρ μ3) : DG K B (gSub to ti r) d ρ μ PG' := fun σ G H al v hB hσ hA rv Q hQ =>
  h σ G H al hB hσ hA _ fun vo o μ1 G1 H1 al1 n1 A1 r1 p1 => p1 σ G1 H1 al1 (hB.trans n1) (hσ.nx n1) A1 _ fun vi i μ2 G2 H2 al2 n2 A2 r2 p2 =>
    p2 G2 H2 al2 vo vi v A2 (r1.nx n2) r2 ((rv.nx n1).nx n2) _ fun μ3 G3 H3 al3 n3 A3 p3 => hQ _ _ μ3 G3 H3 al3 ((n1.trans n2).trans n3) (((hσ.nx n1).nx n2).nx n3) A3 p3
theorem ds_next (h : P.nx ρ μ) : DS K B tNext ρ μ P := fun σ G H al hB hσ hA De hD => hD.nx _ _ μ G H al .refl hσ hA h
theorem ds_seq (h : DS K B t ρ μ { P with nx := fun ρ1 μ1 => DS K B u ρ1 μ1 P }) : DS K B (tSeq t u) ρ μ P := fun σ G H al hB hσ hA De hD =>
  h σ G H al hB hσ hA _ ⟨fun σ1 ρ1 μ1 G1 H1 al1 n1 hσ1 A1 p1 => p1 σ1 G1 H1 al1 (hB.trans n1) hσ1 A1 De (hD.nx' n1), hD.rt, hD.bk, hD.ct⟩
/-- a statement behind which the ways meet again -/
theorem ds_cut {M : En → Mu → Prop} (h : DS K B t ρ μ { P with nx := M }) (k : ∀ ρ1 μ1, M ρ1 μ1 → DS K B u ρ1 μ1 P) : DS K B (tSeq t u) ρ μ P := fun σ G H al hB hσ hA De hD =>
  h σ G H al hB hσ hA _ ⟨fun σ1 ρ1 μ1 G1 H1 al1 n1 hσ1 A1 p1 => k ρ1 μ1 p1 σ1 G1 H1 al1 (hB.trans n1) hσ1 A1 De (hD.nx' n1), hD.rt, hD.bk, hD.ct⟩
theorem ds_asg {g : TG} (h : DE K B te ρ μ fun d μ1 => DG K B g d ρ μ1 P.nx) : DS K B (tAsg te g) ρ μ P := fun σ G H al hB hσ hA De hD =>
  h σ G H al hB hσ hA _ fun v d μ1 G1 H1 al1 n1 A1 r1 p1 => p1 σ G1 H1 al1 v (hB.trans n1) (hσ.nx n1) A1 r1 _ (hD.nx.nx n1)
theorem ds_set {i : Nat} (h : DE K B te ρ μ fun d μ1 => P.nx (ρ.set i (some d)) μ1) : DS K B (tAsg te (gName i)) ρ μ P := ds_asg (h.imp fun d μ1 p => dg_name p)
theorem ds_drop (h : DE K B te ρ μ fun d μ1 => P.nx ρ μ1) : DS K B (tDrop te) ρ μ P := fun σ G H al hB hσ hA De hD =>
  h σ G H al hB hσ hA _ fun v d μ1 G1 H1 al1 n1 A1 r1 p1 => hD.nx _ _ μ1 G1 H1 al1 n1 (hσ.nx n1) A1 p1
theorem ds_ret (h : DE K B te ρ μ P.rt) : DS K B (tRet te) ρ μ P := fun σ G H al hB hσ hA De hD => h σ G H al hB hσ hA _ hD.rt
theorem ds_retN (h : P.rt .non μ) : DS K B tRetN ρ μ P := fun σ G H al hB hσ hA De hD => hD.rt _ _ μ G H al .refl hA .non h
theorem ds_if {c : TT} (h : DT K B c ρ μ fun b μ1 => (b = true → DS K B t ρ μ1 P) ∧ (b = false → DS K B u ρ μ1 P)) : DS K B (tIfS c t u) ρ μ P := fun σ G H al hB hσ hA De hD =>
  h σ G H al hB hσ hA _ fun b μ1 G1 H1 al1 n1 A1 p1 => by
    cases b with
    | true => rw [if_pos rfl]; exact p1.1 rfl σ G1 H1 al1 (hB.trans n1) (hσ.nx n1) A1 De (hD.nx' n1)
    | false => rw [if_neg (by simp)]; exact p1.2 rfl σ G1 H1 al1 (hB.trans n1) (hσ.nx n1) A1 De (hD.nx' n1)
theorem ds_par {i j : Nat} {ts : TA} (h : DA K B ts ρ μ fun ds μ1 => ∃ x y, ds = [x, y] ∧ P.nx ((ρ.set i (some x)).set j (some y)) μ1) : DS K B (tPar i j ts) ρ μ P := fun σ G H al hB hσ hA De hD =>
  h σ G H al hB hσ hA _ fun vs ds μ1 G1 H1 al1 n1 A1 r1 p1 => by
    obtain ⟨x, y, rfl, p⟩ := p1
    cases r1 with
    | cons rx r2 => cases r2 with
      | cons ry r3 =>
        cases r3
        exact ⟨_, _, rfl, hD.nx _ _ μ1 G1 H1 al1 n1 (((hσ.nx n1).set i rx).set j ry) A1 p⟩
theorem ds_fld {f : Str} (h : DE K B tb ρ μ fun y μ1 => DE K B ta ρ μ1 fun x μ2 => ∃ k C gs, x = .own k ∧ μ2[k]? = some (.ins C gs) ∧ Cls K C ∧ NoAttr K C f ∧ gs.length < 1000 ∧ P.nx ρ (μ2.set k (.ins C (putD f y gs)))) : DS K B (sFld K ta tb f) ρ μ P := fun σ G H al hB hσ hA De hD =>
  h σ G H al hB hσ hA _ fun vy y μ1 G1 H1 al1 n1 A1 r1 p1 => p1 σ G1 H1 al1 (hB.trans n1) (hσ.nx n1) A1 _ fun vx x μ2 G2 H2 al2 n2 A2 r2 p2 => by
    obtain ⟨k, C, gs, rfl, hk, cl, na, hl, p⟩ := p2
    obtain ⟨a, ha, ok⟩ := A2.get hk
    cases r2 with
    | own e =>
      rw [ha] at e
      cases e
      obtain ⟨ga, dx, fs, hv, rf⟩ := ok
      obtain ⟨A3, n3⟩ := A2.put (o := .ins C dx (putF f vy fs)) (m' := .ins C (putD f y gs)) ha hk (by simp) ⟨ga, dx, _, upd_same, rf.put f (r1.nx n2)⟩
      exact ⟨_, C, dx, fs, rfl, hv, cl, na, by rw [rf.length]; exact hl, hD.nx _ _ _ _ _ _ ((n1.trans n2).trans n3) (((hσ.nx n1).nx n2).nx n3) A3 p⟩
end
end Dl
set_option Elab.async false
set_option linter.all false
set_option maxRecDepth 100000
namespace Dl
open PySem L2
/-! ### lists that are read -/
inductive Ls (μ : Mu) : D → List D → Prop
  | lst (ds : List D) : Ls μ (.lst ds) ds
  | rdl (ds : List D) : Ls μ (.rdl ds) ds
  | own {k : Nat} {ds : List D} (h : μ[k]? = some (.lst ds)) : Ls μ (.own k) ds
/-- .. and stand in the heap itself -/
inductive Lt (μ : Mu) : D → List D → Prop
  | lst (ds : List D) : Lt μ (.lst ds) ds
  | own {k : Nat} {ds : List D} (h : μ[k]? = some (.lst ds)) : Lt μ (.own k) ds
inductive Ts : D → List D → Prop
  | tup (ds : List D) : Ts (.tup ds) ds
  | rdt (ds : List D) : Ts (.rdt ds) ds
section
variable {K : PySem.W.Frag} {G H : Hp} {al : List Addr} {μ : Mu} {v : V} {d : D} {ds : List D}
theorem Lt.get (h : Lt μ d ds) (A : As K G H al μ) (r : Rp K G al v d) : ∃ a vs, v = .ref a ∧ H a = some (.lst vs) ∧ Rps K G al vs ds := by
  cases h with
  | lst => cases r with | lst e rs => exact ⟨_, _, rfl, A.sub _ _ e, rs⟩
  | own hk =>
    obtain ⟨a, ha, ga, vs, hv, rs⟩ := A.get hk
    cases r with
    | own e => rw [ha] at e; cases e; exact ⟨_, vs, rfl, hv, rs⟩
theorem Ls.get (h : Ls μ d ds) (A : As K G H al μ) (r : Rp K G al v d) : ∃ a vs, v = .ref a ∧ SqL K H a vs ∧ Rps K G al vs ds := by
  cases h with
  | lst => cases r with | lst e rs => exact ⟨_, _, rfl, .inl (.inl (A.sub _ _ e)), rs⟩
  | rdl => cases r with | rdl e rs => exact ⟨_, _, rfl, sql_mono A.sub e, rs⟩
  | own hk =>
    obtain ⟨a, ha, ga, vs, hv, rs⟩ := A.get hk
    cases r with
    | own e => rw [ha] at e; cases e; exact ⟨_, vs, rfl, .inl (.inl hv), rs⟩
theorem Ts.get (h : Ts d ds) (A : As K G H al μ) (r : Rp K G al v d) : ∃ a vs, v = .ref a ∧ SqT K H a vs ∧ Rps K G al vs ds := by
  cases h with
  | tup => cases r with | tup e rs => exact ⟨_, _, rfl, .inl (.inl (A.sub _ _ e)), rs⟩
  | rdt => cases r with | rdt e rs => exact ⟨_, _, rfl, sqt_mono A.sub e, rs⟩
end
theorem rps_cons {K : PySem.W.Frag} {G : Hp} {al : List Addr} {vs : List V} {d : D} {ds : List D} (h : Rps K G al vs (d :: ds)) : ∃ v ws, vs = v :: ws ∧ Rp K G al v d ∧ Rps K G al ws ds := by
  cases h with | cons r t => exact ⟨_, _, rfl, r, t⟩
theorem rps_nil {K : PySem.W.Frag} {G : Hp} {al : List Addr} {vs : List V} (h : Rps K G al vs []) : vs = [] := by cases h; rfl
theorem rps1 {K : PySem.W.Frag} {G : Hp} {al : List Addr} {vs : List V} {d : D} (h : Rps K G al vs [d]) : ∃ v, vs = [v] ∧ Rp K G al v d := by
  obtain ⟨v, ws, rfl, r, t⟩ := rps_cons h
  cases t; exact ⟨v, rfl, r⟩
theorem rps2 {K : PySem.W.Frag} {G : Hp} {al : List Addr} {vs : List V} {d e : D} (h : Rps K G al vs [d, e]) : ∃ v w, vs = [v, w] ∧ Rp K G al v d ∧ Rp K G al w e := by
  obtain ⟨v, ws, rfl, r, t⟩ := rps_cons h
  obtain ⟨w, rfl, q⟩ := rps1 t
  exact ⟨v, w, rfl, r, q⟩
/-- an item by an index of any sign -/
theorem atI_rps {K : PySem.W.Frag} {G : Hp} {al : List Addr} {vs : List V} {ds : List D} {i : Int} {d : D} (h : Rps K G al vs ds) (e : atI ds i = some d) : ∃ v, atI vs i = some v ∧ Rp K G al v d := by
  unfold atI at e ⊢
  rw [h.length]
  cases q : ixN ds.length i with
  | none => rw [q] at e; cases e
  | some j =>
    rw [q] at e
    exact h.get e
def cutD (xs : List D) (lo hi : Option Int) : List D := (xs.drop (HT.sIx xs.length 0 lo)).take (HT.sIx xs.length xs.length hi - HT.sIx xs.length 0 lo)
theorem cut_rps {K : PySem.W.Frag} {G : Hp} {al : List Addr} {vs : List V} {ds : List D} (h : Rps K G al vs ds) (lo hi : Option Int) : Rps K G al (cutV vs lo hi) (cutD ds lo hi) := by
  unfold cutV cutD
  rw [h.length]
  exact (h.drop _).take _
section
variable {K : PySem.W.Frag} {μ : Mu} {P : D → Mu → Prop} {i j : Int} {x y d : D} {ds es : List D}
/-! ### numbers -/
theorem ro_i {f : Int → Int → Int} (h : P (.int (f i j)) μ) : RO K (rI0 fun i j => .int (f i j)) (.int i) (.int j) μ P := fun G H al v w A r1 r2 Q hQ => by
  cases r1; cases r2
  exact ⟨i, j, rfl, rfl, hQ.now A (.int _) h⟩
theorem ro_b {f : Int → Int → Bool} (h : P (.bl (f i j)) μ) : RO K (rI0 fun i j => .bl (f i j)) (.int i) (.int j) μ P := fun G H al v w A r1 r2 Q hQ => by
  cases r1; cases r2
  exact ⟨i, j, rfl, rfl, hQ.now A (.bl _) h⟩
theorem ro_ic {C : Int → Int → Prop} {f : Int → Int → Int} (hc : C i j) (h : P (.int (f i j)) μ) : RO K (rI C fun i j => .int (f i j)) (.int i) (.int j) μ P := fun G H al v w A r1 r2 Q hQ => by
  cases r1; cases r2
  exact ⟨i, j, rfl, rfl, hc, hQ.now A (.int _) h⟩
theorem ro_ip {f : Int → Int → Int} (h : P (.int (f i j)) μ) : RO K (ipI f) (.int i) (.int j) μ P := fun G H al v w A r1 r2 Q hQ => by
  cases r1; cases r2
  exact ⟨i, j, rfl, rfl, hQ.now A (.int _) h⟩
theorem ru_i {f : Int → Int} (h : P (.int (f i)) μ) : RU K (rU fun i => .int (f i)) (.int i) μ P := fun G H al v A r1 Q hQ => by
  cases r1
  exact ⟨i, rfl, hQ.now A (.int _) h⟩
theorem rc_max2 (h : P (.int (max i j)) μ) : RC K (fun xs H Q => ∃ i j, xs = [.int i, .int j] ∧ Q (.int (if j > i then j else i)) H) [.int i, .int j] μ P := fun G H al vs A r Q hQ => by
  obtain ⟨v, w, rfl, r1, r2⟩ := rps2 r
  cases r1; cases r2
  refine ⟨i, j, rfl, ?_⟩
  have e : (if j > i then j else i) = max i j := by rw [Int.max_def]; split <;> split <;> omega
  rw [e]
  exact hQ.now A (.int _) h
theorem rc_min2 (h : P (.int (min i j)) μ) : RC K (fun xs H Q => ∃ i j, xs = [.int i, .int j] ∧ Q (.int (if j < i then j else i)) H) [.int i, .int j] μ P := fun G H al vs A r Q hQ => by
  obtain ⟨v, w, rfl, r1, r2⟩ := rps2 r
  cases r1; cases r2
  refine ⟨i, j, rfl, ?_⟩
  have e : (if j < i then j else i) = min i j := by rw [Int.min_def]; split <;> split <;> omega
  rw [e]
  exact hQ.now A (.int _) h
/-! ### lengths, items, slices, joins -/
theorem rc_len (hl : Ls μ x ds) (h : P (.int (ds.length : Int)) μ) : RC K (fun xs H Q => ∃ x n, xs = [x] ∧ LenV K x H n ∧ Q (.int (n : Nat)) H) [x] μ P := fun G H al vs A r Q hQ => by
  obtain ⟨v, rfl, r1⟩ := rps1 r
  obtain ⟨a, ws, rfl, s, rs⟩ := hl.get A r1
  exact ⟨.ref a, ds.length, rfl, .inl ⟨ws, s, rs.length.symm⟩, hQ.now A (.int _) h⟩
theorem rc_lenT (hl : Ts x ds) (h : P (.int (ds.length : Int)) μ) : RC K (fun xs H Q => ∃ x n, xs = [x] ∧ LenV K x H n ∧ Q (.int (n : Nat)) H) [x] μ P := fun G H al vs A r Q hQ => by
  obtain ⟨v, rfl, r1⟩ := rps1 r
  obtain ⟨a, ws, rfl, s, rs⟩ := hl.get A r1
  exact ⟨.ref a, ds.length, rfl, .inr ⟨ws, s, rs.length.symm⟩, hQ.now A (.int _) h⟩
theorem ro_ixL (hl : Ls μ x ds) (e : atI ds i = some d) (h : P d μ) : RO K (rIx K) x (.int i) μ P := fun G H al v w A r1 r2 Q hQ => by
  cases r2
  obtain ⟨a, ws, rfl, s, rs⟩ := hl.get A r1
  obtain ⟨z, ez, rz⟩ := atI_rps rs e
  exact .inl ⟨a, ws, i, z, rfl, rfl, s, ez, hQ.now A rz h⟩
theorem ro_ixT (hl : Ts x ds) (e : atI ds i = some d) (h : P d μ) : RO K (rIx K) x (.int i) μ P := fun G H al v w A r1 r2 Q hQ => by
  cases r2
  obtain ⟨a, ws, rfl, s, rs⟩ := hl.get A r1
  obtain ⟨z, ez, rz⟩ := atI_rps rs e
  exact .inr (.inl ⟨a, ws, i, z, rfl, rfl, s, ez, hQ.now A rz h⟩)
theorem rs_lst {lo hi : Option Int} (hl : Ls μ x ds) (h : P (.lst (cutD ds lo hi)) μ) : RS K (rSlL K) x lo hi μ P := fun G H al v A r Q hQ => by
  obtain ⟨a, ws, rfl, s, rs⟩ := hl.get A r
  refine ⟨a, ws, rfl, s, fun p hp => ?_⟩
  obtain ⟨A2, n2⟩ := A.frz (o := .lst (cutV ws lo hi)) hp
  exact hQ _ _ μ _ _ _ n2 A2 (.lst upd_same ((cut_rps rs lo hi).nx n2)) h
theorem ro_cat (h1 : Lt μ x ds) (h2 : Lt μ y es) (hs : ds.length + es.length ≤ 100000) (h : P (.lst (ds ++ es)) μ) : RO K rCat x y μ P := fun G H al v w A r1 r2 Q hQ => by
  obtain ⟨a, ws, rfl, s1, rs1⟩ := h1.get A r1
  obtain ⟨b, us, rfl, s2, rs2⟩ := h2.get A r2
  refine ⟨a, b, ws, us, rfl, rfl, s1, s2, by rw [rs1.length, rs2.length]; exact Nat.le_trans hs (by decide), fun p hp => ?_⟩
  obtain ⟨A2, n2⟩ := A.frz (o := .lst (ws ++ us)) hp
  exact hQ _ _ μ _ _ _ n2 A2 (.lst upd_same ((rs1.append rs2).nx n2)) h
/-! ### lists that change -/
theorem ty_list (hl : Ls μ x ds) : ∀ G H al v, As K G H al μ → Rp K G al v x → tyV K "list" v H := fun G H al v A r => by
  obtain ⟨a, ws, rfl, s, rs⟩ := hl.get A r
  exact .inl ⟨rfl, ws, s⟩
theorem rm_app {k : Nat} (hk : μ[k]? = some (.lst ds)) (hs : ds.length < 100000) (h : P .non (μ.set k (.lst (ds ++ [d])))) : RM K rAppend (.own k) [d] μ P := fun G H al v vs A r rs Q hQ => by
  obtain ⟨a, ha, ga, ws, hv, rw'⟩ := A.get hk
  obtain ⟨u, rfl, ru⟩ := rps1 rs
  cases r with
  | own e =>
    rw [ha] at e; cases e
    refine ⟨a, ws, u, rfl, rfl, hv, by rw [rw'.length]; exact Nat.lt_of_lt_of_le hs (by decide), ?_⟩
    obtain ⟨A2, n2⟩ := A.put (o := .lst (ws ++ [u])) (m' := .lst (ds ++ [d])) ha hk (by simp) ⟨ga, _, upd_same, rw'.append (.cons ru .nil)⟩
    exact hQ _ _ _ _ _ _ n2 A2 .non h
theorem rm_clear {k : Nat} (hk : μ[k]? = some (.lst ds)) (h : P .non (μ.set k (.lst []))) : RM K rClear (.own k) [] μ P := fun G H al v vs A r rs Q hQ => by
  obtain ⟨a, ha, ga, ws, hv, rw'⟩ := A.get hk
  have := rps_nil rs
  subst this
  cases r with
  | own e =>
    rw [ha] at e; cases e
    obtain ⟨A2, n2⟩ := A.put (o := .lst []) (m' := .lst []) ha hk (by simp) ⟨ga, _, upd_same, .nil⟩
    exact ⟨a, ws, rfl, rfl, hv, hQ _ _ _ _ _ _ n2 A2 .non h⟩
theorem rps_dropLast {K : PySem.W.Frag} {G : Hp} {al : List Addr} {vs : List V} {ds : List D} (h : Rps K G al vs ds) : Rps K G al vs.dropLast ds.dropLast := by
  rw [List.dropLast_eq_take, List.dropLast_eq_take, h.length]
  exact h.take _
theorem rm_pop {k : Nat} (hk : μ[k]? = some (.lst ds)) (hd : ds[ds.length - 1]? = some d) (h : P d (μ.set k (.lst ds.dropLast))) : RM K rPop (.own k) [] μ P := fun G H al v vs A r rs Q hQ => by
  obtain ⟨a, ha, ga, ws, hv, rw'⟩ := A.get hk
  have := rps_nil rs
  subst this
  cases r with
  | own e =>
    rw [ha] at e; cases e
    obtain ⟨u, hu, ru⟩ := rw'.get hd
    obtain ⟨A2, n2⟩ := A.put (o := .lst ws.dropLast) (m' := .lst ds.dropLast) ha hk (by simp) ⟨ga, _, upd_same, rps_dropLast rw'⟩
    exact ⟨a, ws, u, rfl, rfl, hv, by rw [rw'.length]; exact hu, hQ _ _ _ _ _ _ n2 A2 (ru.nx n2) h⟩
theorem rset_lst {k j : Nat} {PM : Mu → Prop} (hk : μ[k]? = some (.lst ds)) (hj : ixN ds.length i = some j) (h : PM (μ.set k (.lst (ds.set j d)))) : RSet K rSetL (.own k) (.int i) d μ PM := fun G H al v w u A r1 r2 r3 Q hQ => by
  obtain ⟨a, ha, ga, ws, hv, rw'⟩ := A.get hk
  cases r2
  cases r1 with
  | own e =>
    rw [ha] at e; cases e
    obtain ⟨A2, n2⟩ := A.put (o := .lst (ws.set j u)) (m' := .lst (ds.set j d)) ha hk (by simp) ⟨ga, _, upd_same, rw'.set j r3⟩
    exact ⟨a, ws, i, j, rfl, rfl, hv, by rw [rw'.length]; exact hj, hQ _ _ _ _ n2 A2 h⟩
/-! ### sums, all, any -/
theorem rc_sum {ns : List Int} (hl : Ls μ x (ns.map D.int)) (h : P (.int ns.sum) μ) : RC K (rSum K) [x] μ P := fun G H al vs A r Q hQ => by
  obtain ⟨v, rfl, r1⟩ := rps1 r
  obtain ⟨a, ws, rfl, s, rs⟩ := hl.get A r1
  have e := rs.ints
  subst e
  exact ⟨a, ns, rfl, s, hQ.now A (.int _) h⟩
theorem rc_all {bs : List Bool} (hl : Ls μ x (bs.map D.bl)) (h : P (.bl (bs.all id)) μ) : RC K (rAll K) [x] μ P := fun G H al vs A r Q hQ => by
  obtain ⟨v, rfl, r1⟩ := rps1 r
  obtain ⟨a, ws, rfl, s, rs⟩ := hl.get A r1
  have e := rs.bools
  subst e
  exact ⟨a, bs, rfl, s, hQ.now A (.bl _) h⟩
theorem rc_max {ns : List Int} (hl : Ls μ x (ns.map D.int)) (hn : 0 < ns.length) (h : ∀ m, m ∈ ns → (∀ y, y ∈ ns → y ≤ m) → P (.int m) μ) : RC K (rMax K) [x] μ P := fun G H al vs A r Q hQ => by
  obtain ⟨v, rfl, r1⟩ := rps1 r
  obtain ⟨a, ws, rfl, s, rs⟩ := hl.get A r1
  have e := rs.ints
  subst e
  exact ⟨a, ns, rfl, s, hn, fun m h1 h2 => hQ.now A (.int _) (h m h1 h2)⟩
end
/-! ### isinstance -/
/-- a built-in type's name -/
def tyD (μ : Mu) : D → Option String
  | .non => some "NoneType"
  | .bl _ => some "bool"
  | .int _ => some "int"
  | .str _ => some "str"
  | .tup _ => some "tuple"
  | .lst _ => some "list"
  | .rdl _ => some "list"
  | .rdt _ => some "tuple"
  | .dct _ => some "dict"
  | .own k => match μ[k]? with
    | some (.lst _) => some "list"
    | some (.dK _) => some "dict"
    | some (.dT _) => some "dict"
    | _ => none
  | _ => none
/-- what isinstance asks of an own class -/
structure ObT (K : PySem.W.Frag) (C : Addr) : Prop where
  cl : Cls K C
  ha : PySem.W.findIn K (.ref C) "__class__" = some (some (.builtin "object.__class__"))
  hn : PySem.W.specialIn K (.builtin "object.__class__") "__get__" = some (some (.builtin "getset_descriptor.__get__"))
  htk : PySem.W.takesIn K (.builtin "object.__class__") = some true
  hm : PySem.W.mroIn K C (.type "object") = some true
/-- the type of a datum as the deciders take it -/
inductive TyDV (K : PySem.W.Frag) (μ : Mu) : D → Value → Prop
  | ty {d : D} {n : String} (h : tyD μ d = some n) : TyDV K μ d (.type n)
  | obj {C : Addr} {gs : List (Str × D)} (o : ObT K C) : TyDV K μ (.obj C gs) (.ref C)
  | own {C : Addr} {gs : List (Str × D)} {k : Nat} (h : μ[k]? = some (.ins C gs)) (o : ObT K C) : TyDV K μ (.own k) (.ref C)
inductive ClD : D → Value → Prop
  | ty (n : String) : ClD (.ty n) (.type n)
  | loc (C : Addr) : ClD (.loc C) (.ref C)
theorem TyDV.tyx {K : PySem.W.Frag} {G H : Hp} {al : List Addr} {μ : Mu} {v : V} {d : D} {t : Value} (h : TyDV K μ d t) (A : As K G H al μ) (r : Rp K G al v d) : TyX K H v t := by
  cases h with
  | obj o =>
    cases r with
    | obj e rf => exact .base (.ins (A.sub _ _ e) o.cl o.ha o.hn o.htk o.hm)
  | own hk o =>
    obtain ⟨a, ha, ga, dx, fs, hv, rf⟩ := A.get hk
    cases r with
    | own e => rw [ha] at e; cases e; exact .base (.ins hv o.cl o.ha o.hn o.htk o.hm)
  | ty ht =>
    cases r with
    | non => cases ht; exact .base .non
    | bl b => cases ht; exact .base (.bl b)
    | int i => cases ht; exact .base (.int i)
    | str x => cases ht; exact .base (.str x)
    | ty n => cases ht
    | tup e rs => cases ht; exact .base (.tup (A.sub _ _ e))
    | lst e rs => cases ht; exact .base (.lst (A.sub _ _ e))
    | rdl e rs =>
      cases ht
      rcases e with (e | ⟨o, e⟩) | ⟨o, its, n, hk, hc, hd, hs, hz, _⟩
      · exact .base (.lst (A.sub _ _ e))
      · exact .base (.frz (A.sub _ _ e))
      · exact .kList hk hc
    | rdt e rs =>
      cases ht
      rcases e with (e | ⟨o, e⟩) | ⟨o, its, n, hk, hc, hs, hz, _⟩
      · exact .base (.tup (A.sub _ _ e))
      · exact .fTuple (A.sub _ _ e)
      · exact .kTuple hk hc
    | obj e rf => cases ht
    | dct e rf =>
      cases ht
      rcases e with e | ⟨o, e⟩
      · exact .base (.dK (A.sub _ _ e))
      · exact .fDict (A.sub _ _ e)
    | own e =>
      rename_i a k
      simp only [tyD] at ht
      cases hk : μ[k]? with
      | none => rw [hk] at ht; cases ht
      | some m =>
        rw [hk] at ht
        obtain ⟨a', ha, ok⟩ := A.get hk
        rw [ha] at e; cases e
        cases m with
        | lst ds => cases ht; obtain ⟨ga, vs, hv, _⟩ := ok; exact .base (.lst hv)
        | dK ds => cases ht; obtain ⟨ga, vs, hv, _⟩ := ok; exact .base (.dK hv)
        | dT ds => cases ht; obtain ⟨ga, vs, hv, _⟩ := ok; exact .base (.dT hv)
        | dead => cases ht
        | ins _ _ => cases ht
        | tab _ _ => cases ht
    | loc a => cases ht
    | exc _ _ _ => cases ht
section
variable {K : PySem.W.Frag} {μ : Mu} {P : D → Mu → Prop} {x c : D}
theorem rc_isi {t u : Value} {b : Bool} (ht : TyDV K μ x t) (hc : ClD c u) (hk : PySem.W.kitOne K t u = some b) (h : P (.bl b) μ) : RC K (rIsi K) [x, c] μ P := fun G H al vs A r Q hQ => by
  obtain ⟨v, w, rfl, r1, r2⟩ := rps2 r
  have tx := ht.tyx A r1
  cases hc with
  | ty n => cases r2; exact ⟨v, _, t, _, b, rfl, .ty n, tx, hk, hQ.now A (.bl b) h⟩
  | loc C => cases r2; exact ⟨v, _, t, _, b, rfl, .own C, tx, hk, hQ.now A (.bl b) h⟩
theorem rc_isiB {n m : String} {b : Bool} (ht : tyD μ x = some n) (hk : kitB n m = some b) (h : P (.bl b) μ) : RC K (rIsi K) [x, .ty m] μ P := rc_isi (.ty ht) (.ty m) (kit_ty hk) h
end
/-! ### == of data -/
mutual
def D.py : D → PyData
  | .non => .none
  | .bl b => .bool b
  | .int i => .int i
  | .str x => .str x
  | .ty _ => .none
  | .tup xs => .tuple (pyL xs)
  | .lst xs => .list (pyL xs)
  | .rdl xs => .list (pyL xs)
  | .rdt xs => .tuple (pyL xs)
  | .obj _ _ => .none
  | .dct _ => .none
  | .own _ => .none
  | .loc _ => .none
  | .exc _ _ => .none
def pyL : List D → List PyData
  | [] => []
  | x :: xs => D.py x :: pyL xs
end
mutual
/-- data that == goes through: how deep -/
def D.shp : D → Nat → Bool
  | .non, _ => true
  | .bl _, _ => true
  | .int _, _ => true
  | .str x, _ => PyData.strOk x
  | .tup xs, n => decide (0 < n) && shpL xs (n - 1)
  | .lst xs, n => decide (0 < n) && shpL xs (n - 1)
  | .rdl xs, n => decide (0 < n) && shpL xs (n - 1)
  | .rdt xs, n => decide (0 < n) && shpL xs (n - 1)
  | .ty _, _ => false
  | .obj _ _, _ => false
  | .dct _, _ => false
  | .own _, _ => false
  | .loc _, _ => false
  | .exc _ _, _ => false
def shpL : List D → Nat → Bool
  | [], _ => true
  | x :: xs, n => D.shp x n && shpL xs n
end
section
variable {K : PySem.W.Frag} {G H : Hp} {al : List Addr}
mutual
theorem dp_of (s : Same G H) : ∀ {d : D} {n : Nat} {v : V}, d.shp n = true → Rp K G al v d → Dp K H v d.py
  | .non, _, _, _, .non => by unfold D.py; exact .non
  | .bl _, _, _, _, .bl b => by unfold D.py; exact .bl b
  | .int _, _, _, _, .int i => by unfold D.py; exact .int i
  | .str _, _, _, _, .str x => by unfold D.py; exact .str x
  | .tup xs, n, _, h, .tup e r => by
    unfold D.py; unfold D.shp at h; simp at h
    exact .tup (.inl (.inl (s _ _ e))) (dpAll_of s h.2 r)
  | .lst xs, n, _, h, .lst e r => by
    unfold D.py; unfold D.shp at h; simp at h
    exact .lst (.inl (.inl (s _ _ e))) (dpAll_of s h.2 r)
  | .rdl xs, n, _, h, .rdl e r => by
    unfold D.py; unfold D.shp at h; simp at h
    exact .lst (sql_mono s e) (dpAll_of s h.2 r)
  | .rdt xs, n, _, h, .rdt e r => by
    unfold D.py; unfold D.shp at h; simp at h
    exact .tup (sqt_mono s e) (dpAll_of s h.2 r)
  | .ty _, _, _, h, _ => by unfold D.shp at h; cases h
  | .obj _ _, _, _, h, _ => by unfold D.shp at h; cases h
  | .dct _, _, _, h, _ => by unfold D.shp at h; cases h
  | .own _, _, _, h, _ => by unfold D.shp at h; cases h
  | .loc _, _, _, h, _ => by unfold D.shp at h; cases h
  | .exc _ _, _, _, h, _ => by unfold D.shp at h; cases h
theorem dpAll_of (s : Same G H) : ∀ {ds : List D} {n : Nat} {vs : List V}, shpL ds n = true → Rps K G al vs ds → DpAll K H vs (pyL ds)
  | [], _, _, _, .nil => by unfold pyL; exact .nil
  | d :: ds, n, _, h, .cons r t => by
    unfold pyL; unfold shpL at h; simp at h
    exact .cons (dp_of s h.1 r) (dpAll_of s h.2 t)
end
end
mutual
theorem can_of : ∀ {d : D} {n : Nat}, d.shp n = true → d.py.canLay0 = true ∧ d.py.depth ≤ n
  | .non, n, _ => by simp [D.py, PyData.canLay0, PyData.depth]
  | .bl _, n, _ => by simp [D.py, PyData.canLay0, PyData.depth]
  | .int _, n, _ => by simp [D.py, PyData.canLay0, PyData.depth]
  | .str x, n, h => by
    unfold D.shp at h
    simp [D.py, PyData.canLay0, PyData.depth, h]
  | .tup xs, n, h => by
    unfold D.shp at h; simp at h
    have q := canL_of h.2
    simp [D.py, PyData.canLay0, PyData.depth, q.1]
    omega
  | .lst xs, n, h => by
    unfold D.shp at h; simp at h
    have q := canL_of h.2
    simp [D.py, PyData.canLay0, PyData.depth, q.1]
    omega
  | .rdl xs, n, h => by
    unfold D.shp at h; simp at h
    have q := canL_of h.2
    simp [D.py, PyData.canLay0, PyData.depth, q.1]
    omega
  | .rdt xs, n, h => by
    unfold D.shp at h; simp at h
    have q := canL_of h.2
    simp [D.py, PyData.canLay0, PyData.depth, q.1]
    omega
  | .ty _, _, h => by unfold D.shp at h; cases h
  | .obj _ _, _, h => by unfold D.shp at h; cases h
  | .dct _, _, h => by unfold D.shp at h; cases h
  | .own _, _, h => by unfold D.shp at h; cases h
  | .loc _, _, h => by unfold D.shp at h; cases h
  | .exc _ _, _, h => by unfold D.shp at h; cases h
theorem canL_of : ∀ {ds : List D} {n : Nat}, shpL ds n = true → PyData.canLayAll0 (pyL ds) = true ∧ PyData.depthAll (pyL ds) ≤ n
  | [], n, _ => by simp [pyL, PyData.canLayAll0, PyData.depthAll]
  | d :: ds, n, h => by
    unfold shpL at h; simp at h
    have q1 := can_of h.1
    have q2 := canL_of h.2
    simp [pyL, PyData.canLayAll0, PyData.depthAll, q1.1, q2.1]
    have := q1.2; have := q2.2; omega
end
theorem shaped_of {d : D} {n : Nat} (hn : n ≤ 64) (h : d.shp n = true) : SeqAt.shaped d.py = true := by
  have q := can_of h
  unfold SeqAt.shaped
  simp [q.1]
  omega
theorem beq_dec {α : Type} [BEq α] [LawfulBEq α] [DecidableEq α] (a b : α) : (a == b) = decide (a = b) := by
  rw [Bool.eq_iff_iff, beq_iff_eq, decide_eq_true_eq]
/-- what == says of two data -/
def eqvD (x y : D) : Bool := PyData.eqv x.py y.py
def eqvL (xs ys : List D) : Bool := PyData.eqvAll (pyL xs) (pyL ys)
@[simp] theorem eqvD_int (i j : Int) : eqvD (.int i) (.int j) = decide (i = j) := by
  simp only [eqvD, D.py, PyData.eqv]
  exact beq_dec i j
@[simp] theorem eqvD_bl (i j : Bool) : eqvD (.bl i) (.bl j) = decide (i = j) := by
  simp only [eqvD, D.py, PyData.eqv]
  exact beq_dec i j
@[simp] theorem eqvD_str (i j : Str) : eqvD (.str i) (.str j) = decide (i = j) := by
  simp only [eqvD, D.py, PyData.eqv]
  exact beq_dec i j
@[simp] theorem eqvD_tup (xs ys : List D) : eqvD (.tup xs) (.tup ys) = eqvL xs ys := by simp only [eqvD, eqvL, D.py, PyData.eqv]
@[simp] theorem eqvD_lst (xs ys : List D) : eqvD (.lst xs) (.lst ys) = eqvL xs ys := by simp only [eqvD, eqvL, D.py, PyData.eqv]
@[simp] theorem eqvD_rdl (xs ys : List D) : eqvD (.rdl xs) (.lst ys) = eqvL xs ys := by simp only [eqvD, eqvL, D.py, PyData.eqv]
@[simp] theorem eqvL_nil : eqvL [] [] = true := by simp only [eqvL, pyL, PyData.eqvAll]
@[simp] theorem eqvL_cons (x y : D) (xs ys : List D) : eqvL (x :: xs) (y :: ys) = (eqvD x y && eqvL xs ys) := by simp only [eqvL, eqvD, pyL, PyData.eqvAll]
@[simp] theorem eqvL_nc (y : D) (ys : List D) : eqvL [] (y :: ys) = false := by simp only [eqvL, pyL, PyData.eqvAll]
@[simp] theorem eqvL_cn (y : D) (ys : List D) : eqvL (y :: ys) [] = false := by simp only [eqvL, pyL, PyData.eqvAll]
@[simp] theorem eqvD_nn : eqvD .non .non = true := by simp only [eqvD, D.py, PyData.eqv]
theorem eqvD_refl {d : D} {n : Nat} (h : d.shp n = true) : eqvD d d = true := SeqAt.eqv_refl _ (can_of h).1
theorem shpL_map {α : Type} {f : α → D} {n : Nat} {xs : List α} (h : ∀ x ∈ xs, (f x).shp n = true) : shpL (xs.map f) n = true := by
  induction xs with
  | nil => simp [shpL]
  | cons x xs ih =>
    simp [shpL, h x (by simp)]
    exact ih fun y hy => h y (by simp [hy])
/-- one that may still change is looked at as it is now -/
inductive Fz (μ : Mu) : D → D → Prop
  | id (d : D) : Fz μ d d
  | own {k : Nat} {ds : List D} (h : μ[k]? = some (.lst ds)) : Fz μ (.own k) (.lst ds)
theorem Fz.dp {K : PySem.W.Frag} {G H : Hp} {al : List Addr} {μ : Mu} {v : V} {x d : D} {n : Nat} (h : Fz μ x d) (A : As K G H al μ) (hs : d.shp n = true) (r : Rp K G al v x) : Dp K H v d.py := by
  cases h with
  | id => exact dp_of A.sub hs r
  | own hk =>
    obtain ⟨a, ha, ga, ws, hv, rw'⟩ := A.get hk
    cases r with
    | own e =>
      rw [ha] at e; cases e
      unfold D.py; unfold D.shp at hs; simp at hs
      exact .lst (.inl (.inl hv)) (dpAll_of A.sub hs.2 rw')
section
variable {K : PySem.W.Frag} {μ : Mu} {P : D → Mu → Prop} {x y d e : D}
theorem ro_eqD {n m : Nat} (hx : Fz μ x d) (hy : Fz μ y e) (h1 : d.shp n = true) (h2 : e.shp m = true) (h : P (.bl (eqvD d e)) μ) (hn : n ≤ 64 := by decide) (hm : m ≤ 64 := by decide) : RO K (rEqD K) x y μ P := fun G H al v w A r1 r2 Q hQ =>
  ⟨d.py, e.py, hx.dp A h1 r1, hy.dp A h2 r2, shaped_of hn h1, shaped_of hm h2, hQ.now A (.bl _) h⟩
theorem ro_neD {n m : Nat} (hx : Fz μ x d) (hy : Fz μ y e) (h1 : d.shp n = true) (h2 : e.shp m = true) (h : P (.bl (!eqvD d e)) μ) (hn : n ≤ 64 := by decide) (hm : m ≤ 64 := by decide) : RO K (rNeD K) x y μ P := fun G H al v w A r1 r2 Q hQ =>
  ⟨d.py, e.py, hx.dp A h1 r1, hy.dp A h2 r2, shaped_of hn h1, shaped_of hm h2, hQ.now A (.bl _) h⟩
theorem ro_eqI {i j : Int} (h : P (.bl (decide (i = j))) μ) : RO K (rEqD K) (.int i) (.int j) μ P := ro_eqD (n := 0) (m := 0) (.id _) (.id _) rfl rfl (by rw [eqvD_int]; exact h)
theorem ro_neI {i j : Int} (h : P (.bl (!decide (i = j))) μ) : RO K (rNeD K) (.int i) (.int j) μ P := ro_neD (n := 0) (m := 0) (.id _) (.id _) rfl rfl (by rw [eqvD_int]; exact h)
theorem ro_eqB {i j : Bool} (h : P (.bl (decide (i = j))) μ) : RO K (rEqD K) (.bl i) (.bl j) μ P := ro_eqD (n := 0) (m := 0) (.id _) (.id _) rfl rfl (by rw [eqvD_bl]; exact h)
theorem ro_neB {i j : Bool} (h : P (.bl (!decide (i = j))) μ) : RO K (rNeD K) (.bl i) (.bl j) μ P := ro_neD (n := 0) (m := 0) (.id _) (.id _) rfl rfl (by rw [eqvD_bl]; exact h)
end
end Dl
set_option Elab.async false
set_option linter.all false
set_option maxRecDepth 100000
namespace Dl
open PySem L2
/-! ### what is walked -/
/-- J walks ds, as long as S holds of what may change -/
def ItOk (K : PySem.W.Frag) (J : It) (ds : List D) (S : Mu → Prop) (G H : Hp) (al : List Addr) : Prop := ∀ G2 H2 al2 μ2, Nx G H al G2 H2 al2 → As K G2 H2 al2 μ2 → S μ2 →
  (∀ i, i < ds.length → J.go i H2) ∧ (∀ i, ds.length ≤ i → J.stop i H2) ∧ ∀ i x H3, J.yld i H2 x H3 → ∀ d, ds[i]? = some d → ∃ G3, Nx G2 H2 al2 G3 H3 al2 ∧ As K G3 H3 al2 μ2 ∧ Rp K G3 al2 x d
def DI (K : PySem.W.Frag) (B : Bs) (wi : TI) (ρ : En) (μ : Mu) (P : List D → (Mu → Prop) → Mu → Prop) : Prop := ∀ σ G H al, B.le G H al → RpS K G al σ ρ → As K G H al μ → ∀ R : It → Hp → Prop,
  (∀ J ds S μ' G' H' al', Nx G H al G' H' al' → As K G' H' al' μ' → ItOk K J ds S G' H' al' → P ds S μ' → R J H') → wi σ H R
section
variable {K : PySem.W.Frag} {B : Bs} {ρ : En} {μ : Mu} {te : TE} {ts : TA} {PI' : List D → (Mu → Prop) → Mu → Prop}
theorem itl_ok {G H : Hp} {al : List Addr} {a : Addr} {ds : List D} {S : Mu → Prop} (h : ∀ G2 H2 al2 μ2, Nx G H al G2 H2 al2 → As K G2 H2 al2 μ2 → S μ2 → ∃ vs, SqL K H2 a vs ∧ Rps K G2 al2 vs ds) : ItOk K (Itl K a) ds S G H al := fun G2 H2 al2 μ2 n A s => by
  obtain ⟨vs, sq, r⟩ := h G2 H2 al2 μ2 n A s
  refine ⟨fun i hi => ⟨vs, vs[i]'(by rw [r.length]; exact hi), sq, by simp⟩, fun i hi => ⟨vs, sq, by rw [r.length]; exact hi⟩, fun i x H3 y d hd => ?_⟩
  obtain ⟨rfl, y⟩ := y
  obtain ⟨d', hd', r'⟩ := r.getV (y vs sq)
  rw [hd] at hd'; cases hd'
  exact ⟨G2, .refl, A, r'⟩
/-- lo, lo + 1, .. -/
def rangeD (lo : Int) (n : Nat) : List D := (List.range n).map fun (i : Nat) => D.int (lo + (i : Int))
theorem rangeD_length (lo : Int) (n : Nat) : (rangeD lo n).length = n := by simp [rangeD]
theorem rangeD_get {lo : Int} {n i : Nat} (h : i < n) : (rangeD lo n)[i]? = some (.int (lo + (i : Int))) := by simp [rangeD, h]
theorem rangeD_some {lo : Int} {n i : Nat} {d : D} (h : (rangeD lo n)[i]? = some d) : i < n ∧ d = .int (lo + (i : Int)) := by
  have hi : i < n := by
    have := (List.getElem?_eq_some_iff.mp h).1
    rw [rangeD_length] at this
    exact this
  rw [rangeD_get hi] at h
  exact ⟨hi, (Option.some.inj h).symm⟩
theorem itr_ok {lo : Int} {n : Nat} {G H : Hp} {al : List Addr} : ItOk K (Itr lo n) (rangeD lo n) (fun _ => True) G H al := fun G2 H2 al2 μ2 _ A _ => by
  refine ⟨fun i hi => by rw [rangeD_length] at hi; exact hi, fun i hi => by rw [rangeD_length] at hi; exact hi, fun i x H3 y d hd => ?_⟩
  obtain ⟨rfl, rfl⟩ := y
  obtain ⟨_, rfl⟩ := rangeD_some hd
  exact ⟨G2, .refl, A, .int _⟩
theorem di_range1 (h : DA K B ts ρ μ fun xs μ1 => ∃ n : Int, xs = [.int n] ∧ -(2 ^ 62) ≤ n ∧ n < 2 ^ 62 ∧ PI' (rangeD 0 n.toNat) (fun _ => True) μ1) : DI K B (iRng1 ts) ρ μ PI' := fun σ G H al hB hσ hA R hR =>
  h σ G H al hB hσ hA _ fun vs ds μ1 G1 H1 al1 n1 A1 r1 p1 => by
    obtain ⟨n, rfl, h1, h2, p⟩ := p1
    obtain ⟨v, rfl, r⟩ := rps1 r1
    cases r
    exact ⟨n, rfl, h1, h2, hR _ _ _ μ1 G1 H1 al1 n1 A1 itr_ok p⟩
theorem di_range2 (h : DA K B ts ρ μ fun xs μ1 => ∃ lo n : Int, xs = [.int lo, .int n] ∧ (-(2 ^ 62) ≤ lo ∧ lo < 2 ^ 62 ∧ -(2 ^ 62) ≤ n ∧ n < 2 ^ 62) ∧ PI' (rangeD lo (n - lo).toNat) (fun _ => True) μ1) : DI K B (iRng2 ts) ρ μ PI' := fun σ G H al hB hσ hA R hR =>
  h σ G H al hB hσ hA _ fun vs ds μ1 G1 H1 al1 n1 A1 r1 p1 => by
    obtain ⟨lo, n, rfl, h1, p⟩ := p1
    obtain ⟨v, w, rfl, r, r'⟩ := rps2 r1
    cases r; cases r'
    exact ⟨lo, n, rfl, h1, hR _ _ _ μ1 G1 H1 al1 n1 A1 itr_ok p⟩
/-- enumerate -/
def enumD (ds : List D) : List D := ds.mapIdx fun i d => .tup [.int (i : Int), d]
theorem enumD_length (ds : List D) : (enumD ds).length = ds.length := by simp [enumD]
theorem enumD_some {ds : List D} {i : Nat} {d : D} (h : (enumD ds)[i]? = some d) : ∃ x, ds[i]? = some x ∧ d = .tup [.int (i : Int), x] := by
  simp only [enumD, List.getElem?_mapIdx] at h
  cases q : ds[i]? with
  | none => rw [q] at h; cases h
  | some x => rw [q] at h; exact ⟨x, rfl, (Option.some.inj h).symm⟩
theorem di_enum (h : DA K B ts ρ μ fun xs μ1 => ∃ x ds, xs = [x] ∧ ((x = .lst ds ∧ PI' (enumD ds) (fun _ => True) μ1) ∨ (x = .rdl ds ∧ PI' (enumD ds) (fun _ => True) μ1) ∨ ∃ k, x = .own k ∧ μ1[k]? = some (.lst ds) ∧ PI' (enumD ds) (fun μ' => μ'[k]? = some (.lst ds)) μ1)) : DI K B (iEnum K ts) ρ μ PI' := fun σ G H al hB hσ hA R hR =>
  h σ G H al hB hσ hA _ fun vs ds μ1 G1 H1 al1 n1 A1 r1 p1 => by
    obtain ⟨x, xs, rfl, p1⟩ := p1
    obtain ⟨v, rfl, r⟩ := rps1 r1
    have key : ∃ a S, v = .ref a ∧ PI' (enumD xs) S μ1 ∧ S μ1 ∧ ∀ G2 H2 al2 μ2, Nx G1 H1 al1 G2 H2 al2 → As K G2 H2 al2 μ2 → S μ2 → ∃ vs, SqL K H2 a vs ∧ Rps K G2 al2 vs xs := by
      rcases p1 with ⟨rfl, p⟩ | ⟨rfl, p⟩ | ⟨k, rfl, hk, p⟩
      · cases r with | lst e rs => exact ⟨_, _, rfl, p, trivial, fun G2 H2 al2 μ2 n2 A2 _ => ⟨_, .inl (.inl (A2.sub _ _ (n2.g _ _ e))), rs.nx n2⟩⟩
      · cases r with | rdl e rs => exact ⟨_, _, rfl, p, trivial, fun G2 H2 al2 μ2 n2 A2 _ => ⟨_, sql_mono A2.sub (sql_mono n2.g e), rs.nx n2⟩⟩
      · obtain ⟨a, ha, ga, vs, hv, rs⟩ := A1.get hk
        cases r with
        | own e =>
          rw [ha] at e; cases e
          refine ⟨_, _, rfl, p, hk, fun G2 H2 al2 μ2 n2 A2 s => ?_⟩
          obtain ⟨a2, ha2, ga2, vs2, hv2, rs2⟩ := A2.get s
          rw [n2.p.get ha] at ha2; cases ha2
          exact ⟨vs2, .inl (.inl hv2), rs2⟩
    obtain ⟨a, S, rfl, p, s1, key⟩ := key
    obtain ⟨vs1, sq1, _⟩ := key G1 H1 al1 μ1 .refl A1 s1
    refine ⟨a, vs1, rfl, sq1, hR _ _ S μ1 G1 H1 al1 n1 A1 (fun G2 H2 al2 μ2 n2 A2 s => ?_) p⟩
    obtain ⟨vs, sq, r⟩ := key G2 H2 al2 μ2 n2 A2 s
    rw [enumD_length]
    refine ⟨fun i hi => ⟨vs, vs[i]'(by rw [r.length]; exact hi), sq, by simp⟩, fun i hi => ⟨vs, sq, by rw [r.length]; exact hi⟩, fun i x H3 y d hd => ?_⟩
    obtain ⟨T, z, rfl, hT, rfl, y⟩ := y
    obtain ⟨w, hw, rfl⟩ := enumD_some hd
    obtain ⟨d', hd', r'⟩ := r.getV (y vs sq)
    rw [hw] at hd'; cases hd'
    obtain ⟨A3, n3⟩ := A2.frz (o := .tup [.int (i : Nat), z]) hT
    exact ⟨_, n3, A3, .tup upd_same (.cons (.int _) (.cons (r'.nx n3) .nil))⟩
def zipD (xs ys : List D) : List D := xs.zipWith (fun a b => .tup [a, b]) ys
theorem zipD_length (xs ys : List D) : (zipD xs ys).length = min xs.length ys.length := by simp [zipD]
theorem zipD_some {xs ys : List D} {i : Nat} {d : D} (h : (zipD xs ys)[i]? = some d) : ∃ x y, xs[i]? = some x ∧ ys[i]? = some y ∧ d = .tup [x, y] := by
  simp only [zipD, List.getElem?_zipWith] at h
  cases q : xs[i]? with
  | none => rw [q] at h; cases h
  | some x =>
    cases q2 : ys[i]? with
    | none => rw [q, q2] at h; cases h
    | some y => rw [q, q2] at h; exact ⟨x, y, rfl, rfl, (Option.some.inj h).symm⟩
/-- zip of two frozen lists -/
theorem di_zip (h : DA K B ts ρ μ fun xs μ1 => ∃ ds es, xs = [.lst ds, .lst es] ∧ PI' (zipD ds es) (fun _ => True) μ1) : DI K B (iZip K ts) ρ μ PI' := fun σ G H al hB hσ hA R hR =>
  h σ G H al hB hσ hA _ fun vs ds μ1 G1 H1 al1 n1 A1 r1 p1 => by
    obtain ⟨xs, ys, rfl, p⟩ := p1
    obtain ⟨v, w, rfl, r, r'⟩ := rps2 r1
    cases r with
    | lst e rs => cases r' with
      | lst e' rs' =>
        refine ⟨_, _, _, _, rfl, .inl (.inl (A1.sub _ _ e)), .inl (.inl (A1.sub _ _ e')), hR _ _ _ μ1 G1 H1 al1 n1 A1 (fun G2 H2 al2 μ2 n2 A2 s => ?_) p⟩
        have q1 := A2.sub _ _ (n2.g _ _ e)
        have q2 := A2.sub _ _ (n2.g _ _ e')
        have rr := rs.nx n2
        have rr' := rs'.nx n2
        rw [zipD_length]
        refine ⟨fun i hi => ⟨_, _, _, _, .inl (.inl q1), .inl (.inl q2), List.getElem?_eq_getElem (by rw [rr.length]; omega), List.getElem?_eq_getElem (by rw [rr'.length]; omega)⟩, fun i hi => ⟨_, _, .inl (.inl q1), .inl (.inl q2), by rw [rr.length, rr'.length]; omega⟩, fun i x H3 y d hd => ?_⟩
        obtain ⟨T, z, z', rfl, hT, rfl, y1, y2⟩ := y
        obtain ⟨a, b, ha, hb, rfl⟩ := zipD_some hd
        obtain ⟨d1, hd1, k1⟩ := rr.getV (y1 _ (.inl (.inl q1)))
        obtain ⟨d2, hd2, k2⟩ := rr'.getV (y2 _ (.inl (.inl q2)))
        rw [ha] at hd1; cases hd1
        rw [hb] at hd2; cases hd2
        obtain ⟨A3, n3⟩ := A2.frz (o := .tup [z, z']) hT
        exact ⟨_, n3, A3, .tup upd_same (.cons (k1.nx n3) (.cons (k2.nx n3) .nil))⟩
/-- the signs of a text -/
def signsD (x : Str) : List D := x.cps.toList.map fun c => .str ⟨#[c]⟩
/-! ### for -/
theorem ds_for {wi : TI} {g : TG} {tb : TS} {P : DEnds} (h : DI K B wi ρ μ fun ds S μ1 => ∃ Iv : Nat → En → Mu → Prop, Iv 0 ρ μ1 ∧ (∀ i ρ' μ', i ≤ ds.length → Iv i ρ' μ' → S μ') ∧
      (∀ i d ρ' μ', ds[i]? = some d → Iv i ρ' μ' → DG K B g d ρ' μ' fun ρ2 μ2 => DS K B tb ρ2 μ2 { P with nx := Iv (i + 1), ct := Iv (i + 1), bk := P.nx }) ∧ (∀ ρ' μ', Iv ds.length ρ' μ' → P.nx ρ' μ')) : DS K B (tFor wi g tb) ρ μ P := fun σ G H al hB hσ hA De hD =>
  h σ G H al hB hσ hA _ fun J ds S μ1 G1 H1 al1 n1 A1 ok p1 => by
    obtain ⟨Iv, h0, hS, hs, hd⟩ := p1
    refine ⟨fun i m σ' H' => m = ds.length - i ∧ i ≤ ds.length ∧ ∃ G' al' ρ' μ', Nx G1 H1 al1 G' H' al' ∧ RpS K G' al' σ' ρ' ∧ As K G' H' al' μ' ∧ Iv i ρ' μ', ⟨ds.length, by simp, Nat.zero_le _, G1, al1, ρ, μ1, .refl, hσ.nx n1, A1, h0⟩, ?_⟩
    rintro i m σ' H' ⟨rfl, hi, G', al', ρ', μ', n', hσ', A', iv⟩
    obtain ⟨go, stop, yld⟩ := ok G' H' al' μ' n' A' (hS i ρ' μ' hi iv)
    by_cases hlt : i < ds.length
    · refine .inr ⟨go i hlt, fun σ2 H2 => ∃ G2 al2 ρ2 μ2, Nx G1 H1 al1 G2 H2 al2 ∧ RpS K G2 al2 σ2 ρ2 ∧ As K G2 H2 al2 μ2 ∧ Iv (i + 1) ρ2 μ2, fun σ2 H2 q => ⟨ds.length - (i + 1), by omega, rfl, hlt, q⟩, fun x H3 y => ?_⟩
      obtain ⟨G3, n3, A3, r3⟩ := yld i x H3 y _ (List.getElem?_eq_getElem hlt)
      have q := hs i _ ρ' μ' (List.getElem?_eq_getElem hlt) iv σ' G3 H3 al' x (((hB.trans n1).trans n').trans n3) (hσ'.nx n3) A3 r3
      refine q _ fun σ4 ρ4 μ4 G4 H4 al4 n4 hσ4 A4 p4 => ?_
      have nn : Nx G1 H1 al1 G4 H4 al4 := (n'.trans n3).trans n4
      exact p4 σ4 G4 H4 al4 ((hB.trans n1).trans nn) hσ4 A4 _ ⟨fun σ5 ρ5 μ5 G5 H5 al5 n5 hσ5 A5 p5 => ⟨G5, al5, ρ5, μ5, nn.trans n5, hσ5, A5, p5⟩, hD.rt.nx (n1.trans nn), hD.nx.nx (n1.trans nn), fun σ5 ρ5 μ5 G5 H5 al5 n5 hσ5 A5 p5 => ⟨G5, al5, ρ5, μ5, nn.trans n5, hσ5, A5, p5⟩⟩
    · have e : i = ds.length := by omega
      subst e
      exact .inl ⟨stop _ (Nat.le_refl _), hD.nx _ _ μ' G' H' al' (n1.trans n') hσ' A' (hd ρ' μ' iv)⟩
/-! ### while -/
theorem ds_while {c : TT} {tb : TS} {P : DEnds} (Iv : Nat → En → Mu → Prop) {m0 : Nat} (h0 : Iv m0 ρ μ)
    (hs : ∀ m ρ' μ', Iv m ρ' μ' → DT K B c ρ' μ' fun b μ1 => (b = true → DS K B tb ρ' μ1 { P with nx := fun ρ2 μ2 => ∃ m', m' < m ∧ Iv m' ρ2 μ2, ct := fun ρ2 μ2 => ∃ m', m' < m ∧ Iv m' ρ2 μ2, bk := P.nx }) ∧ (b = false → P.nx ρ' μ1)) : DS K B (tWhile c tb) ρ μ P := fun σ G H al hB hσ hA De hD => by
  refine ⟨fun m σ' H' => ∃ G' al' ρ' μ', Nx G H al G' H' al' ∧ RpS K G' al' σ' ρ' ∧ As K G' H' al' μ' ∧ Iv m ρ' μ', ⟨m0, G, al, ρ, μ, .refl, hσ, hA, h0⟩, ?_⟩
  rintro m σ' H' ⟨G', al', ρ', μ', n', hσ', A', iv⟩
  refine hs m ρ' μ' iv σ' G' H' al' (hB.trans n') hσ' A' _ fun b μ1 G1 H1 al1 n1 A1 p1 => ?_
  have nn := n'.trans n1
  cases b with
  | true =>
    rw [if_pos rfl]
    refine ⟨fun σ2 H2 => ∃ m', m' < m ∧ ∃ G2 al2 ρ2 μ2, Nx G H al G2 H2 al2 ∧ RpS K G2 al2 σ2 ρ2 ∧ As K G2 H2 al2 μ2 ∧ Iv m' ρ2 μ2, fun σ2 H2 q => q, ?_⟩
    exact p1.1 rfl σ' G1 H1 al1 (hB.trans nn) (hσ'.nx n1) A1 _ ⟨fun σ5 ρ5 μ5 G5 H5 al5 n5 hσ5 A5 ⟨m', lt, p5⟩ => ⟨m', lt, G5, al5, ρ5, μ5, nn.trans n5, hσ5, A5, p5⟩, hD.rt.nx nn, hD.nx.nx nn, fun σ5 ρ5 μ5 G5 H5 al5 n5 hσ5 A5 ⟨m', lt, p5⟩ => ⟨m', lt, G5, al5, ρ5, μ5, nn.trans n5, hσ5, A5, p5⟩⟩
  | false =>
    rw [if_neg (by simp)]
    exact hD.nx _ _ μ1 G1 H1 al1 nn (hσ'.nx n1) A1 (p1.2 rfl)
end
/-! ### comprehensions -/
def wipeD (ρ : En) : List Nat → En
  | [] => ρ
  | v :: vs => (wipeD ρ vs).set v none
theorem wipe_rps {K : PySem.W.Frag} {G : Hp} {al : List Addr} {σ : St} {ρ : En} (h : RpS K G al σ ρ) : ∀ vs : List Nat, RpS K G al (wipe σ vs) (wipeD ρ vs)
  | [] => h
  | v :: vs => (wipe_rps h vs).forget v none
theorem wipe_set {σ : St} {j : Nat} {x : Option V} : ∀ {vs : List Nat}, j ∈ vs → wipe (σ.set j x) vs = wipe σ vs
  | [], h => by simp at h
  | v :: vs, h => by
    by_cases hv : j ∈ vs
    · unfold wipe; rw [wipe_set hv]
    · have e : j = v := by simpa [hv] using h
      subst e
      have q : ∀ (ws : List Nat), j ∉ ws → wipe (σ.set j x) ws = (wipe σ ws).set j x := by
        intro ws
        induction ws with
        | nil => intro _; rfl
        | cons w ws ih =>
          intro hn
          simp only [List.mem_cons, not_or] at hn
          unfold wipe
          rw [ih hn.2, List.set_comm _ _ (fun z => hn.1 z)]
      unfold wipe
      rw [q vs hv, List.set_set]
theorem wipe_wipe (σ : St) : ∀ vs ws : List Nat, (∀ w ∈ ws, w ∈ vs) → wipe (wipe σ ws) vs = wipe σ vs
  | vs, [], _ => rfl
  | vs, w :: ws, h => by
    show wipe ((wipe σ ws).set w none) vs = wipe σ vs
    rw [wipe_set (h w (by simp)), wipe_wipe σ vs ws fun x hx => h x (by simp [hx])]
/-- a target that stores in vs alone -/
def GW (g : TG) (vs : List Nat) : Prop := ∀ x σ H (Q : St → Hp → Prop), g x σ H Q → g x σ H fun σ2 H2 => wipe σ2 vs = wipe σ vs ∧ Q σ2 H2
def GWs (g : TGs) (vs : List Nat) : Prop := ∀ xs σ H (Q : St → Hp → Prop), g xs σ H Q → g xs σ H fun σ2 H2 => wipe σ2 vs = wipe σ vs ∧ Q σ2 H2
theorem gw_name {i : Nat} {vs : List Nat} (h : i ∈ vs) : GW (gName i) vs := fun x σ H Q q => ⟨wipe_set h, q⟩
theorem gws_nil {vs : List Nat} : GWs gNil vs := fun xs σ H Q q => ⟨q.1, rfl, q.2⟩
theorem gws_cons {i : Nat} {gs : TGs} {vs : List Nat} (h : i ∈ vs) (h2 : GWs gs vs) : GWs (gCons (gName i) gs) vs := fun xs σ H Q q => by
  obtain ⟨v, r, e, q⟩ := q
  refine ⟨v, r, e, ?_⟩
  have z := h2 r (σ.set i (some v)) H Q q
  rw [show wipe (σ.set i (some v)) vs = wipe σ vs from wipe_set h] at z
  exact z
theorem gw_tup {K : PySem.W.Frag} {n : Nat} {gs : TGs} {vs : List Nat} (h : GWs gs vs) : GW (gTup K n gs) vs := fun x σ H Q q => by
  obtain ⟨a, xs, e, s, l, q⟩ := q
  exact ⟨a, xs, e, s, l, h xs σ H Q q⟩
section
variable {K : PySem.W.Frag} {B : Bs} {ρ : En} {μ : Mu} {te : TE} {tt : TT} {wi : TI} {g : TG} {vs : List Nat} {P : D → Mu → Prop}
/-- the list that a comprehension makes is frozen at its end -/
theorem de_lc (hg : GW g vs) (h : DI K B wi ρ μ fun ds S μ1 => ds.length ≤ 100000 ∧ ∃ Iv : Nat → List D → Mu → Prop, Iv 0 [] μ1 ∧ (∀ i acc μ', i ≤ ds.length → Iv i acc μ' → S μ') ∧
      (∀ i d acc μ', ds[i]? = some d → Iv i acc μ' → DG K B g d (wipeD ρ vs) μ' fun ρ2 μ2 => DT K B tt ρ2 μ2 fun b μ3 => (b = true → DE K B te ρ2 μ3 fun y μ4 => Iv (i + 1) (acc ++ [y]) μ4) ∧ (b = false → Iv (i + 1) acc μ3)) ∧
      (∀ acc μ', Iv ds.length acc μ' → P (.lst acc) μ')) : DE K B (tLc wi g tt te vs) ρ μ P := fun σ G H al hB hσ hA Q hQ =>
  h σ G H al hB hσ hA _ fun J ds S μ1 G1 H1 al1 n1 A1 ok p1 => by
    obtain ⟨hlen, Iv, h0, hS, hs, hd⟩ := p1
    intro Dl hDl
    have nDl : Dl ∉ al1 := fun m => A1.here Dl m hDl
    have gDl : G1 Dl = none := A1.sub.free hDl
    -- a store to the list that is made
    have store : ∀ {G' H' al' μ' ac}, Nx G1 H1 al1 G' H' al' → As K G' H' al' μ' → G' Dl = none → Dl ∉ al' → As K G' (upd H' Dl (.lst ac)) al' μ' ∧ Nx G1 H1 al1 G' (upd H' Dl (.lst ac)) al' := by
      intro G' H' al' μ' ac n A g' nal
      refine ⟨⟨fun b u e => by rw [upd_ne (ne_of_none e g')]; exact A.sub _ _ e, A.nd, A.len, fun a m => ?_, fun k a o e1 e2 => ?_⟩, ⟨n.g, n.p, fun a u h m => ?_, n.out, n.new⟩⟩
      · have z : a ≠ Dl := fun z => nal (z ▸ m)
        rw [upd_ne z]; exact A.here a m
      · have z : a ≠ Dl := fun z => nal (z ▸ List.mem_of_getElem? e1)
        exact OkO.mono (Same.refl _) (Pre.refl _) (fun _ g => g) (by rw [upd_ne z]) (A.ok k a o e1 e2)
      · rw [upd_ne (ne_of_none h hDl)]; exact n.keep a u h m
    -- Dl stays where it is through a step
    have stay : ∀ {G' H' al' G'' H'' al'' u}, Nx G' H' al' G'' H'' al'' → H' Dl = some (.lst u) → G' Dl = none → Dl ∉ al' → H'' Dl = some (.lst u) ∧ G'' Dl = none ∧ Dl ∉ al'' := by
      intro G' H' al' G'' H'' al'' u n h g' nal
      refine ⟨n.keep Dl (.lst u) h nal, n.out Dl (by rw [h]; simp) (fun vs e => by rw [h] at e; cases e) nal g', fun m => ?_⟩
      rcases n.new Dl m with z | z
      · exact nal z
      · rw [h] at z; cases z
    obtain ⟨A0, N0⟩ := store (ac := []) .refl A1 gDl nDl
    refine ⟨fun i m H' => m = ds.length - i ∧ i ≤ ds.length ∧ ∃ G' al' μ' acc vacc, Nx G1 H1 al1 G' H' al' ∧ As K G' H' al' μ' ∧ H' Dl = some (.lst vacc) ∧ Rps K G' al' vacc acc ∧ G' Dl = none ∧ Dl ∉ al' ∧ acc.length ≤ i ∧ Iv i acc μ',
      ⟨ds.length, by simp, Nat.zero_le _, G1, al1, μ1, [], [], N0, A0, upd_same, .nil, gDl, nDl, Nat.le_refl _, h0⟩, ?_⟩
    rintro i m H' ⟨rfl, hi, G', al', μ', acc, vacc, n', A', hv, rv, g', nal, hacc, iv⟩
    obtain ⟨go, stop, yld⟩ := ok G' H' al' μ' n' A' (hS i acc μ' hi iv)
    by_cases hlt : i < ds.length
    · refine .inr ⟨go i hlt, fun H2 => ∃ G2 al2 μ2 acc vacc, Nx G1 H1 al1 G2 H2 al2 ∧ As K G2 H2 al2 μ2 ∧ H2 Dl = some (.lst vacc) ∧ Rps K G2 al2 vacc acc ∧ G2 Dl = none ∧ Dl ∉ al2 ∧ acc.length ≤ i + 1 ∧ Iv (i + 1) acc μ2, fun H2 q => ⟨ds.length - (i + 1), by omega, rfl, hlt, q⟩, fun x H3 y => ?_⟩
      obtain ⟨G3, n3, A3, r3⟩ := yld i x H3 y _ (List.getElem?_eq_getElem hlt)
      obtain ⟨hv3, g3, nal3⟩ := stay n3 hv g' nal
      have nn3 := n'.trans n3
      have hw : RpS K G3 al' (wipe σ vs) (wipeD ρ vs) := wipe_rps ((hσ.nx n1).nx nn3) vs
      have q := hs i _ acc μ' (List.getElem?_eq_getElem hlt) iv (wipe σ vs) G3 H3 al' x (((hB.trans n1).trans n').trans n3) hw A3 r3
      have q2 := hg x (wipe σ vs) H3 _ (q (fun σ2 H2 => tt σ2 H2 fun b H3 => if b = true then te σ2 H3 fun y H4 => ∃ acc, H4 Dl = some (.lst acc) ∧ acc.length < sizeLine ∧ (∃ G2 al2 μ2 acc' vacc, Nx G1 H1 al1 G2 (upd H4 Dl (.lst (acc ++ [y]))) al2 ∧ As K G2 (upd H4 Dl (.lst (acc ++ [y]))) al2 μ2 ∧ (upd H4 Dl (.lst (acc ++ [y]))) Dl = some (.lst vacc) ∧ Rps K G2 al2 vacc acc' ∧ G2 Dl = none ∧ Dl ∉ al2 ∧ acc'.length ≤ i + 1 ∧ Iv (i + 1) acc' μ2)
          else (∃ G2 al2 μ2 acc' vacc, Nx G1 H1 al1 G2 H3 al2 ∧ As K G2 H3 al2 μ2 ∧ H3 Dl = some (.lst vacc) ∧ Rps K G2 al2 vacc acc' ∧ G2 Dl = none ∧ Dl ∉ al2 ∧ acc'.length ≤ i + 1 ∧ Iv (i + 1) acc' μ2)) fun σ4 ρ4 μ4 G4 H4 al4 n4 hσ4 A4 p4 => ?_)
      · rw [wipe_wipe σ vs vs fun _ h => h] at q2
        exact q2
      · obtain ⟨hv4, g4, nal4⟩ := stay n4 hv3 g3 nal3
        have nn4 := nn3.trans n4
        refine p4 σ4 G4 H4 al4 ((hB.trans n1).trans nn4) hσ4 A4 _ fun b μ5 G5 H5 al5 n5 A5 p5 => ?_
        obtain ⟨hv5, g5, nal5⟩ := stay n5 hv4 g4 nal4
        have nn5 := nn4.trans n5
        cases b with
        | false =>
          rw [if_neg (by simp)]
          exact ⟨G5, al5, μ5, acc, vacc, nn5, A5, hv5, (((rv.nx n3).nx n4).nx n5), g5, nal5, Nat.le_succ_of_le hacc, p5.2 rfl⟩
        | true =>
          rw [if_pos rfl]
          refine p5.1 rfl σ4 G5 H5 al5 ((hB.trans n1).trans nn5) (hσ4.nx n5) A5 _ fun yv y μ6 G6 H6 al6 n6 A6 r6 p6 => ?_
          obtain ⟨hv6, g6, nal6⟩ := stay n6 hv5 g5 nal5
          have rv6 := (((rv.nx n3).nx n4).nx n5).nx n6
          obtain ⟨A7, n7⟩ := store (ac := vacc ++ [yv]) (nn5.trans n6) A6 g6 nal6
          refine ⟨vacc, hv6, ?_, G6, al6, μ6, acc ++ [y], vacc ++ [yv], n7, A7, upd_same, rv6.append (.cons r6 .nil), g6, nal6, by simp; omega, p6⟩
          rw [rv6.length]
          exact Nat.lt_of_lt_of_le (Nat.lt_of_le_of_lt hacc (Nat.lt_of_lt_of_le hlt hlen)) (by decide)
    · have e : i = ds.length := by omega
      subst e
      refine .inl ⟨stop _ (Nat.le_refl _), ?_⟩
      have s1 : Same G' (upd G' Dl (.lst vacc)) := fun b u e => by rw [upd_ne (ne_of_none e g')]; exact e
      have A7 : As K (upd G' Dl (.lst vacc)) H' al' μ' := by
        refine ⟨fun b u e => ?_, A'.nd, A'.len, A'.here, fun k a o e1 e2 => ?_⟩
        · by_cases hb : b = Dl
          · subst hb; rw [upd_same] at e; rw [← e]; exact hv
          · rw [upd_ne hb] at e; exact A'.sub _ _ e
        · have z : a ≠ Dl := fun z => nal (z ▸ List.mem_of_getElem? e1)
          exact OkO.mono s1 (Pre.refl _) (fun _ g => by rw [upd_ne z]; exact g) rfl (A'.ok k a o e1 e2)
      have n7 : Nx G1 H1 al1 (upd G' Dl (.lst vacc)) H' al' := ⟨n'.g.trans s1, n'.p, n'.keep, fun a h t m g => by
        have z : a ≠ Dl := fun z => h (by rw [z]; exact hDl)
        rw [upd_ne z]; exact n'.out a h t m g, n'.new⟩
      exact hQ _ _ _ _ _ _ (n1.trans n7) A7 (.lst upd_same (rv.mono s1 (Pre.refl _))) (hd acc μ' iv)
theorem dt_yes {PT' : Bool → Mu → Prop} (h : PT' true μ) : DT K B tYes ρ μ PT' := fun σ G H al hB hσ hA Q hQ => hQ true μ G H al .refl hA h
end
end Dl
set_option Elab.async false
set_option linter.all false
set_option maxRecDepth 100000
namespace Dl
open PySem L2 PyProof.Rows
/-! ### what names no thing from the n-th on -/
mutual
def D.cl : D → Nat → Bool
  | .tup xs, n => clL xs n
  | .lst xs, n => clL xs n
  | .rdl xs, n => clL xs n
  | .rdt xs, n => clL xs n
  | .obj _ gs, n => clF gs n
  | .exc _ gs, n => clF gs n
  | .dct gs, n => clK gs n
  | .own k, n => decide (k < n)
  | .non, _ => true
  | .bl _, _ => true
  | .int _, _ => true
  | .str _, _ => true
  | .ty _, _ => true
  | .loc _, _ => true
def clL : List D → Nat → Bool
  | [], _ => true
  | x :: xs, n => D.cl x n && clL xs n
def clF : List (Str × D) → Nat → Bool
  | [], _ => true
  | (_, x) :: xs, n => D.cl x n && clF xs n
def clK : List (Key × D) → Nat → Bool
  | [], _ => true
  | (_, x) :: xs, n => D.cl x n && clK xs n
end
def MO.cl : MO → Nat → Bool
  | .dead, _ => true
  | .lst xs, n => clL xs n
  | .ins _ gs, n => clF gs n
  | .dK gs, n => clK gs n
  | .dT gs, n => clL (gs.map (·.2)) n
  | .tab _ _, _ => true
theorem clL_iff {xs : List D} {n : Nat} : clL xs n = true ↔ ∀ x ∈ xs, x.cl n = true := by
  induction xs with
  | nil => simp [clL]
  | cons x xs ih => simp [clL, ih]
theorem clL_map {α : Type} {f : α → D} {xs : List α} {n : Nat} (h : ∀ x ∈ xs, (f x).cl n = true) : clL (xs.map f) n = true := by
  rw [clL_iff]
  intro x hx
  obtain ⟨a, ha, rfl⟩ := List.mem_map.mp hx
  exact h a ha
@[simp] theorem clL_append {xs ys : List D} {n : Nat} : clL (xs ++ ys) n = (clL xs n && clL ys n) := by
  induction xs with
  | nil => simp [clL]
  | cons x xs ih => simp [clL, ih, Bool.and_assoc]
section
variable {K : PySem.W.Frag} {G : Hp} {al be : List Addr}
mutual
theorem Rp.cl : ∀ {v : V} {d : D}, Rp K G al v d → d.cl al.length = true
  | _, _, .non => by simp [D.cl]
  | _, _, .bl _ => by simp [D.cl]
  | _, _, .int _ => by simp [D.cl]
  | _, _, .str _ => by simp [D.cl]
  | _, _, .ty _ => by simp [D.cl]
  | _, _, .tup _ r => by unfold D.cl; exact Rps.cl r
  | _, _, .lst _ r => by unfold D.cl; exact Rps.cl r
  | _, _, .rdl _ r => by unfold D.cl; exact Rps.cl r
  | _, _, .rdt _ r => by unfold D.cl; exact Rps.cl r
  | _, _, .obj _ r => by unfold D.cl; exact Rpf.cl r
  | _, _, .dct _ r => by unfold D.cl; exact Rpk.cl r
  | _, _, .own h => by unfold D.cl; exact decide_eq_true (List.getElem?_eq_some_iff.mp h).1
  | _, _, .loc _ => by simp [D.cl]
  | _, _, .exc _ _ r => by unfold D.cl; exact Rpf.cl r
theorem Rps.cl : ∀ {v : List V} {d : List D}, Rps K G al v d → clL d al.length = true
  | _, _, .nil => by simp [clL]
  | _, _, .cons h r => by unfold clL; rw [Rp.cl h, Rps.cl r]; rfl
theorem Rpf.cl : ∀ {v : List (Str × V)} {d : List (Str × D)}, Rpf K G al v d → clF d al.length = true
  | _, _, .nil => by simp [clF]
  | _, _, .cons h r => by unfold clF; rw [Rp.cl h, Rpf.cl r]; rfl
theorem Rpk.cl : ∀ {v : List (Key × V)} {d : List (Key × D)}, Rpk K G al v d → clK d al.length = true
  | _, _, .nil => by simp [clK]
  | _, _, .cons h r => by unfold clK; rw [Rp.cl h, Rpk.cl r]; rfl
end
mutual
theorem Rp.shrink : ∀ {v : V} {d : D}, Rp K G (al ++ be) v d → d.cl al.length = true → Rp K G al v d
  | _, _, .non, _ => .non
  | _, _, .bl b, _ => .bl b
  | _, _, .int i, _ => .int i
  | _, _, .str x, _ => .str x
  | _, _, .ty x, _ => .ty x
  | _, _, .tup e r, h => .tup e (Rps.shrink r (by unfold D.cl at h; exact h))
  | _, _, .lst e r, h => .lst e (Rps.shrink r (by unfold D.cl at h; exact h))
  | _, _, .rdl e r, h => .rdl e (Rps.shrink r (by unfold D.cl at h; exact h))
  | _, _, .rdt e r, h => .rdt e (Rps.shrink r (by unfold D.cl at h; exact h))
  | _, _, .obj e r, h => .obj e (Rpf.shrink r (by unfold D.cl at h; exact h))
  | _, _, .dct e r, h => .dct e (Rpk.shrink r (by unfold D.cl at h; exact h))
  | _, _, .own e, h => .own (by
      unfold D.cl at h
      rw [List.getElem?_append_left (of_decide_eq_true h)] at e
      exact e)
  | _, _, .loc a, _ => .loc a
  | _, _, .exc e d r, h => .exc e d (Rpf.shrink r (by unfold D.cl at h; exact h))
theorem Rps.shrink : ∀ {v : List V} {d : List D}, Rps K G (al ++ be) v d → clL d al.length = true → Rps K G al v d
  | _, _, .nil, _ => .nil
  | _, _, .cons r t, h => by
    unfold clL at h; simp at h
    exact .cons (Rp.shrink r h.1) (Rps.shrink t h.2)
theorem Rpf.shrink : ∀ {v : List (Str × V)} {d : List (Str × D)}, Rpf K G (al ++ be) v d → clF d al.length = true → Rpf K G al v d
  | _, _, .nil, _ => .nil
  | _, _, .cons r t, h => by
    unfold clF at h; simp at h
    exact .cons (Rp.shrink r h.1) (Rpf.shrink t h.2)
theorem Rpk.shrink : ∀ {v : List (Key × V)} {d : List (Key × D)}, Rpk K G (al ++ be) v d → clK d al.length = true → Rpk K G al v d
  | _, _, .nil, _ => .nil
  | _, _, .cons r t, h => by
    unfold clK at h; simp at h
    exact .cons (Rp.shrink r h.1) (Rpk.shrink t h.2)
end
end
def MuCl (μ : Mu) (n : Nat) : Prop := ∀ o ∈ μ, o.cl n = true
section
variable {K : PySem.W.Frag} {G H : Hp} {al be : List Addr} {μ ext : Mu}
theorem As.cl (A : As K G H al μ) : MuCl μ μ.length := fun o ho => by
  obtain ⟨k, hk⟩ := List.getElem?_of_mem ho
  obtain ⟨a, ha, ok⟩ := A.get hk
  rw [← A.len]
  cases o with
  | dead => rfl
  | lst ds => obtain ⟨_, _, _, r⟩ := ok; exact r.cl
  | ins C gs => obtain ⟨_, _, _, _, r⟩ := ok; exact r.cl
  | dK gs => obtain ⟨_, _, _, r⟩ := ok; exact r.cl
  | dT gs => obtain ⟨_, _, _, _, r⟩ := ok; exact r.cl
  | tab _ _ => rfl
theorem As.shrink (A : As K G H (al ++ be) (μ ++ ext)) (hl : al.length = μ.length) (hc : MuCl μ μ.length) : As K G H al μ := by
  refine ⟨A.sub, (List.nodup_append.mp A.nd).1, hl, fun a m => A.here a (List.mem_append_left _ m), fun k a o e1 e2 => ?_⟩
  have hk : k < al.length := (List.getElem?_eq_some_iff.mp e1).1
  have ok := A.ok k a o (by rw [List.getElem?_append_left hk]; exact e1) (by rw [List.getElem?_append_left (by rw [← hl]; exact hk)]; exact e2)
  have c := hc o (List.mem_of_getElem? e2)
  rw [← hl] at c
  cases o with
  | dead => trivial
  | lst ds => obtain ⟨g, vs, e, r⟩ := ok; exact ⟨g, vs, e, r.shrink c⟩
  | ins C gs => obtain ⟨g, dx, vs, e, r⟩ := ok; exact ⟨g, dx, vs, e, r.shrink c⟩
  | dK gs => obtain ⟨g, vs, e, r⟩ := ok; exact ⟨g, vs, e, r.shrink c⟩
  | dT gs => obtain ⟨g, vs, e, q, r⟩ := ok; exact ⟨g, vs, e, q, r.shrink c⟩
  | tab _ _ => exact ok
theorem Nx.shrink {G' H' : Hp} {al' : List Addr} (n : Nx G H al G' H' (al ++ al')) : Nx G H al G' H' al := ⟨n.g, Pre.refl _, n.keep, n.out, fun a m => .inl m⟩
end
/-! ### exceptions -/
abbrev PXT := Addr → List (Str × D) → Mu → Prop
/-- the own dict of an exception, frozen -/
def XRep (K : PySem.W.Frag) (G : Hp) (al : List Addr) (dd : Option Addr) (fs : List (Str × D)) : Prop := (dd = none ∧ fs = []) ∨ ∃ d vs, dd = some d ∧ G d = some (.xd vs) ∧ Rpf K G al vs fs
def XAg (K : PySem.W.Frag) (B : Bs) (PX : PXT) (E : XK) : Prop := ∀ C fs dd μ' G' H' al', B.le G' H' al' → As K G' H' al' μ' → XRep K G' al' dd fs → PX C fs μ' → E (.ref C) dd H'
theorem XAg.nx {K : PySem.W.Frag} {B : Bs} {PX : PXT} {E : XK} {G H : Hp} {al : List Addr} (n : B.le G H al) (h : XAg K B PX E) : XAg K ⟨G, H, al⟩ PX E := fun C fs dd μ' G' H' al' n' A r p => h C fs dd μ' G' H' al' (n.trans n') A r p
theorem XAg.none {K : PySem.W.Frag} {B : Bs} {E : XK} : XAg K B (fun _ _ _ => False) E := fun _ _ _ _ _ _ _ _ _ _ p => p.elim
theorem Rpf.nx {K : PySem.W.Frag} {G H G1 H1 : Hp} {al al1 : List Addr} (n : Nx G H al G1 H1 al1) {v : List (Str × V)} {d : List (Str × D)} (h : Rpf K G al v d) : Rpf K G1 al1 v d := h.mono n.g n.p
/-! ### contracts -/
abbrev CT := List D → Mu → (D → Mu → Prop) → PXT → Prop
def spD (K : PySem.W.Frag) (C : CT) : Sp := fun vs H Q E => ∃ G al ds μ P PX, As K G H al μ ∧ Rps K G al vs ds ∧ C ds μ P PX ∧ KV K G H al P Q ∧ XAg K ⟨G, H, al⟩ PX E
/-- behind a call: the callee's own things are forgotten, but those that are handed on -/
def Ret (n : Nat) (P : D → Mu → Prop) (d : D) (μ' : Mu) : Prop := ∃ μ1 ext, μ' = μ1 ++ ext ∧ n ≤ μ1.length ∧ MuCl μ1 μ1.length ∧ d.cl μ1.length = true ∧ P d μ1
def RetX (n : Nat) (PX : PXT) : PXT := fun C fs μ' => ∃ μ1 ext, μ' = μ1 ++ ext ∧ μ1.length = n ∧ MuCl μ1 n ∧ clF fs n = true ∧ PX C fs μ1
theorem XAg.ret {K : PySem.W.Frag} {G1 H1 G2 H2 : Hp} {al1 al2 : List Addr} {PX : PXT} {E : XK} (h : XAg K ⟨G1, H1, al1⟩ PX E) (n2 : Nx G1 H1 al1 G2 H2 al2) : XAg K ⟨G2, H2, al2⟩ (RetX al1.length PX) E := by
  intro C fs dd μ' G' H' al' n A' xr ⟨μ1, ext, e, hl, hcl, hf, hp⟩
  have n' : Nx G1 H1 al1 G' H' al' := n2.trans n
  obtain ⟨be, rfl⟩ := n'.p
  subst e
  refine h C fs dd μ1 G' H' al1 n'.shrink (A'.shrink hl.symm (by rw [hl]; exact hcl)) ?_ hp
  rcases xr with ⟨h1, h2⟩ | ⟨d, vs, h1, h2, h3⟩
  · exact .inl ⟨h1, h2⟩
  · exact .inr ⟨d, vs, h1, h2, h3.shrink hf⟩
def fnE (n : Nat) (P : D → Mu → Prop) : DEnds := { nx := fun _ μ' => Ret n P .non μ', rt := Ret n P }
theorem ret_same {μ ext : Mu} {n : Nat} {P : D → Mu → Prop} {d : D} (hn : n ≤ μ.length) (hc : MuCl μ μ.length) (hd : d.cl μ.length = true) (h : P d μ) : Ret n P d (μ ++ ext) := ⟨μ, ext, rfl, hn, hc, hd, h⟩
theorem ret_same0 {μ : Mu} {n : Nat} {P : D → Mu → Prop} {d : D} (hn : n ≤ μ.length) (hc : MuCl μ μ.length) (hd : d.cl μ.length = true) (h : P d μ) : Ret n P d μ := ⟨μ, [], by simp, hn, hc, hd, h⟩
theorem retx_same0 {μ : Mu} {PX : PXT} {C : Addr} {fs : List (Str × D)} (hc : MuCl μ μ.length) (hd : clF fs μ.length = true) (h : PX C fs μ) : RetX μ.length PX C fs μ := ⟨μ, [], by simp, rfl, hc, hd, h⟩
theorem MuCl.set {μ : Mu} {n k : Nat} {o : MO} (h : MuCl μ n) (ho : o.cl n = true) : MuCl (μ.set k o) n := fun x hx => by
  rcases List.mem_or_eq_of_mem_set hx with m | e
  · exact h x m
  · subst e; exact ho
theorem MuCl.get {μ : Mu} {n k : Nat} {o : MO} (h : MuCl μ n) (e : μ[k]? = some o) : o.cl n = true := h o (List.mem_of_getElem? e)
def startD (N : List Str) (ds : List D) : En := ds.map some ++ List.replicate (N.length - ds.length) none
theorem start_rp {K : PySem.W.Frag} {G : Hp} {al : List Addr} {N : List Str} {vs : List V} {ds : List D} (h : Rps K G al vs ds) : RpS K G al (L2.start N vs) (startD N ds) := by
  have hl := h.length
  refine ⟨by simp [L2.start, startD, hl], fun i d e => ?_⟩
  unfold startD at e
  unfold L2.start
  by_cases hi : i < ds.length
  · rw [List.getElem?_append_left (by simpa using hi), List.getElem?_map] at e
    cases q : ds[i]? with
    | none => rw [q] at e; cases e
    | some x =>
      rw [q] at e
      have ex : x = d := by simpa using e
      subst ex
      obtain ⟨v, hv, r⟩ := h.get q
      refine ⟨v, ?_, r⟩
      rw [List.getElem?_append_left (by simp [hl, hi]), List.getElem?_map, hv]
      rfl
  · rw [List.getElem?_append_right (by simp; omega), List.getElem?_replicate] at e
    split at e <;> simp at e
section
variable {P : Program} {w : World} {K : PySem.W.Frag} {mg : Str → Option Value} {base : Heap}
theorem sem_of {C : CT} {N : List Str} {t : XK → TS} (hn : ∀ ds μ P PX, C ds μ P PX → ds.length ≤ N.length) (sem : ∀ ds μ P PX, C ds μ P PX → MuCl μ μ.length → clL ds μ.length = true → ∀ B E, XAg K B (RetX μ.length PX) E → DS K B (t E) (startD N ds) μ (fnE μ.length P))
    {vs : List V} {H : Hp} {Q : VK} {E : XK} (h : spD K C vs H Q E) : t E { nx := fun _ H' => Q .non H', rt := Q } (L2.start N vs) H := by
  obtain ⟨G, al, ds, μ, P, PX, A, r, c, hQ, hX⟩ := h
  have hc := A.cl
  have sh : ∀ {v : V} {d : D} {μ' : Mu} {G' H' : Hp} {al' : List Addr}, Nx G H al G' H' al' → As K G' H' al' μ' → Rp K G' al' v d → Ret μ.length P d μ' → Q v H' := by
    intro v d μ' G' H' al' n A' rv ⟨μ1, ext, e, hl, hcl, hd, hp⟩
    subst e
    have hlen : μ1.length ≤ al'.length := by rw [A'.len]; simp
    have e1 : al' = al'.take μ1.length ++ al'.drop μ1.length := (List.take_append_drop _ _).symm
    have l1 : (al'.take μ1.length).length = μ1.length := by rw [List.length_take]; omega
    have pre : Pre al (al'.take μ1.length) := by
      obtain ⟨be, e2⟩ := n.p
      refine ⟨(be.take (μ1.length - al.length)), ?_⟩
      rw [e2, List.take_append]
      rw [List.take_of_length_le (by rw [A.len]; exact hl)]
    have n1 : Nx G H al G' H' (al'.take μ1.length) := ⟨n.g, pre, n.keep, n.out, fun a m => n.new a (List.mem_of_mem_take m)⟩
    rw [e1] at A' rv
    exact hQ v d μ1 G' H' _ n1 (A'.shrink l1 hcl) (rv.shrink (by rw [l1]; exact hd)) hp
  refine sem ds μ P PX c hc (by rw [← A.len]; exact r.cl) ⟨G, H, al⟩ E ?_ _ G H al .refl (start_rp r) A _ ⟨fun σ' ρ' μ' G' H' al' n hσ A' p => sh n A' .non p, fun v d μ' G' H' al' n A' rv p => sh n A' rv p, fun _ _ _ _ _ _ _ _ _ p => p.elim, fun _ _ _ _ _ _ _ _ _ p => p.elim⟩
  rw [← A.len]
  exact hX.ret .refl
end
/-! ### calls -/
section
variable {K : PySem.W.Frag} {B : Bs} {ρ : En} {μ : Mu} {te : TE} {ts : TA} {P : D → Mu → Prop} {PX : PXT} {E : XK} {C : CT} {dvs : List V} {dds : List D}
theorem de_call (hE : XAg K B PX E) (h : DA K B ts ρ μ fun ds μ1 => C ds μ1 P PX) : DE K B (tCall (spD K C) [] E ts) ρ μ P := fun σ G H al hB hσ hA Q hQ =>
  h σ G H al hB hσ hA _ fun vs ds μ1 G1 H1 al1 n1 A1 r1 p1 => by
    rw [List.append_nil]
    exact ⟨G1, al1, ds, μ1, P, PX, A1, r1, p1, hQ.nx n1, hE.nx (hB.trans n1)⟩
theorem de_meth {Cc : Addr} {m : Str} (hE : XAg K B PX E) (h : DE K B te ρ μ fun x μ1 => ∃ gs, (x = .obj Cc gs ∨ ∃ k, x = .own k ∧ μ1[k]? = some (.ins Cc gs)) ∧ gs.lookup m = none ∧ DA K B ts ρ μ1 fun ds μ2 => C (x :: ds) μ2 P PX) : DE K B (tMeth Cc m (spD K C) [] E te ts) ρ μ P := fun σ G H al hB hσ hA Q hQ =>
  h σ G H al hB hσ hA _ fun v x μ1 G1 H1 al1 n1 A1 r1 p1 => by
    obtain ⟨gs, hx, hl, p⟩ := p1
    have key : ∃ a dx fs, v = .ref a ∧ H1 a = some (.ins Cc dx fs) ∧ fs.lookup m = none := by
      rcases hx with rfl | ⟨k, rfl, hk⟩
      · cases r1 with | obj e rf => exact ⟨_, _, _, rfl, A1.sub _ _ e, rf.none hl⟩
      · obtain ⟨a, ha, ga, dx, fs, hv, rf⟩ := A1.get hk
        cases r1 with | own e => rw [ha] at e; cases e; exact ⟨_, _, _, rfl, hv, rf.none hl⟩
    obtain ⟨a, dx, fs, e, hv, hm⟩ := key
    refine ⟨a, dx, fs, e, hv, hm, p σ G1 H1 al1 (hB.trans n1) (hσ.nx n1) A1 _ fun vs ds μ2 G2 H2 al2 n2 A2 r2 p2 => ?_⟩
    rw [List.append_nil]
    exact ⟨G2, al2, x :: ds, μ2, P, PX, A2, .cons (r1.nx n2) r2, p2, hQ.nx (n1.trans n2), hE.nx (hB.trans (n1.trans n2))⟩
/-- C(..): the new instance is frozen behind its __init__ -/
theorem de_make {Cc : Addr} (hE : XAg K B PX E) (hd : ∀ G al, Rps K G al dvs dds) (h : DA K B ts ρ μ fun ds μ1 => C (.own μ1.length :: (ds ++ dds)) (μ1 ++ [.ins Cc []]) (fun d μ2 => d = .non ∧ ∃ gs, μ2 = μ1 ++ [.ins Cc gs] ∧ clF gs μ1.length = true ∧ P (.obj Cc gs) μ1) (RetX μ1.length PX)) : DE K B (tMake Cc (spD K C) dvs E ts) ρ μ P := fun σ G H al hB hσ hA Q hQ =>
  h σ G H al hB hσ hA _ fun vs ds μ1 G1 H1 al1 n1 A1 r1 p1 => by
    intro x dx hx hdx hne
    -- the own dict first
    have nx1 : x ≠ dx := hne.symm
    have A2 : As K G1 (upd H1 dx (.own x)) al1 μ1 ∧ Nx G1 H1 al1 G1 (upd H1 dx (.own x)) al1 := by
      have gd : G1 dx = none := A1.sub.free hdx
      have nal : dx ∉ al1 := fun m => A1.here dx m hdx
      refine ⟨⟨fun b u e => by rw [upd_ne (ne_of_none e gd)]; exact A1.sub _ _ e, A1.nd, A1.len, fun a m => ?_, fun k a o e1 e2 => ?_⟩, ⟨Same.refl _, Pre.refl _, fun a u h _ => by rw [upd_ne (ne_of_none h hdx)]; exact h, fun _ _ _ _ g => g, fun _ m => .inl m⟩⟩
      · have z : a ≠ dx := fun z => nal (z ▸ m)
        rw [upd_ne z]; exact A1.here a m
      · have z : a ≠ dx := fun z => nal (z ▸ List.mem_of_getElem? e1)
        exact OkO.mono (Same.refl _) (Pre.refl _) (fun _ g => g) (by rw [upd_ne z]) (A1.ok k a o e1 e2)
    obtain ⟨A2, n2⟩ := A2
    have hx2 : (upd H1 dx (.own x)) x = none := by rw [upd_ne nx1]; exact hx
    obtain ⟨A3, n3⟩ := A2.own (o := .ins Cc dx []) (m := .ins Cc []) hx2 ⟨A2.sub.free hx2, dx, [], upd_same, .nil⟩
    refine ⟨G1, al1 ++ [x], .own μ1.length :: (ds ++ dds), μ1 ++ [.ins Cc []], _, _, A3, .cons (.own (by rw [← A1.len]; simp)) ((((r1.nx n2).nx n3).append (hd _ _))), p1, ?_, by rw [← A1.len]; exact (hE.nx (hB.trans n1)).ret (n2.trans n3)⟩
    intro v d μ2 G4 H4 al4 n4 A4 r4 p4
    obtain ⟨rfl, gs, rfl, hcl, hp⟩ := p4
    cases r4
    refine ⟨rfl, ?_⟩
    have hal : al4[μ1.length]? = some x := n4.p.get (by rw [← A1.len]; simp)
    obtain ⟨a, ha, ga, dx4, fs4, hv4, rf4⟩ := A4.get (k := μ1.length) (m := .ins Cc gs) (by simp)
    rw [hal] at ha; cases ha
    obtain ⟨A5, n5⟩ := A4.freeze hal hv4 ga
    have nn : Nx G1 H1 al1 (upd G4 x (.ins Cc dx4 fs4)) H4 al4 := ((n2.trans n3).trans n4).trans n5
    obtain ⟨be, rfl⟩ := nn.p
    have e5 : (μ1 ++ [MO.ins Cc gs]).set μ1.length MO.dead = μ1 ++ [.dead] := by simp
    rw [e5] at A5
    refine hQ (.ref x) (.obj Cc gs) μ1 _ H4 al1 (n1.trans nn.shrink) (A5.shrink A1.len A1.cl) ?_ hp
    exact .obj upd_same ((rf4.nx n5).shrink (by rw [A1.len]; exact hcl))
theorem da_nd : ∀ G al, Rps K G al [] [] := fun _ _ => .nil
end
end Dl
set_option Elab.async false
set_option linter.all false
set_option maxRecDepth 100000
namespace L2
open PySem PySem.Spec PyProof.Rows
section
variable {X : Cx} {a b c d : Expr} {ta tb tc td : TE} {pos : Pos}
/-- a op1 b op2 c op3 d -/
def tChain3 (r r' r3 : R2) (ta tb tc td : TE) : TE := fun σ H Q => ta σ H fun x H1 => tb σ H1 fun y H2 => r x y H2 fun z H3 => ∃ k, z = .bl k ∧
  (if k = true then tc σ H3 fun w' H4 => r' y w' H4 fun z2 H5 => ∃ k2, z2 = .bl k2 ∧ (if k2 = true then td σ H5 fun u H6 => r3 w' u H6 Q else Q (.bl false) H5) else Q (.bl false) H3)
theorem pt_chain3 {op op' op3 : CmpOp} {r r' r3 : R2} (ho : OpR X (compareOp op) r) (ho' : OpR X (compareOp op') r') (ho3 : OpR X (compareOp op3) r3) (ha : PE X a ta) (hb : PE X b tb) (hc : PE X c tc) (hd : PE X d td)
    (hm : lastMarks [op, op', op3] [b, c, d] = false := by with_unfolding_all rfl) : PT X (.Compare a [op, op', op3] [b, c, d] pos) (tTest (tChain3 r r' r3 ta tb tc td)) := by
  refine ⟨fun pins s σ H Q I h => ?_⟩
  refine isTrue_chain (thn (ha.run pins s σ H _ I h) fun v s1 ⟨x, H1, I1, r1, q1⟩ => test_link (thn (hb.run pins s1 σ H1 _ I1 q1) fun u s2 ⟨y, H2, I2, r2, q2⟩ =>
    thn (ho pins s2 σ H2 x y v u _ I2 r1 r2 q2) fun dd s3 ⟨z, H3, I3, r3, k, e, q3⟩ => ?_)) hm
  subst e
  cases r3
  refine wpAny_truthy_bool ?_
  cases k with
  | false =>
    obtain ⟨k', e', q'⟩ := q3
    cases e'
    exact ite_ff ⟨H3, I3, q'⟩
  | true =>
    refine ite_tt (test_link (thn (hc.run pins s3 σ H3 _ I3 q3) fun w' s4 ⟨z', H4, I4, r4, q4⟩ => thn (ho' pins s4 σ H4 y z' u w' _ I4 r2 r4 q4) fun d' s5 ⟨z2, H5, I5, r5, k2, e2, q5⟩ => ?_))
    subst e2
    cases r5
    refine wpAny_truthy_bool ?_
    cases k2 with
    | false =>
      obtain ⟨k', e', q'⟩ := q5
      cases e'
      exact ite_ff ⟨H5, I5, q'⟩
    | true =>
      refine ite_tt (test_last (thn (hd.run pins s5 σ H5 _ I5 q5) fun u' s6 ⟨z6, H6, I6, r6, q6⟩ => thn (ho3 pins s6 σ H6 z' z6 w' u' _ I6 r4 r6 q6) fun d7 s7 ⟨z7, H7, I7, r7, k7, e7, q7⟩ => ?_))
      subst e7
      cases r7
      exact wpAny_truthy_bool ⟨H7, I7, q7⟩
end
/-- two readings of one expression -/
theorem PE.or {X : Cx} {e : Expr} {t u : TE} (h : PE X e t) (h' : PE X e u) : PE X e (fun σ H Q => t σ H Q ∨ u σ H Q) := ⟨fun pins s σ H Q I hw => hw.elim (h.run pins s σ H Q I) (h'.run pins s σ H Q I)⟩
/-! ### operators of any kind -/
def rAddS : R2 := fun x y H Q => ∃ i j, x = .str i ∧ y = .str j ∧ i.length + j.length ≤ sizeLine ∧ Q (.str (i ++ j)) H
def rAddA (K : PySem.W.Frag) : R2 := fun x y H Q => rI0 (fun i j => .int (i + j)) x y H Q ∨ rCat x y H Q ∨ rAddS x y H Q ∨ rCatT K x y H Q
def rMulA : R2 := fun x y H Q => rI CMul (fun i j => .int (i * j)) x y H Q ∨ rI CMulW (fun i j => .int (i * j)) x y H Q ∨ rRep x y H Q
section
variable {X : Cx}
theorem op_addA : OpR X (binaryOp .Add) (rAddA X.K) := op_add.or (op_cat.or (op_add_str.or op_catT))
theorem op_mulA : OpR X (binaryOp .Mult) rMulA := op_mul.or (op_mulW.or op_rep)
end
def rFdivA : R2 := fun x y H Q => rI CDivW (fun i j => .int (i / j)) x y H Q ∨ rI CDivN (fun i j => .int (i.fdiv j)) x y H Q
def rModA : R2 := fun x y H Q => rI (fun _ j => 0 < j) (fun i j => .int (i % j)) x y H Q ∨ rI (fun _ j => j ≠ 0) (fun i j => .int (i.fmod j)) x y H Q
section
variable {X : Cx}
theorem op_fdivA : OpR X (binaryOp .FloorDiv) rFdivA := op_fdivW.or op_fdivN
theorem op_modA : OpR X (binaryOp .Mod) rModA := op_mod.or op_modN
end
def rNotInA (K : PySem.W.Frag) : R2 := fun x y H Q => rIn K true x y H Q ∨ (fun x y H Q => ∃ (c : Nat) (z : Str), x = .str ⟨#[c]⟩ ∧ y = .str z ∧ Q (.bl (!decide (c ∈ z.cps.toList))) H) x y H Q
theorem op_notInA {X : Cx} : OpR X (compareOp .NotIn) (rNotInA X.K) := op_notIn_seq.or op_notIn_sign
/-- a list, a tuple, a text walked -/
def iAny (K : PySem.W.Frag) (tl : TE) : TI := fun σ H R => tl σ H fun x H1 => (∃ a, x = .ref a ∧ (∃ xs, SqL K H1 a xs) ∧ R (Itl K a) H1) ∨ (∃ a, x = .ref a ∧ (∃ xs, SqT K H1 a xs) ∧ R (Itt K a) H1) ∨ ∃ s, x = .str s ∧ R (Its s) H1
theorem pi_any {X : Cx} {tg l : Expr} {tl : TE} (hl : PE X l tl) : PI X tg l (iAny X.K tl) := by
  refine ⟨fun pins s σ H R I h => ?_⟩
  refine thn (hl.run pins s σ H _ I h) fun v s1 ⟨x, H1, I1, r1, q1⟩ => ?_
  rcases q1 with ⟨a, e, ⟨xs, hq⟩, q⟩ | ⟨a, e, ⟨xs, hq⟩, q⟩ | ⟨z, e, q⟩
  · subst e
    cases r1
    obtain ⟨its, rv, p, hz⟩ := I1.list hq
    refine wpAny_pyIter_list p.isList ?_
    refine ⟨s1.heap.objs.size, [s1.heap.objs.size], _, _, H1, rfl, I1.kept (t' := s1.toks) fun b o e => Heap.get?_push_of_some _ e, turn_list a _, ⟨_, Heap.get?_push_size _ rfl, rfl, rfl⟩, fun b hb => ?_, q⟩
    have e : b = s1.heap.objs.size := by simpa using hb
    subst e
    exact I1.fpOk (Nat.le_refl _) (I1.hok.fresh (Nat.le_refl _))
  · subst e
    cases r1
    obtain ⟨its, rv, p, hz⟩ := I1.tuple hq
    refine wpAny_pyIter_tuple (show s1.heap.IsTuple a its.toArray from p) ?_
    refine ⟨s1.heap.objs.size, [s1.heap.objs.size], _, _, H1, rfl, I1.kept (t' := s1.toks) fun b o e => Heap.get?_push_of_some _ e, turn_tuple a _, ⟨_, Heap.get?_push_size _ rfl, rfl, rfl⟩, fun b hb => ?_, q⟩
    have e : b = s1.heap.objs.size := by simpa using hb
    subst e
    exact I1.fpOk (Nat.le_refl _) (I1.hok.fresh (Nat.le_refl _))
  · subst e
    obtain ⟨t, rfl⟩ := r1
    cases ha : z.cps.all (· < 128)
    · exact wpAny_pyIter_wide ha (pi_one (tk := s1.toks) I1 _ (turn_str _ z t "str_iterator" (.inr rfl)) ⟨_, Heap.get?_push_size _ rfl, rfl, rfl⟩ q)
    · exact wpAny_pyIter_ascii ha (pi_one (tk := s1.toks) I1 _ (turn_str _ z t "str_ascii_iterator" (.inl rfl)) ⟨_, Heap.get?_push_size _ rfl, rfl, rfl⟩ q)
def rSlA (K : PySem.W.Frag) : V → Option Int → Option Int → Hp → VK → Prop := fun x lo hi H Q => rSlL K x lo hi H Q ∨ (∃ z, x = .str z ∧ z.length ≤ sizeLine ∧ Q (.str (cutS z lo hi)) H) ∨ rSlT K x lo hi H Q
theorem sl_any {X : Cx} : SlR X (rSlA X.K) := sl_list.or (sl_str.or sl_tup)
/-- an own exception without an __init__ of its own -/
structure ExC (K : PySem.W.Frag) (mg : Str → Option Value) (x : Str) : Prop where
  xc : PySem.W.excIn K (He.ga K x) He.veBase "ValueError.__new__" = true
  gc : mg x = some (.ref (He.ga K x))
  kc : PySem.W.keepIn K (.ref (He.ga K x)) = true
  bc : PySem.W.subIn K (.ref (He.ga K x)) (.type "BaseException") = some true
  tc : PySem.W.typeIn K (.ref (He.ga K x)) = some (.type "type")
/-- a value's truth -/
def tTruth (K : PySem.W.Frag) (ta : TE) : TT := fun σ H Q => ta σ H fun x H' => ∃ k, TruV K x H' k ∧ Q k H'
/-- a raise of an own class without fields -/
def tRaise0 (C : Addr) (E : XK) : TS := fun _ σ H => E (.ref C) none H
def _root_.Dl.rLen (K : PySem.W.Frag) : List V → Hp → VK → Prop := fun xs H Q => ∃ x n, xs = [x] ∧ LenV K x H n ∧ Q (.int (n : Nat)) H
def rMax2 : List V → Hp → VK → Prop := fun xs H Q => ∃ i j, xs = [.int i, .int j] ∧ Q (.int (if j > i then j else i)) H
def rMin2 : List V → Hp → VK → Prop := fun xs H Q => ∃ i j, xs = [.int i, .int j] ∧ Q (.int (if j < i then j else i)) H
def rMaxA (K : PySem.W.Frag) : List V → Hp → VK → Prop := fun xs H Q => rMax2 xs H Q ∨ rMax K xs H Q
def rMinA (K : PySem.W.Frag) : List V → Hp → VK → Prop := fun xs H Q => rMin2 xs H Q ∨ rMin K xs H Q
theorem call_maxA {X : Cx} (hc : X.calm = true) : CallR X (.builtin "max") (rMaxA X.K) := (call_max2 hc).or (cr_max hc)
def rListOf (K : PySem.W.Frag) : List V → Hp → VK → Prop := fun xs H Q => ∃ p ys, xs = [.ref p] ∧ (SqL K H p ys ∨ SqT K H p ys) ∧ ∀ l, H l = none → Q (.ref l) (upd H l (.lst ys))
end L2
namespace Dl
open PySem L2 PyProof.Rows
section
variable {K : PySem.W.Frag} {μ : Mu} {P : D → Mu → Prop} {i j : Int} {x y d : D} {ds es : List D}
theorem ro_addI (h : P (.int (i + j)) μ) : RO K (rAddA K) (.int i) (.int j) μ P := fun G H al v w A r1 r2 Q hQ => .inl (ro_i (f := fun i j => i + j) h G H al v w A r1 r2 Q hQ)
theorem ro_addL (h1 : Lt μ x ds) (h2 : Lt μ y es) (hs : ds.length + es.length ≤ 100000) (h : P (.lst (ds ++ es)) μ) : RO K (rAddA K) x y μ P := fun G H al v w A r1 r2 Q hQ => .inr (.inl (ro_cat h1 h2 hs h G H al v w A r1 r2 Q hQ))
theorem ro_mulI (hc : CMul i j) (h : P (.int (i * j)) μ) : RO K rMulA (.int i) (.int j) μ P := fun G H al v w A r1 r2 Q hQ => .inl (ro_ic (f := fun i j => i * j) hc h G H al v w A r1 r2 Q hQ)
theorem rc_max2' (h : P (.int (max i j)) μ) : RC K (rMaxA K) [.int i, .int j] μ P := fun G H al vs A r Q hQ => .inl (rc_max2 h G H al vs A r Q hQ)
theorem rc_min2' (h : P (.int (min i j)) μ) : RC K (rMinA K) [.int i, .int j] μ P := fun G H al vs A r Q hQ => .inl (rc_min2 h G H al vs A r Q hQ)
theorem rc_max' {ns : List Int} (hl : Ls μ x (ns.map D.int)) (hn : 0 < ns.length) (h : ∀ m, m ∈ ns → (∀ y, y ∈ ns → y ≤ m) → P (.int m) μ) : RC K (rMaxA K) [x] μ P := fun G H al vs A r Q hQ => .inr (rc_max hl hn h G H al vs A r Q hQ)
theorem rc_lenL (hl : Ls μ x ds) (h : P (.int (ds.length : Int)) μ) : RC K (rLen K) [x] μ P := rc_len hl h
theorem rc_lenT' (hl : Ts x ds) (h : P (.int (ds.length : Int)) μ) : RC K (rLen K) [x] μ P := rc_lenT hl h
theorem rc_list (hl : Ls μ x ds) (h : P (.lst ds) μ) : RC K (rListOf K) [x] μ P := fun G H al vs A r Q hQ => by
  obtain ⟨v, rfl, r1⟩ := rps1 r
  obtain ⟨a, ws, rfl, s, rs⟩ := hl.get A r1
  refine ⟨a, ws, rfl, .inl s, fun p hp => ?_⟩
  obtain ⟨A2, n2⟩ := A.frz (o := .lst ws) hp
  exact hQ _ _ μ _ _ _ n2 A2 (.lst upd_same (rs.nx n2)) h
theorem rc_listO (hl : Ls μ x ds) (h : P (.own μ.length) (μ ++ [.lst ds])) : RC K (rListOf K) [x] μ P := fun G H al vs A r Q hQ => by
  obtain ⟨v, rfl, r1⟩ := rps1 r
  obtain ⟨a, ws, rfl, s, rs⟩ := hl.get A r1
  refine ⟨a, ws, rfl, .inl s, fun p hp => ?_⟩
  obtain ⟨A2, n2⟩ := A.own (o := .lst ws) (m := .lst ds) hp ⟨A.sub.free hp, _, upd_same, rs.mono (Same.refl _) ⟨[p], rfl⟩⟩
  exact hQ _ _ _ _ _ _ n2 A2 (.own (by rw [← A.len]; simp)) h
end
section
variable {K : PySem.W.Frag} {B : Bs} {ρ : En} {μ : Mu} {P : D → Mu → Prop} {ta tb te tc td : TE} {PT' : Bool → Mu → Prop}
theorem de_chain3 {r r' r3 : R2} (h : DE K B ta ρ μ fun x μ1 => DE K B tb ρ μ1 fun y μ2 => RO K r x y μ2 fun z μ3 => ∃ b, z = .bl b ∧ (b = true → DE K B tc ρ μ3 fun w μ4 => RO K r' y w μ4 fun z2 μ5 => ∃ b2, z2 = .bl b2 ∧
      (b2 = true → DE K B td ρ μ5 fun u μ6 => RO K r3 w u μ6 P) ∧ (b2 = false → P (.bl false) μ5)) ∧ (b = false → P (.bl false) μ3)) :
    DE K B (tChain3 r r' r3 ta tb tc td) ρ μ P := fun σ G H al hB hσ hA Q hQ =>
  h σ G H al hB hσ hA _ fun v d μ1 G1 H1 al1 n1 A1 r1 p1 => p1 σ G1 H1 al1 (hB.trans n1) (hσ.nx n1) A1 _ fun w e μ2 G2 H2 al2 n2 A2 r2 p2 =>
    p2 G2 H2 al2 v w A2 (r1.nx n2) r2 _ fun z dz μ3 G3 H3 al3 n3 A3 r3 p3 => by
      obtain ⟨b, rfl, pt, pf⟩ := p3
      cases r3
      refine ⟨b, rfl, ?_⟩
      have nn3 := (n1.trans n2).trans n3
      cases b with
      | false =>
        rw [if_neg (by simp)]
        exact hQ (.bl false) _ μ3 G3 H3 al3 nn3 A3 (.bl _) (pf rfl)
      | true =>
        rw [if_pos rfl]
        refine pt rfl σ G3 H3 al3 (hB.trans nn3) (hσ.nx nn3) A3 _ fun u du μ4 G4 H4 al4 n4 A4 r4 p4 => p4 G4 H4 al4 w u A4 ((r2.nx n3).nx n4) r4 _ fun z5 dz5 μ5 G5 H5 al5 n5 A5 r5 p5 => ?_
        obtain ⟨b2, rfl, pt2, pf2⟩ := p5
        cases r5
        refine ⟨b2, rfl, ?_⟩
        have nn5 := (nn3.trans n4).trans n5
        cases b2 with
        | false =>
          rw [if_neg (by simp)]
          exact hQ (.bl false) _ μ5 G5 H5 al5 nn5 A5 (.bl _) (pf2 rfl)
        | true =>
          rw [if_pos rfl]
          exact pt2 rfl σ G5 H5 al5 (hB.trans nn5) (hσ.nx nn5) A5 _ fun u6 du6 μ6 G6 H6 al6 n6 A6 r6 p6 => p6 G6 H6 al6 u u6 A6 ((r4.nx n5).nx n6) r6 Q (hQ.nx (nn5.trans n6))
theorem dt_truth (h : DE K B te ρ μ fun x μ1 => ∃ b, x = .bl b ∧ PT' b μ1) : DT K B (tTruth K te) ρ μ PT' := fun σ G H al hB hσ hA Q hQ =>
  h σ G H al hB hσ hA _ fun v d μ1 G1 H1 al1 n1 A1 r1 p1 => by
    obtain ⟨b, rfl, p⟩ := p1
    cases r1
    exact ⟨b, rfl, hQ b μ1 G1 H1 al1 n1 A1 p⟩
theorem ds_raise0 {C : Addr} {E : XK} {PX : PXT} {Pe : DEnds} (hE : XAg K B PX E) (h : PX C [] μ) : DS K B (tRaise0 C E) ρ μ Pe := fun σ G H al hB hσ hA De hD =>
  hE C [] none μ G H al hB hA (.inl ⟨rfl, rfl⟩) h
end
end Dl
set_option Elab.async false
set_option linter.all false
set_option maxRecDepth 100000
namespace Dl
open PySem L2 PyProof.Rows
section
variable {K : PySem.W.Frag} {μ : Mu} {P : D → Mu → Prop} {i j : Int} {x y d : D} {ds es : List D}
theorem ro_fdiv (hc : 0 < j) (hj : j.natAbs.log2 < 9000) (h : P (.int (i / j)) μ) : RO K rFdivA (.int i) (.int j) μ P := fun G H al v w A r1 r2 Q hQ => .inl (ro_ic (f := fun i j => i / j) ⟨hc, hj⟩ h G H al v w A r1 r2 Q hQ)
theorem ro_mod (hc : 0 < j) (h : P (.int (i % j)) μ) : RO K rModA (.int i) (.int j) μ P := fun G H al v w A r1 r2 Q hQ => .inl (ro_ic (f := fun i j => i % j) (C := fun _ j => 0 < j) hc h G H al v w A r1 r2 Q hQ)
theorem ro_pow (hc : CPow i j) (h : P (.int (i ^ j.toNat)) μ) : RO K (rI CPow fun i j => .int (i ^ j.toNat)) (.int i) (.int j) μ P := ro_ic (f := fun i j => i ^ j.toNat) hc h
theorem ro_isB {a b : Bool} (h : P (.bl (decide (a = b))) μ) : RO K rIsB (.bl a) (.bl b) μ P := fun G H al v w A r1 r2 Q hQ => by
  cases r1; cases r2
  exact ⟨a, b, rfl, rfl, hQ.now A (.bl _) h⟩
theorem ro_notB {a b : Bool} (h : P (.bl (!decide (a = b))) μ) : RO K rNotB (.bl a) (.bl b) μ P := fun G H al v w A r1 r2 Q hQ => by
  cases r1; cases r2
  exact ⟨a, b, rfl, rfl, hQ.now A (.bl _) h⟩
end
section
variable {K : PySem.W.Frag} {B : Bs} {ρ : En} {μ : Mu} {te ta : TE} {ts : TA} {PI' : List D → (Mu → Prop) → Mu → Prop} {P : DEnds} {t u v : TS}
/-- what a datum is walked as; S: what must stay of what may change -/
inductive Wk (μ : Mu) : D → List D → (Mu → Prop) → Prop
  | lst (ds : List D) : Wk μ (.lst ds) ds (fun _ => True)
  | rdl (ds : List D) : Wk μ (.rdl ds) ds (fun _ => True)
  | own {k : Nat} {ds : List D} (h : μ[k]? = some (.lst ds)) : Wk μ (.own k) ds (fun μ' => μ'[k]? = some (.lst ds))
  | tup (ds : List D) : Wk μ (.tup ds) ds (fun _ => True)
  | rdt (ds : List D) : Wk μ (.rdt ds) ds (fun _ => True)
  | str (s : Str) : Wk μ (.str s) (signsD s) (fun _ => True)
theorem itt_ok {G H : Hp} {al : List Addr} {a : Addr} {ds : List D} {S : Mu → Prop} (h : ∀ G2 H2 al2 μ2, Nx G H al G2 H2 al2 → As K G2 H2 al2 μ2 → S μ2 → ∃ vs, SqT K H2 a vs ∧ Rps K G2 al2 vs ds) : ItOk K (Itt K a) ds S G H al := fun G2 H2 al2 μ2 n A s => by
  obtain ⟨vs, sq, r⟩ := h G2 H2 al2 μ2 n A s
  refine ⟨fun i hi => ⟨vs, vs[i]'(by rw [r.length]; exact hi), sq, by simp⟩, fun i hi => ⟨vs, sq, by rw [r.length]; exact hi⟩, fun i x H3 y d hd => ?_⟩
  obtain ⟨rfl, y⟩ := y
  obtain ⟨d', hd', r'⟩ := r.getV (y vs sq)
  rw [hd] at hd'; cases hd'
  exact ⟨G2, .refl, A, r'⟩
theorem di_any (h : DE K B te ρ μ fun x μ1 => ∃ ds S, Wk μ1 x ds S ∧ PI' ds S μ1) : DI K B (iAny K te) ρ μ PI' := fun σ G H al hB hσ hA R hR =>
  h σ G H al hB hσ hA _ fun v d μ1 G1 H1 al1 n1 A1 r1 p1 => by
    obtain ⟨ds, S, wk, p⟩ := p1
    cases wk with
    | lst =>
      cases r1 with
      | lst e rs => exact .inl ⟨_, rfl, ⟨_, .inl (.inl (A1.sub _ _ e))⟩, hR _ ds _ μ1 G1 H1 al1 n1 A1 (itl_ok fun G2 H2 al2 μ2 n2 A2 _ => ⟨_, .inl (.inl (A2.sub _ _ (n2.g _ _ e))), rs.nx n2⟩) p⟩
    | rdl =>
      cases r1 with
      | rdl e rs => exact .inl ⟨_, rfl, ⟨_, sql_mono A1.sub e⟩, hR _ ds _ μ1 G1 H1 al1 n1 A1 (itl_ok fun G2 H2 al2 μ2 n2 A2 _ => ⟨_, sql_mono A2.sub (sql_mono n2.g e), rs.nx n2⟩) p⟩
    | own hk =>
      obtain ⟨a, ha, ga, vs, hv, rs⟩ := A1.get hk
      cases r1 with
      | own e =>
        rw [ha] at e; cases e
        refine .inl ⟨_, rfl, ⟨_, .inl (.inl hv)⟩, hR _ ds _ μ1 G1 H1 al1 n1 A1 (itl_ok fun G2 H2 al2 μ2 n2 A2 s => ?_) p⟩
        obtain ⟨a2, ha2, ga2, vs2, hv2, rs2⟩ := A2.get s
        rw [n2.p.get ha] at ha2; cases ha2
        exact ⟨vs2, .inl (.inl hv2), rs2⟩
    | tup =>
      cases r1 with
      | tup e rs => exact .inr (.inl ⟨_, rfl, ⟨_, .inl (.inl (A1.sub _ _ e))⟩, hR _ ds _ μ1 G1 H1 al1 n1 A1 (itt_ok fun G2 H2 al2 μ2 n2 A2 _ => ⟨_, .inl (.inl (A2.sub _ _ (n2.g _ _ e))), rs.nx n2⟩) p⟩)
    | rdt =>
      cases r1 with
      | rdt e rs => exact .inr (.inl ⟨_, rfl, ⟨_, sqt_mono A1.sub e⟩, hR _ ds _ μ1 G1 H1 al1 n1 A1 (itt_ok fun G2 H2 al2 μ2 n2 A2 _ => ⟨_, sqt_mono A2.sub (sqt_mono n2.g e), rs.nx n2⟩) p⟩)
    | str x =>
      cases r1
      refine .inr (.inr ⟨x, rfl, hR _ _ _ μ1 G1 H1 al1 n1 A1 (fun G2 H2 al2 μ2 n2 A2 _ => ?_) p⟩)
      have hl : (signsD x).length = x.cps.size := by simp [signsD]
      rw [hl]
      refine ⟨fun i hi => hi, fun i hi => hi, fun i y H3 hy d hd => ?_⟩
      obtain ⟨rfl, c, hc, rfl⟩ := hy
      have : d = .str ⟨#[c]⟩ := by
        simp only [signsD, List.getElem?_map, Array.getElem?_toList, hc] at hd
        exact (Option.some.inj hd).symm
      subst this
      exact ⟨G2, .refl, A2, .str _⟩
theorem di_enum' (h : DA K B ts ρ μ fun xs μ1 => ∃ x ds S, xs = [x] ∧ Ls μ1 x ds ∧ Wk μ1 x ds S ∧ PI' (enumD ds) S μ1) : DI K B (iEnum K ts) ρ μ PI' := di_enum (fun σ G H al hB hσ hA Q hQ => h σ G H al hB hσ hA Q fun vs ds' μ' G' H' al' n A r p => hQ vs ds' μ' G' H' al' n A r (by
  obtain ⟨x, ds, S, e, ls, wk, p⟩ := p
  refine ⟨x, ds, e, ?_⟩
  cases wk with
  | lst => exact .inl ⟨rfl, p⟩
  | rdl => exact .inr (.inl ⟨rfl, p⟩)
  | own hk => exact .inr (.inr ⟨_, rfl, hk, p⟩)
  | tup => cases ls
  | rdt => cases ls
  | str => cases ls))
/-! ### statements with what follows -/
theorem q_set {i : Nat} (h : DE K B te ρ μ fun d μ1 => DS K B u (ρ.set i (some d)) μ1 P) : DS K B (tSeq (tAsg te (gName i)) u) ρ μ P := ds_seq (ds_set h)
theorem q_asg {g : TG} (h : DE K B te ρ μ fun d μ1 => DG K B g d ρ μ1 fun ρ2 μ2 => DS K B u ρ2 μ2 P) : DS K B (tSeq (tAsg te g) u) ρ μ P := ds_seq (ds_asg h)
theorem q_drop (h : DE K B te ρ μ fun d μ1 => DS K B u ρ μ1 P) : DS K B (tSeq (tDrop te) u) ρ μ P := ds_seq (ds_drop h)
/-- an if without else -/
theorem q_when {c : TT} (h : DT K B c ρ μ fun b μ1 => (b = true → DS K B t ρ μ1 { P with nx := fun ρ1 μ1 => DS K B u ρ1 μ1 P }) ∧ (b = false → DS K B u ρ μ1 P)) : DS K B (tSeq (tIfS c t tNext) u) ρ μ P :=
  ds_seq (ds_if fun σ G H al hB hσ hA Q hQ => h σ G H al hB hσ hA Q fun b μ1 G1 H1 al1 n1 A1 p1 => hQ b μ1 G1 H1 al1 n1 A1 ⟨p1.1, fun e => ds_next (p1.2 e)⟩)
theorem s_when {c : TT} (h : DT K B c ρ μ fun b μ1 => (b = true → DS K B t ρ μ1 P) ∧ (b = false → P.nx ρ μ1)) : DS K B (tIfS c t tNext) ρ μ P :=
  ds_if fun σ G H al hB hσ hA Q hQ => h σ G H al hB hσ hA Q fun b μ1 G1 H1 al1 n1 A1 p1 => hQ b μ1 G1 H1 al1 n1 A1 ⟨p1.1, fun e => ds_next (p1.2 e)⟩
theorem q_if {c : TT} (h : DT K B c ρ μ fun b μ1 => (b = true → DS K B t ρ μ1 { P with nx := fun ρ1 μ1 => DS K B u ρ1 μ1 P }) ∧ (b = false → DS K B v ρ μ1 { P with nx := fun ρ1 μ1 => DS K B u ρ1 μ1 P })) : DS K B (tSeq (tIfS c t v) u) ρ μ P := ds_seq (ds_if h)
theorem q_for {wi : TI} {g : TG} {tb : TS} (h : DI K B wi ρ μ fun ds S μ1 => ∃ Iv : Nat → En → Mu → Prop, Iv 0 ρ μ1 ∧ (∀ i ρ' μ', i ≤ ds.length → Iv i ρ' μ' → S μ') ∧
      (∀ i d ρ' μ', ds[i]? = some d → Iv i ρ' μ' → DG K B g d ρ' μ' fun ρ2 μ2 => DS K B tb ρ2 μ2 { nx := Iv (i + 1), ct := Iv (i + 1), bk := fun ρ1 μ1 => DS K B u ρ1 μ1 P, rt := P.rt }) ∧ (∀ ρ' μ', Iv ds.length ρ' μ' → DS K B u ρ' μ' P)) : DS K B (tSeq (tFor wi g tb) u) ρ μ P := ds_seq (ds_for h)
theorem q_while {c : TT} {tb : TS} (Iv : Nat → En → Mu → Prop) {m0 : Nat} (h0 : Iv m0 ρ μ)
    (hs : ∀ m ρ' μ', Iv m ρ' μ' → DT K B c ρ' μ' fun b μ1 => (b = true → DS K B tb ρ' μ1 { nx := fun ρ2 μ2 => ∃ m', m' < m ∧ Iv m' ρ2 μ2, ct := fun ρ2 μ2 => ∃ m', m' < m ∧ Iv m' ρ2 μ2, bk := fun ρ1 μ1 => DS K B u ρ1 μ1 P, rt := P.rt }) ∧ (b = false → DS K B u ρ' μ1 P)) : DS K B (tSeq (tWhile c tb) u) ρ μ P := ds_seq (ds_while Iv h0 hs)
theorem q_fld {f : Str} {tb : TE} (h : DE K B tb ρ μ fun y μ1 => DE K B ta ρ μ1 fun x μ2 => ∃ k C gs, x = .own k ∧ μ2[k]? = some (.ins C gs) ∧ Cls K C ∧ NoAttr K C f ∧ gs.length < 1000 ∧ DS K B u ρ (μ2.set k (.ins C (putD f y gs))) P) : DS K B (tSeq (sFld K ta tb f) u) ρ μ P := ds_seq (ds_fld h)
theorem q_par {i j : Nat} (h : DA K B ts ρ μ fun ds μ1 => ∃ x y, ds = [x, y] ∧ DS K B u ((ρ.set i (some x)).set j (some y)) μ1 P) : DS K B (tSeq (tPar i j ts) u) ρ μ P := ds_seq (ds_par h)
end
/-- the n-th thing from the end of what may change -/
theorem mu_last {μ : Mu} {o : MO} : (μ ++ [o])[μ.length]? = some o := by simp
theorem mu_old {μ ext : Mu} {k : Nat} {o : MO} (h : μ[k]? = some o) : (μ ++ ext)[k]? = some o := by
  rw [List.getElem?_append_left (List.getElem?_eq_some_iff.mp h).1]
  exact h
theorem set_last {μ : Mu} {o o' : MO} : (μ ++ [o]).set μ.length o' = μ ++ [o'] := by simp
theorem set_old {μ ext : Mu} {k : Nat} {o o' : MO} (h : μ[k]? = some o) : (μ ++ ext).set k o' = μ.set k o' ++ ext := by
  rw [List.set_append_left _ _ (List.getElem?_eq_some_iff.mp h).1]
theorem set_get {μ : Mu} {k : Nat} {o o' : MO} (h : μ[k]? = some o) : (μ.set k o')[k]? = some o' := by
  rw [List.getElem?_set_self (List.getElem?_eq_some_iff.mp h).1]
theorem set_set' {μ : Mu} {k : Nat} {o o' : MO} : (μ.set k o).set k o' = μ.set k o' := by simp
/-- a fresh list handed on: frozen, or to be changed -/
def Fresh (xs : List D) (μ : Mu) (P : D → Mu → Prop) : Prop := P (.lst xs) μ ∨ P (.own μ.length) (μ ++ [.lst xs])
/-! ### defs by their contracts -/
section
variable {P : Program} {w : World} {K : PySem.W.Frag} {mg : Str → Option Value} {base : Heap}
theorem fn_DD {x qual : Str} {st : Stmt} {dvs : List V} {kws : List (Str × V)} {f : Addr} {fd : FuncData} {N ps : List Str} {k : Nat} {C : CT} {t : XK → TS} (F : FunD K x qual (defArgs st) (defBody st) (defScope st) dvs kws f fd) (S : FnScope N ps (defScope st)) (len : ∀ ds μ P PX, C ds μ P PX → ds.length = ps.length) (hN : ps.length ≤ N.length)
    (body : ∀ (cdv : Value) (A : Around) (outer : List Env) (s : Shared) (H : Hp) (E : XK), Room k (A.deeper (envOfC qual (defScope st) s.heap.objs.size f cdv)) → PSs (cxOf (L2.CX P w) P w K mg base N qual (defScope st) f cdv A outer s H E) (defBody st) (t E))
    (sem : ∀ ds μ P PX, C ds μ P PX → MuCl μ μ.length → clL ds μ.length = true → ∀ B E, XAg K B (RetX μ.length PX) E → DS K B (t E) (startD N ds) μ (fnE μ.length P)) : FnOk P w K mg base (L2.CX P w) (k + 1) f fd ps (spD K C) := by
  refine F.ok S (fun vs H Q E h => ?_) (fun cdv A outer s H vs Q E hr h => ⟨t E, body cdv A outer s H E hr, sem_of (fun ds μ P PX c => by rw [len ds μ P PX c]; exact hN) sem h⟩)
  obtain ⟨G, al, ds, μ, P, PX, A, r, c, _⟩ := h
  rw [r.length]
  exact len ds μ P PX c
end
end Dl
set_option Elab.async false
set_option linter.all false
set_option maxRecDepth 100000
namespace Dl
open PySem L2 PyProof.Rows
mutual
theorem D.cl_mono : ∀ (d : D) {n m : Nat}, n ≤ m → d.cl n = true → d.cl m = true
  | .tup xs, n, m, l, h => by unfold D.cl at h ⊢; exact clL_mono xs l h
  | .lst xs, n, m, l, h => by unfold D.cl at h ⊢; exact clL_mono xs l h
  | .rdl xs, n, m, l, h => by unfold D.cl at h ⊢; exact clL_mono xs l h
  | .rdt xs, n, m, l, h => by unfold D.cl at h ⊢; exact clL_mono xs l h
  | .obj _ gs, n, m, l, h => by unfold D.cl at h ⊢; exact clF_mono gs l h
  | .dct gs, n, m, l, h => by unfold D.cl at h ⊢; exact clK_mono gs l h
  | .own k, n, m, l, h => by unfold D.cl at h ⊢; simp at h ⊢; omega
  | .non, n, m, l, h => by simp [D.cl]
  | .bl _, n, m, l, h => by simp [D.cl]
  | .int _, n, m, l, h => by simp [D.cl]
  | .str _, n, m, l, h => by simp [D.cl]
  | .ty _, n, m, l, h => by simp [D.cl]
  | .loc _, n, m, l, h => by simp [D.cl]
  | .exc _ gs, n, m, l, h => by unfold D.cl at h ⊢; exact clF_mono gs l h
theorem clL_mono : ∀ (d : List D) {n m : Nat}, n ≤ m → clL d n = true → clL d m = true
  | [], _, _, _, _ => by simp [clL]
  | x :: xs, n, m, l, h => by
    unfold clL at h ⊢; simp at h ⊢
    exact ⟨D.cl_mono x l h.1, clL_mono xs l h.2⟩
theorem clF_mono : ∀ (d : List (Str × D)) {n m : Nat}, n ≤ m → clF d n = true → clF d m = true
  | [], _, _, _, _ => by simp [clF]
  | (_, x) :: xs, n, m, l, h => by
    unfold clF at h ⊢; simp at h ⊢
    exact ⟨D.cl_mono x l h.1, clF_mono xs l h.2⟩
theorem clK_mono : ∀ (d : List (Key × D)) {n m : Nat}, n ≤ m → clK d n = true → clK d m = true
  | [], _, _, _, _ => by simp [clK]
  | (_, x) :: xs, n, m, l, h => by
    unfold clK at h ⊢; simp at h ⊢
    exact ⟨D.cl_mono x l h.1, clK_mono xs l h.2⟩
end
theorem MO.cl_mono (o : MO) {n m : Nat} (l : n ≤ m) (h : o.cl n = true) : o.cl m = true := by
  cases o with
  | dead => rfl
  | lst xs => exact clL_mono xs l h
  | ins _ gs => exact clF_mono gs l h
  | dK gs => exact clK_mono gs l h
  | dT gs => exact clL_mono _ l h
  | tab _ _ => rfl
theorem MuCl.mono {μ : Mu} {n m : Nat} (h : MuCl μ n) (l : n ≤ m) : MuCl μ m := fun o ho => MO.cl_mono o l (h o ho)
theorem MuCl.app {μ : Mu} {o : MO} (h : MuCl μ μ.length) (ho : o.cl μ.length = true) : MuCl (μ ++ [o]) (μ ++ [o]).length := fun x hx => by
  rw [List.length_append]
  rcases List.mem_append.mp hx with m | m
  · exact MO.cl_mono x (by simp) (h x m)
  · simp at m; subst m; exact MO.cl_mono _ (by simp) ho
theorem br {b : Bool} {A C : Prop} (h1 : b = true → A) (h2 : b = false → C) : (b = true → A) ∧ (b = false → C) := ⟨h1, h2⟩
theorem br' {b : Bool} {A C : Prop} (h1 : b = false → A) (h2 : b = true → C) : (b = false → A) ∧ (b = true → C) := ⟨h1, h2⟩
theorem Wk.now {μ : Mu} {x : D} {ds : List D} {S : Mu → Prop} (h : Wk μ x ds S) : S μ := by
  cases h with
  | own h => exact h
  | _ => trivial
theorem Ls.wk {μ : Mu} {x : D} {ds : List D} (h : Ls μ x ds) : ∃ S, Wk μ x ds S := by
  cases h with
  | lst => exact ⟨_, .lst _⟩
  | rdl => exact ⟨_, .rdl _⟩
  | own h => exact ⟨_, .own h⟩
section
variable {K : PySem.W.Frag} {B : Bs} {ρ : En} {μ : Mu} {te : TE} {tt : TT} {wi : TI} {g : TG} {vs : List Nat} {P : D → Mu → Prop}
/-- [f d for d in ds], nothing changes -/
theorem lc_map (f : D → D) (hg : GW g vs) (h : DI K B wi ρ μ fun ds S μ1 => S μ1 ∧ ds.length ≤ 100000 ∧ (∀ (i : Nat) (d : D), ds[i]? = some d → DG K B g d (wipeD ρ vs) μ1 fun ρ2 μ2 => μ2 = μ1 ∧ DE K B te ρ2 μ1 fun y μ3 => y = f d ∧ μ3 = μ1) ∧ ∀ out, ds.map f = out → P (.lst out) μ1) : DE K B (tLc wi g tYes te vs) ρ μ P := by
  refine de_lc hg fun σ G H al hB hσ hA R hR => h σ G H al hB hσ hA R fun J ds S μ1 G1 H1 al1 n1 A1 ok p => hR J ds S μ1 G1 H1 al1 n1 A1 ok ?_
  obtain ⟨hS, hl, hs, hp⟩ := p
  refine ⟨hl, fun i acc μ' => acc = (ds.take i).map f ∧ μ' = μ1, ⟨by simp, rfl⟩, fun i acc μ' _ h => by rw [h.2]; exact hS, fun i d acc μ' hd h => ?_, fun acc μ' h => ?_⟩
  · obtain ⟨rfl, rfl⟩ := h
    refine fun σ G H al v hB hσ hA rv Q hQ => hs i d hd σ G H al v hB hσ hA rv Q fun σ2 ρ2 μ2 G2 H2 al2 n2 hσ2 A2 p2 => hQ σ2 ρ2 μ2 G2 H2 al2 n2 hσ2 A2 ?_
    obtain ⟨rfl, p2⟩ := p2
    refine dt_yes ⟨fun _ => p2.imp fun y μ3 ⟨e1, e2⟩ => ⟨?_, e2⟩, fun z => by cases z⟩
    rw [e1, List.take_add_one, hd]
    simp
  · obtain ⟨rfl, rfl⟩ := h
    rw [List.take_length]
    exact hp _ rfl
/-- [f d for d in ds if p d] -/
theorem lc_filt (p : D → Bool) (f : D → D) (hg : GW g vs) (h : DI K B wi ρ μ fun ds S μ1 => S μ1 ∧ ds.length ≤ 100000 ∧ (∀ (i : Nat) (d : D), ds[i]? = some d → DG K B g d (wipeD ρ vs) μ1 fun ρ2 μ2 => μ2 = μ1 ∧ DT K B tt ρ2 μ1 fun b μ3 => b = p d ∧ μ3 = μ1 ∧ (b = true → DE K B te ρ2 μ1 fun y μ4 => y = f d ∧ μ4 = μ1)) ∧ ∀ out, (ds.filter p).map f = out → P (.lst out) μ1) : DE K B (tLc wi g tt te vs) ρ μ P := by
  refine de_lc hg fun σ G H al hB hσ hA R hR => h σ G H al hB hσ hA R fun J ds S μ1 G1 H1 al1 n1 A1 ok p' => hR J ds S μ1 G1 H1 al1 n1 A1 ok ?_
  obtain ⟨hS, hl, hs, hp⟩ := p'
  refine ⟨hl, fun i acc μ' => acc = ((ds.take i).filter p).map f ∧ μ' = μ1, ⟨by simp, rfl⟩, fun i acc μ' _ h => by rw [h.2]; exact hS, fun i d acc μ' hd h => ?_, fun acc μ' h => ?_⟩
  · obtain ⟨rfl, rfl⟩ := h
    refine fun σ G H al v hB hσ hA rv Q hQ => hs i d hd σ G H al v hB hσ hA rv Q fun σ2 ρ2 μ2 G2 H2 al2 n2 hσ2 A2 p2 => hQ σ2 ρ2 μ2 G2 H2 al2 n2 hσ2 A2 ?_
    obtain ⟨rfl, p2⟩ := p2
    refine fun σ G H al hB hσ hA Q hQ => p2 σ G H al hB hσ hA Q fun b μ3 G3 H3 al3 n3 A3 p3 => hQ b μ3 G3 H3 al3 n3 A3 ?_
    obtain ⟨hb, rfl, p3⟩ := p3
    have e : (List.take (i + 1) ds) = List.take i ds ++ [d] := by rw [List.take_add_one, hd]; rfl
    refine ⟨fun hbt => (p3 hbt).imp fun y μ4 ⟨e1, e2⟩ => ⟨?_, e2⟩, fun hbf => ⟨?_, rfl⟩⟩
    · rw [e, List.filter_append, List.map_append, e1]
      rw [hb] at hbt
      simp [hbt]
    · rw [e, List.filter_append, List.map_append]
      rw [hb] at hbf
      simp [hbf]
  · obtain ⟨rfl, rfl⟩ := h
    rw [List.take_length]
    exact hp _ rfl
end
end Dl
set_option Elab.async false
set_option linter.all false
set_option maxRecDepth 100000
set_option Elab.async false
set_option linter.all false
set_option maxRecDepth 100000
namespace Dl
open PySem L2 PyProof.Rows
section
variable {K : PySem.W.Frag} {B : Bs} {ρ : En} {μ : Mu} {P : D → Mu → Prop} {te : TE} {x y : D} {ds : List D} {i j : Int}
/-- xs[::-1] -/
theorem de_revL (h : DE K B te ρ μ fun x μ1 => ∃ ds, Ls μ1 x ds ∧ P (.lst ds.reverse) μ1) : DE K B (tRevL K te) ρ μ P := fun σ G H al hB hσ hA Q hQ =>
  h σ G H al hB hσ hA _ fun v d μ1 G1 H1 al1 n1 A1 r1 p1 => by
    obtain ⟨ds, ls, p⟩ := p1
    obtain ⟨a, vs, rfl, sq, rs⟩ := ls.get A1 r1
    refine ⟨a, vs, rfl, sq, fun p' hp => ?_⟩
    obtain ⟨A2, n2⟩ := A1.frz (o := .lst vs.reverse) hp
    exact hQ _ _ μ1 _ _ _ (n1.trans n2) A2 (.lst upd_same (rs.reverse.nx n2)) p
theorem inV_ints (i : Int) (ns : List Int) : inV (.int i) (ns.map V.int) = decide (i ∈ ns) := by
  unfold inV
  induction ns with
  | nil => simp
  | cons n ns ih =>
    rw [List.map_cons, List.any_cons, ih]
    by_cases h : n = i
    · subst h; simp [eqV]
    · have h2 : ¬ i = n := fun e => h e.symm
      simp [eqV, h, h2]
theorem flat_ints (ns : List Int) : (ns.map V.int).all flatV = true := by simp [flatV]
theorem ro_notInI {ns : List Int} (hl : Ls μ y (ns.map D.int)) (h : P (.bl (!decide (i ∈ ns))) μ) : RO K (rNotInA K) (.int i) y μ P := fun G H al v w A r1 r2 Q hQ => by
  obtain ⟨a, vs, rfl, sq, rs⟩ := hl.get A r2
  cases r1
  have e := rs.ints; subst e
  refine .inl ⟨a, _, rfl, .inl sq, rfl, flat_ints ns, hQ.now A (.bl _) ?_⟩
  rw [if_pos rfl, inV_ints]; exact h
theorem eqv_nil (ds : List D) : eqvD (.lst ds) (.lst []) = decide (ds = []) := by
  cases ds with
  | nil => simp [eqvD_lst, eqvL, pyL, PyData.eqvAll]
  | cons d ds => simp [eqvD_lst, eqvL, pyL, PyData.eqvAll]
theorem ro_eqNil {n : Nat} (hx : Fz μ x (.lst ds)) (hs : shpL ds n = true) (h : P (.bl (decide (ds = []))) μ) (hn : n ≤ 63 := by decide) : RO K (rEqD K) x (.lst []) μ P :=
  ro_eqD (n := n + 1) (m := 1) hx (.id _) (by simpa [D.shp] using hs) rfl (by rw [eqv_nil]; exact h) (by omega)
/-- .. of at most a hundred thousand -/
def Sz (n : Nat) : Prop := n ≤ 100000
theorem de_tupZ {ts : TA} (h : DA K B ts ρ μ fun xs μ1 => Sz xs.length ∧ P (.tup xs) μ1) : DE K B (tTup ts) ρ μ P := de_tup h
theorem de_lstZ {ts : TA} (h : DA K B ts ρ μ fun xs μ1 => Sz xs.length ∧ P (.lst xs) μ1) : DE K B (tLst ts) ρ μ P := de_lst h
theorem de_lstOZ {ts : TA} (h : DA K B ts ρ μ fun xs μ1 => Sz xs.length ∧ P (.own μ1.length) (μ1 ++ [.lst xs])) : DE K B (tLst ts) ρ μ P := de_lstO h
/-- two things -/
def Two (ds : List D) (F : D → D → Prop) : Prop := ∃ x y, ds = [x, y] ∧ F x y
theorem two_i {F : D → D → Prop} (h : F x y) : Two [x, y] F := ⟨x, y, rfl, h⟩
theorem ds_parZ {ts : TA} {i j : Nat} {P : DEnds} (h : DA K B ts ρ μ fun ds μ1 => Two ds fun x y => P.nx ((ρ.set i (some x)).set j (some y)) μ1) : DS K B (tPar i j ts) ρ μ P := ds_par h
theorem q_parZ {ts : TA} {i j : Nat} {u : TS} {P : DEnds} (h : DA K B ts ρ μ fun ds μ1 => Two ds fun x y => DS K B u ((ρ.set i (some x)).set j (some y)) μ1 P) : DS K B (tSeq (tPar i j ts) u) ρ μ P := q_par h
theorem rs_anyL {lo hi : Option Int} (hl : Ls μ x ds) (h : P (.lst (cutD ds lo hi)) μ) : RS K (rSlA K) x lo hi μ P := fun G H al v A r Q hQ => .inl (rs_lst hl h G H al v A r Q hQ)
end
theorem cut_nat {xs : List D} {f e : Int} (h0 : 0 ≤ f) (h1 : f ≤ e) (h2 : e ≤ xs.length) : cutD xs (some f) (some e) = (xs.drop f.toNat).take (e - f).toNat := by
  unfold cutD
  have e1 : HT.sIx xs.length 0 (some f) = f.toNat := by
    have := HT.sIx_nat xs.length 0 f.toNat
    rw [show ((f.toNat : Nat) : Int) = f by omega] at this
    rw [this]; omega
  have e2 : HT.sIx xs.length xs.length (some e) = e.toNat := by
    have := HT.sIx_nat xs.length xs.length e.toNat
    rw [show ((e.toNat : Nat) : Int) = e by omega] at this
    rw [this]; omega
  rw [e1, e2]
  congr 1
  omega
end Dl
set_option Elab.async false
set_option linter.all false
set_option maxRecDepth 100000
namespace L2
open PySem PySem.Spec PyProof.Rows
end L2
namespace Dl
open PySem L2 PyProof.Rows
section
variable {K : PySem.W.Frag} {B : Bs} {ρ : En} {μ : Mu} {te to ti : TE} {t u : TS} {x y d : D} {ds : List D} {i j : Int}
/-! ### fields, methods -/
/-- a field's data -/
def FldP (K : PySem.W.Frag) (μ : Mu) (x : D) (f : Str) (P : D → Prop) : Prop := ∃ C gs d, (x = .obj C gs ∨ ∃ k, x = .own k ∧ μ[k]? = some (.ins C gs)) ∧ Cls K C ∧ NoAttr K C f ∧ gs.lookup f = some d ∧ P d
theorem de_fldZ {f : Str} {P : D → Mu → Prop} (h : DE K B te ρ μ fun x μ1 => FldP K μ1 x f fun d => P d μ1) : DE K B (tFld K te f) ρ μ P := de_fld h
theorem fp_obj {f : Str} {C : Addr} {gs : List (Str × D)} {P : D → Prop} (c : Cls K C) (n : NoAttr K C f) (l : gs.lookup f = some d) (h : P d) : FldP K μ (.obj C gs) f P := ⟨C, gs, d, .inl rfl, c, n, l, h⟩
theorem fp_own {f : Str} {k : Nat} {C : Addr} {gs : List (Str × D)} {P : D → Prop} (hk : μ[k]? = some (.ins C gs)) (c : Cls K C) (n : NoAttr K C f) (l : gs.lookup f = some d) (h : P d) : FldP K μ (.own k) f P := ⟨C, gs, d, .inr ⟨k, rfl, hk⟩, c, n, l, h⟩
def MethP (μ : Mu) (Cc : Addr) (m : Str) (x : D) (P : Prop) : Prop := ∃ gs, (x = .obj Cc gs ∨ ∃ k, x = .own k ∧ μ[k]? = some (.ins Cc gs)) ∧ gs.lookup m = none ∧ P
theorem de_methZ {Cc : Addr} {m : Str} {C : CT} {E : XK} {PX : PXT} {ts : TA} {P : D → Mu → Prop} (hE : XAg K B PX E) (h : DE K B te ρ μ fun x μ1 => MethP μ1 Cc m x (DA K B ts ρ μ1 fun ds μ2 => C (x :: ds) μ2 P PX)) : DE K B (tMeth Cc m (spD K C) [] E te ts) ρ μ P := de_meth hE h
theorem mp_obj {Cc : Addr} {m : Str} {gs : List (Str × D)} {P : Prop} (l : gs.lookup m = none) (h : P) : MethP μ Cc m (.obj Cc gs) P := ⟨gs, .inl rfl, l, h⟩
theorem mp_own {Cc : Addr} {m : Str} {k : Nat} {gs : List (Str × D)} {P : Prop} (hk : μ[k]? = some (.ins Cc gs)) (l : gs.lookup m = none) (h : P) : MethP μ Cc m (.own k) P := ⟨gs, .inr ⟨k, rfl, hk⟩, l, h⟩
/-- a store into a field -/
def PutP (K : PySem.W.Frag) (μ : Mu) (x y : D) (f : Str) (P : Mu → Prop) : Prop := ∃ k C gs, x = .own k ∧ μ[k]? = some (.ins C gs) ∧ Cls K C ∧ NoAttr K C f ∧ gs.length < 1000 ∧ P (μ.set k (.ins C (putD f y gs)))
theorem ds_fldZ {f : Str} {tb : TE} {P : DEnds} (h : DE K B tb ρ μ fun y μ1 => DE K B te ρ μ1 fun x μ2 => PutP K μ2 x y f fun μ3 => P.nx ρ μ3) : DS K B (sFld K te tb f) ρ μ P := ds_fld h
theorem q_fldZ {f : Str} {tb : TE} {P : DEnds} (h : DE K B tb ρ μ fun y μ1 => DE K B te ρ μ1 fun x μ2 => PutP K μ2 x y f fun μ3 => DS K B u ρ μ3 P) : DS K B (tSeq (sFld K te tb f) u) ρ μ P := q_fld h
/-! ### steps in thought alone: what is known of the store is put otherwise -/
def Gh (K : PySem.W.Frag) (μ μ2 : Mu) : Prop := ∀ G H al, As K G H al μ → ∃ G', As K G' H al μ2 ∧ Nx G H al G' H al
theorem Gh.refl : Gh K μ μ := fun G H al A => ⟨G, A, .refl⟩
theorem Gh.trans {μ1 μ2 : Mu} (h : Gh K μ μ1) (h' : Gh K μ1 μ2) : Gh K μ μ2 := fun G H al A => by
  obtain ⟨G1, A1, n1⟩ := h G H al A
  obtain ⟨G2, A2, n2⟩ := h' G1 H al A1
  exact ⟨G2, A2, n1.trans n2⟩
end
end Dl
set_option Elab.async false
set_option linter.all false
set_option maxRecDepth 100000
/-! sets of any number of texts: how many there are -/
namespace L2
open PySem PySem.Spec PyProof.Rows
end L2
set_option Elab.async false
set_option linter.all false
set_option maxRecDepth 100000
namespace L2
open PySem
end L2
namespace Dl
open PySem L2 PyProof.Rows
section
variable {K : PySem.W.Frag} {B : Bs} {ρ : En} {μ : Mu} {P : D → Mu → Prop} {te : TE} {x y : D} {ds : List D} {i j : Int}
/-- is None -/
def IsNP (x : D) (Q : Bool → Prop) : Prop := ∃ b, (b = true ↔ x = .non) ∧ Q b
theorem de_isNZ (h : DE K B te ρ μ fun x μ1 => IsNP x fun b => P (.bl b) μ1) : DE K B (tIsN te) ρ μ P := de_isN h
theorem de_notNZ (h : DE K B te ρ μ fun x μ1 => IsNP x fun b => P (.bl (!b)) μ1) : DE K B (tNotN te) ρ μ P := de_notN h
theorem np_t {Q : Bool → Prop} (h : Q true) : IsNP .non Q := ⟨true, by simp, h⟩
theorem np_f {Q : Bool → Prop} (hx : x ≠ .non) (h : Q false) : IsNP x Q := ⟨false, by simp [hx], h⟩
theorem np_int {Q : Bool → Prop} {i : Int} (h : Q false) : IsNP (.int i) Q := np_f (by simp) h
theorem np_bl {Q : Bool → Prop} {i : Bool} (h : Q false) : IsNP (.bl i) Q := np_f (by simp) h
theorem np_str {Q : Bool → Prop} {i : Str} (h : Q false) : IsNP (.str i) Q := np_f (by simp) h
theorem np_lst {Q : Bool → Prop} {i : List D} (h : Q false) : IsNP (.lst i) Q := np_f (by simp) h
theorem np_tup {Q : Bool → Prop} {i : List D} (h : Q false) : IsNP (.tup i) Q := np_f (by simp) h
theorem np_own {Q : Bool → Prop} {i : Nat} (h : Q false) : IsNP (.own i) Q := np_f (by simp) h
theorem np_obj {Q : Bool → Prop} {C : Addr} {gs : List (Str × D)} (h : Q false) : IsNP (.obj C gs) Q := np_f (by simp) h
end
/-! ### names -/
def letters : List Nat := (List.range 26).map (· + 97)
def nameOk (s : Str) : Prop := 1 ≤ s.length ∧ s.length ≤ 8 ∧ ∀ c ∈ s.cps.toList, c ∈ letters
instance (s : Str) : Decidable (nameOk s) := by unfold nameOk; infer_instance
theorem nameOk.strOk {s : Str} (h : nameOk s) : PyData.strOk s = true := by
  unfold PyData.strOk
  rw [← Array.all_toList, List.all_eq_true]
  intro c hc
  have := h.2.2 c hc
  unfold letters at this
  obtain ⟨i, hi, rfl⟩ := List.mem_map.mp this
  have := List.mem_range.mp hi
  simp; omega
end Dl
set_option Elab.async false
set_option linter.all false
set_option maxRecDepth 100000
/-! range of numbers of any size -/
namespace Dl
open PySem L2 PyProof.Rows
section
variable {X : Cx} {tg : Expr}
def iRng2W (ta : TA) : TI := fun σ H R => ta σ H fun vs H1 => ∃ i j : Int, vs = [.int i, .int j] ∧ R (Itr i (j - i).toNat) H1
end
section
variable {K : PySem.W.Frag} {B : Bs} {ρ : En} {μ : Mu} {ts : TA} {PI' : List D → (Mu → Prop) → Mu → Prop}
theorem di_range2W (h : DA K B ts ρ μ fun xs μ1 => ∃ lo n : Int, xs = [.int lo, .int n] ∧ PI' (rangeD lo (n - lo).toNat) (fun _ => True) μ1) : DI K B (iRng2W ts) ρ μ PI' := fun σ G H al hB hσ hA R hR =>
  h σ G H al hB hσ hA _ fun vs ds μ1 G1 H1 al1 n1 A1 r1 p1 => by
    obtain ⟨lo, n, rfl, p⟩ := p1
    obtain ⟨v, w, rfl, q1, q2⟩ := rps2 r1
    cases q1; cases q2
    exact ⟨lo, n, rfl, hR _ _ _ μ1 G1 H1 al1 n1 A1 itr_ok p⟩
end
end Dl
set_option Elab.async false
set_option linter.all false
set_option maxRecDepth 100000
namespace Dl
open PySem L2 PyProof.Rows
section
variable {K : PySem.W.Frag} {B : Bs} {ρ : En} {μ : Mu} {ts : TA} {u : TS} {x y z : D}
def Three (ds : List D) (F : D → D → D → Prop) : Prop := ∃ x y z, ds = [x, y, z] ∧ F x y z
theorem three_i {F : D → D → D → Prop} (h : F x y z) : Three [x, y, z] F := ⟨x, y, z, rfl, h⟩
theorem ds_par3 {i j l : Nat} {P : DEnds} (h : DA K B ts ρ μ fun ds μ1 => Three ds fun x y z => P.nx (((ρ.set i (some x)).set j (some y)).set l (some z)) μ1) : DS K B (tPar3 i j l ts) ρ μ P := fun σ G H al hB hσ hA De hD =>
  h σ G H al hB hσ hA _ fun vs ds μ1 G1 H1 al1 n1 A1 r1 p1 => by
    obtain ⟨x, y, z, rfl, p⟩ := p1
    obtain ⟨v, ws, rfl, rx, r2⟩ := rps_cons r1
    obtain ⟨w, u, rfl, ry, rz⟩ := rps2 r2
    exact ⟨_, _, _, rfl, hD.nx _ _ μ1 G1 H1 al1 n1 ((((hσ.nx n1).set i rx).set j ry).set l rz) A1 p⟩
theorem q_par3 {i j l : Nat} {P : DEnds} (h : DA K B ts ρ μ fun ds μ1 => Three ds fun x y z => DS K B u (((ρ.set i (some x)).set j (some y)).set l (some z)) μ1 P) : DS K B (tSeq (tPar3 i j l ts) u) ρ μ P := ds_seq (ds_par3 h)
theorem ro_eqNI {i : Int} {P : D → Mu → Prop} (h : P (.bl false) μ) : RO K (rEqD K) .non (.int i) μ P := ro_eqD (n := 0) (m := 0) (.id _) (.id _) rfl rfl (by rw [show eqvD .non (.int i) = false by simp only [eqvD, D.py, PyData.eqv]]; exact h)
end
end Dl
set_option Elab.async false
set_option linter.all false
set_option maxRecDepth 100000
/-! dicts with keys ints and texts -/
namespace Dl
open PySem L2
def keyD : Key → D
  | .inl i => .int i
  | .inr s => .str s
def valD (kvs : List (Key × D)) (k : Key) : Option D := (kvs.find? fun kv => decide (kv.1 = k)).map (·.2)
def putKD (kvs : List (Key × D)) (k : Key) (v : D) : List (Key × D) :=
  if (kvs.any fun kv => decide (kv.1 = k)) = true then kvs.map (fun kv => if kv.1 = k then (kv.1, v) else kv) else kvs ++ [(k, v)]
theorem rp_key {K : PySem.W.Frag} {G : Hp} {al : List Addr} {v : V} {k : Key} (h : Rp K G al v (keyD k)) : v = kV k := by
  cases k with
  | inl i => cases h; rfl
  | inr s => cases h; rfl
section
variable {K : PySem.W.Frag} {G H : Hp} {al : List Addr}
theorem Rpk.val : ∀ {gs : List (Key × D)} {kvs : List (Key × V)}, Rpk K G al kvs gs → ∀ k, (∀ d, valD gs k = some d → ∃ v, valV kvs k = some v ∧ Rp K G al v d) ∧ (valD gs k = none → valV kvs k = none)
  | [], _, h, k => by cases h; exact ⟨fun d e => (by cases e), fun _ => rfl⟩
  | (f, x) :: gs, _, h, k => by
    cases h with
    | @cons f v vs d ds r t =>
      have ih := t.val k
      by_cases e : f = k
      · refine ⟨fun d' e' => ?_, fun e' => ?_⟩
        · simp [valD, List.find?_cons, e] at e'
          subst e'
          exact ⟨v, valV_pos e, r⟩
        · simp [valD, List.find?_cons, e] at e'
      · have e1 : valD ((f, x) :: gs) k = valD gs k := by simp [valD, List.find?_cons, e]
        rw [e1, valV_neg (p := (f, v)) e]
        exact ih
theorem Rpk.any : ∀ {gs : List (Key × D)} {kvs : List (Key × V)}, Rpk K G al kvs gs → ∀ k, (kvs.any fun kv => decide (kv.1 = k)) = (gs.any fun kv => decide (kv.1 = k))
  | [], _, h, k => by cases h; rfl
  | (f, x) :: gs, _, h, k => by
    cases h with
    | cons r t => simp only [List.any_cons, t.any k]
theorem Rpk.append : ∀ {gs fs : List (Key × D)} {kvs ls : List (Key × V)}, Rpk K G al kvs gs → Rpk K G al ls fs → Rpk K G al (kvs ++ ls) (gs ++ fs)
  | [], _, _, _, h, h' => by cases h; exact h'
  | _ :: _, _, _, _, h, h' => by cases h with | cons r t => exact .cons r (t.append h')
theorem Rpk.repl {k : Key} {v : V} {d : D} (r : Rp K G al v d) : ∀ {gs : List (Key × D)} {kvs : List (Key × V)}, Rpk K G al kvs gs → Rpk K G al (kvs.map fun kv => if kv.1 = k then (kv.1, v) else kv) (gs.map fun kv => if kv.1 = k then (kv.1, d) else kv)
  | [], _, h => by cases h; exact .nil
  | (f, x) :: gs, _, h => by
    cases h with
    | cons r' t =>
      simp only [List.map_cons]
      by_cases e : f = k
      · rw [if_pos e, if_pos e]; exact .cons r (t.repl r)
      · rw [if_neg e, if_neg e]; exact .cons r' (t.repl r)
theorem Rpk.put {gs : List (Key × D)} {kvs : List (Key × V)} (h : Rpk K G al kvs gs) (k : Key) {v : V} {d : D} (r : Rp K G al v d) : Rpk K G al (putK kvs k v) (putKD gs k d) := by
  unfold putK putKD
  rw [h.any k]
  split
  · exact h.repl r
  · exact h.append (.cons r .nil)
theorem Rpk.length : ∀ {gs : List (Key × D)} {kvs : List (Key × V)}, Rpk K G al kvs gs → kvs.length = gs.length
  | [], _, h => by cases h; rfl
  | _ :: _, _, h => by cases h with | cons _ t => simp [t.length]
end
/-- a dict as it stands -/
inductive Dt (μ : Mu) : D → List (Key × D) → Prop
  | dct (gs : List (Key × D)) : Dt μ (.dct gs) gs
  | own {k : Nat} {gs : List (Key × D)} (h : μ[k]? = some (.dK gs)) : Dt μ (.own k) gs
theorem Dt.get {K : PySem.W.Frag} {G H : Hp} {al : List Addr} {μ : Mu} {v : V} {d : D} {gs : List (Key × D)} (h : Dt μ d gs) (A : As K G H al μ) (r : Rp K G al v d) : ∃ a kvs, v = .ref a ∧ Rd H a (.dK kvs) ∧ Rpk K G al kvs gs := by
  cases h with
  | dct => cases r with | dct e rs => exact ⟨_, _, rfl, rd_mono A.sub e, rs⟩
  | own hk =>
    obtain ⟨a, ha, ga, vs, hv, rs⟩ := A.get hk
    cases r with
    | own e => rw [ha] at e; cases e; exact ⟨_, vs, rfl, .inl hv, rs⟩
section
variable {K : PySem.W.Frag} {B : Bs} {ρ : En} {μ : Mu} {td ty tv tx : TE} {P : D → Mu → Prop} {u : TS}
def DGetP (μ : Mu) (x y : D) (F : D → Prop) : Prop := ∃ gs k d, Dt μ x gs ∧ y = keyD k ∧ valD gs k = some d ∧ F d
def DInP (μ : Mu) (x y : D) (F : Bool → Prop) : Prop := ∃ gs k, Dt μ x gs ∧ y = keyD k ∧ F (valD gs k).isSome
theorem dgp_s {x d : D} {gs : List (Key × D)} {s : Str} {F : D → Prop} (h : Dt μ x gs) (e : valD gs (.inr s) = some d) (f : F d) : DGetP μ x (.str s) F := ⟨gs, .inr s, d, h, rfl, e, f⟩
theorem Rpk.isSome {G : Hp} {al : List Addr} {gs : List (Key × D)} {kvs : List (Key × V)} (h : Rpk K G al kvs gs) (k : Key) : (valV kvs k).isSome = (valD gs k).isSome := by
  cases q : valD gs k with
  | none => rw [(h.val k).2 q]; rfl
  | some d =>
    obtain ⟨v, e, _⟩ := (h.val k).1 d q
    rw [e]; rfl
theorem dget_k {H : Hp} {a : Addr} {kvs : List (Key × V)} {k : Key} (e : Rd H a (.dK kvs)) : DGet H a (kV k) (valV kvs k) := .inl ⟨kvs, k, e, rfl, rfl⟩
theorem de_dget (h : DE K B td ρ μ fun x μ1 => DE K B ty ρ μ1 fun y μ2 => DGetP μ2 x y fun d => P d μ2) : DE K B (tDGet td ty) ρ μ P := fun σ G H al hB hσ hA Q hQ =>
  h σ G H al hB hσ hA _ fun vx x μ1 G1 H1 al1 n1 A1 r1 p1 => p1 σ G1 H1 al1 (hB.trans n1) (hσ.nx n1) A1 _ fun vy y μ2 G2 H2 al2 n2 A2 r2 p2 => by
    obtain ⟨gs, k, d, dt, rfl, e, p⟩ := p2
    obtain ⟨a, kvs, rfl, ha, rk⟩ := dt.get A2 (r1.nx n2)
    obtain rfl := rp_key r2
    obtain ⟨v, ev, rv⟩ := (rk.val k).1 d e
    exact ⟨a, v, rfl, by rw [← ev]; exact dget_k ha, hQ v d μ2 G2 H2 al2 (n1.trans n2) A2 rv p⟩
theorem de_din (h : DE K B ty ρ μ fun y μ1 => DE K B td ρ μ1 fun x μ2 => DInP μ2 x y fun b => P (.bl b) μ2) : DE K B (tDIn ty td) ρ μ P := fun σ G H al hB hσ hA Q hQ =>
  h σ G H al hB hσ hA _ fun vy y μ1 G1 H1 al1 n1 A1 r1 p1 => p1 σ G1 H1 al1 (hB.trans n1) (hσ.nx n1) A1 _ fun vx x μ2 G2 H2 al2 n2 A2 r2 p2 => by
    obtain ⟨gs, k, dt, rfl, p⟩ := p2
    obtain ⟨a, kvs, rfl, ha, rk⟩ := dt.get A2 r2
    obtain rfl := rp_key r1
    refine ⟨a, _, rfl, dget_k ha, ?_⟩
    rw [rk.isSome k]
    exact hQ _ _ μ2 G2 H2 al2 (n1.trans n2) A2 (.bl _) p
theorem de_dnin (h : DE K B ty ρ μ fun y μ1 => DE K B td ρ μ1 fun x μ2 => DInP μ2 x y fun b => P (.bl (!b)) μ2) : DE K B (tDNotIn ty td) ρ μ P := fun σ G H al hB hσ hA Q hQ =>
  h σ G H al hB hσ hA _ fun vy y μ1 G1 H1 al1 n1 A1 r1 p1 => p1 σ G1 H1 al1 (hB.trans n1) (hσ.nx n1) A1 _ fun vx x μ2 G2 H2 al2 n2 A2 r2 p2 => by
    obtain ⟨gs, k, dt, rfl, p⟩ := p2
    obtain ⟨a, kvs, rfl, ha, rk⟩ := dt.get A2 r2
    obtain rfl := rp_key r1
    refine ⟨a, _, rfl, dget_k ha, ?_⟩
    rw [rk.isSome k]
    exact hQ _ _ μ2 G2 H2 al2 (n1.trans n2) A2 (.bl _) p
/-! ### displays -/
/-! ### freezing -/
end
end Dl
set_option Elab.async false
set_option linter.all false
set_option maxRecDepth 100000
/-! min(xs, default=d) -/
set_option Elab.async false
set_option linter.all false
set_option maxRecDepth 100000
set_option Elab.async false
set_option linter.all false
set_option maxRecDepth 100000
namespace Dl
open PySem L2
def rAbs : List V → Hp → VK → Prop := fun xs H Q => ∃ i, xs = [.int i] ∧ Q (.int (if i < 0 then -i else i)) H
section
variable {K : PySem.W.Frag} {μ : Mu} {P : D → Mu → Prop} {i : Int} {d : D} {ds : List D}
theorem rc_abs (h : P (.int (i.natAbs : Int)) μ) : RC K rAbs [.int i] μ P := fun G H al vs A r Q hQ => by
  obtain ⟨v, rfl, r1⟩ := rps1 r
  cases r1
  refine ⟨i, rfl, ?_⟩
  rw [show (if i < 0 then -i else i) = (i.natAbs : Int) by split <;> omega]
  exact hQ.now A (.int _) h
end
end Dl
set_option Elab.async false
set_option linter.all false
set_option maxRecDepth 100000
/-! a def called through its class, C.m(..); a head with more facts -/
namespace Dl
open PySem L2 PyProof.Rows
/-! ### the head, with more facts -/
abbrev AlX : Type := He.AlD × Bool
def exAll (ex : List (PySem.W.Frag → Bool)) (K : PySem.W.Frag) : Bool := ex.all fun e => e K
theorem exAll_at {ex : List (PySem.W.Frag → Bool)} {K : PySem.W.Frag} (h : exAll ex K = true) (i : Nat) {e : PySem.W.Frag → Bool} (he : ex[i]? = some e := by rfl) : e K = true := List.all_eq_true.mp h e (List.mem_of_getElem? he)
end Dl
set_option Elab.async false
set_option linter.all false
set_option maxRecDepth 100000
/-! list(range(a, b)) of numbers of any size -/
set_option Elab.async false
set_option linter.all false
set_option maxRecDepth 100000
/-! int of a truth value; isinstance of own classes: what of the head it wants -/
set_option Elab.async false
set_option linter.all false
set_option maxRecDepth 100000
/-! sorted(set(xs)) of a list of ints -/
set_option Elab.async false
set_option linter.all false
set_option maxRecDepth 100000
/-! list.count of texts; slices stored; dict(pairs), d.get(k, x) -/
set_option Elab.async false
set_option linter.all false
set_option Elab.async false
set_option linter.all false
set_option maxRecDepth 100000
set_option maxHeartbeats 2000000
/-! exceptions that are caught and kept as values -/
namespace Dl
open PySem PySem.Spec PyProof.Rows L2
section
variable {X : Cx} {pins : List (Addr × Obj)} {σ : L2.St} {H : Hp} {s : Shared}
/-- an object that the frame has met (an exception) is tracked from here on -/
theorem trackX {a : Addr} {oe : Obj} {vs : Array Value} {cls : Value} {d : Option Addr} (I : Inv X pins σ H s) (ha : s.heap.get? a = some oe) (hz : Zc cls d oe) (hd : oe.data = .fields vs) (na : H a = none)
    (nL : a ≠ X.env.locals) (h0 : X.s_0.heap.get? a = none) (hp : ∀ p ∈ X.pn ++ pins, p.1 ≠ a) : Inv X pins σ (upd H a (ExV cls d a)) s := by
  refine ⟨I.ok, I.os, I.bare, ⟨I.base.keep, I.base.slot, fun b o e n hx => ?_, I.base.there, fun b xs e => ?_, fun b o u e => ?_, fun b ps e => ?_⟩, I.loc, I.cell, ?_, fun x c e => ?_, fun p hp' => ?_, fun b u e => ?_, I.len⟩
  · have z : b ≠ a := fun z => by rw [z, h0] at e; cases e
    rw [upd_ne z]; exact I.base.free b o e n hx
  · have q := I.base.tups b xs e
    rw [upd_ne (ne_of_none q na)]; exact q
  · have q := I.base.frzs b o u e
    rw [upd_ne (ne_of_none q na)]; exact q
  · obtain ⟨m, q⟩ := I.base.tbls b ps e
    exact ⟨m, by rw [upd_ne (ne_of_none q na)]; exact q⟩
  · rw [upd_ne nL.symm]; exact I.free
  · obtain ⟨v, o, ho, hd'⟩ := I.cell x c e
    have z : c ≠ a := fun z => by
      rw [z, ha] at ho; cases ho
      rw [hd] at hd'; cases hd'
    rw [upd_ne z]; exact I.freeC x c e
  · obtain ⟨e, n, ne, nf, d'⟩ := I.pin p hp'
    exact ⟨e, by rw [upd_ne (hp p hp')]; exact n, ne, nf, d'⟩
  · by_cases hb : b = a
    · subst hb
      rw [upd_same] at e
      cases e
      exact ⟨⟨oe, vs, ha, hz, hd⟩, ⟨oe, ha⟩, fun _ _ ⟨o, v, q, r⟩ k => ⟨o, v, k o q, r⟩⟩
    · rw [upd_ne hb] at e
      exact (I.hok b u e).stay (fun c v _ q => q) (fun c q => by rw [upd_ne (ne_of_none q na)]; exact q) fun c xs q => by rw [upd_ne (ne_of_none q na)]; exact q
/-- the frame of an except suite whose exception is tracked -/
theorem inSuite {a : Addr} (I : Inv X pins σ H s) : Inv (X.suite a (X.pn ++ pins)) [] σ H s :=
  ⟨I.ok.suite _ _, I.os, I.bare, I.base, I.loc, I.cell, I.free, I.freeC, fun p hp => I.pin p (by rw [List.append_nil] at hp; exact hp), I.hok, I.len⟩
theorem outSuite {a : Addr} {pn' : List (Addr × Obj)} (I : Inv (X.suite a (X.pn ++ pins)) pn' σ H s) (ok : X.Ok) : Inv X pins σ H s :=
  ⟨ok, I.os, I.bare, I.base, I.loc, I.cell, I.free, I.freeC, fun p hp => I.pin p (List.mem_append_left _ hp), I.hok, I.len⟩
end
/-- the ends of an except suite: its name goes -/
def endsX (i : Nat) (D : Ends) : Ends := { nx := fun σ' H' => D.nx (σ'.set i none) H', rt := D.rt, bk := fun σ' H' => D.bk (σ'.set i none) H', ct := fun σ' H' => D.ct (σ'.set i none) H' }
/-- what 'except x as n' wishes of an exception: slot i is n's -/
def wKp (K : PySem.W.Frag) (c : Value) (i : Nat) (ts : TS) (Wout : WX) (D : Ends) : WX := fun cls d σ H =>
  ∃ b, PySem.W.exmOne K cls c = some b ∧ (b = true → ∀ a, H a = none → ts (endsX i D) (σ.set i (some (.ref a))) (upd H a (ExV cls d a))) ∧ (b = false → Wout cls d σ H)
def tTry (K : PySem.W.Frag) (c : Value) (i : Nat) (tb : WX → TS) (ts : TS) (Wout : WX) : TS := fun D σ H => tb (wKp K c i ts Wout D) D σ H
section
variable {X : Cx} {x n : Str} {c : Value} {i : Nat} {body suite : List Stmt} {b₀ : Stmt} {np pos pos' : Pos} {tb : WX → TS} {ts : TS} {Wout : WX}
/-- try: .. except x as n: .., the caught exception stays a value -/
theorem ps_try_kp (hs : X.stack = X.env :: X.outer) (hf : X.env.frame = some X.env.locals) (hex : X.ex = []) (hN : X.N.Nodup) (hi : X.N[i]? = some n) (hln : X.env.kindOf n = some .local) (hc : Names X x c) (tk : Takes X Wout)
    (hb : ∀ (W : WX) (pn : List (Addr × Obj)) (xe : Value → Shared → Prop), Takes (X.tr pn xe) W → PassesOwn (model X.prog X.w) X.A X.env xe → PSs (X.tr pn xe) body (tb W))
    (hsu : ∀ (a : Addr) (pn : List (Addr × Obj)), PSs (X.suite a pn) (b₀ :: suite) ts) :
    PS X (.Try body [.ExceptHandler (some (.Name x np)) (some n) (b₀ :: suite) pos'] [] [] pos) (tTry X.K c i tb ts Wout) := by
  refine ⟨fun pins s σ H D I h => ?_⟩
  have ok := I.ok
  have hfr : X.A.frames = some (X.env :: X.outer) := ok.frames.trans (by rw [hs])
  have hloc : Loc X.env.scope n := Or.inl hln
  refine wpAny_Try_except ?_
  refine wpAny_mono ((hb (wKp X.K c i ts Wout D) (X.pn ++ pins) (fun e s₁ => wpAny (model X.prog X.w) X.A (noteFrame e X.env) (fun _ s₂ => wpAny (model X.prog X.w) X.A (setFlight e none) (fun _ s₃ =>
    wpAny (model X.prog X.w) X.A (handleBy e X.env [.ExceptHandler (some (.Name x np)) (some n) (b₀ :: suite) pos']) (SP X pins D) X.xe s₃) X.xe s₂) X.xe s₁) (fun u s' xx => ?_) PassesOwn.looking).run [] s σ H D (I.toTry _) h) (fun f s1 hsp => ?_) (fun e s1 he => he)
  · obtain ⟨a, B, sI, pins', σ', H', cls, d, rfl, J', nb, up, sky, na, os, ag, b, hb1, hyes, hno⟩ := xx
    have J : Inv X pins σ' H' sI := J'.ofTry ok
    have skyE : Sky B (X.env :: X.outer) a (Zc cls d) X.env.locals s'.heap := hs ▸ sky
    show wpAny (model X.prog X.w) X.A (noteFrame (.ref a) X.env) _ _ _
    refine Sky.land Zc.steady hfr hf skyE fun h3 fl3 up3 => ?_
    have J3 : Inv X pins σ' H' { s' with heap := h3 } := J.landed nb fl3.1 (up.trans up3) os ag
    obtain ⟨oe3, vs3, he3, hz3, hd3⟩ := fl3.there
    have nfr : a ∉ frs (X.env :: X.outer) := fun hm => by
      obtain ⟨_, o', e', hnf⟩ := fl3.2.2.1.mem hm
      rw [he3] at e'; cases e'
      exact hnf _ hd3
    have ba : B.get? a = none := fl3.2.1
    have nL : a ≠ X.env.locals := fun z => nfr (List.mem_filterMap.mpr ⟨X.env, List.mem_cons_self, by rw [hf, z]⟩)
    have nI : sI.heap.get? a = none := by
      cases q : sI.heap.get? a with
      | none => rfl
      | some o =>
        have := nb a o q (hs ▸ nfr)
        rw [ba] at this; cases this
    have n0 : X.s_0.heap.get? a = none := by
      cases q : X.s_0.heap.get? a with
      | none => rfl
      | some o =>
        obtain ⟨o', z⟩ := J.base.there a o q (by rw [hex]; exact fun z => nomatch z)
        rw [nI] at z; cases z
    have np' : ∀ p ∈ X.pn ++ pins, p.1 ≠ a := fun p hp z => by
      have := (J.pin p hp).1
      rw [z, nI] at this; cases this
    have nF : a ∉ X.fs := fun hm => by
      obtain ⟨e, he, q⟩ := List.mem_filterMap.mp hm
      exact nfr (List.mem_filterMap.mpr ⟨e, List.mem_cons_of_mem _ he, q⟩)
    have S3 := J3.suite he3 hd3 na nL nF
    refine wpAny_handleBy_cons (codeAny_handlers_test ?_) (by intro q; cases q)
    have LT : PySem.W.Looks (model X.prog X.w) h3 (typeOf (.ref a)) cls := fun A Q E s k q => wpAny_typeOf_ref (k _ _ he3) (hz3.1.symm ▸ q)
    have LM := PySem.W.exm_one (M := model X.prog X.w) (J3.kIn) LT hb1
    have test : ∀ {Q : Value → Shared → Prop} {E : Value → Shared → Prop}, Q c { s' with heap := h3 } → wpAny (model X.prog X.w) (X.A.mark (some (.ref a))) (eval (.Name x np) X.env) Q E { s' with heap := h3 } := by
      intro Q E q
      obtain ⟨hg, hdbg, hm | ⟨hm, hv, hnn⟩⟩ := hc
      · refine ld_glob (X := X.suite a ((a, oe3) :: (X.pn ++ pins))) S3 hg hm q hdbg
      · refine ld_blt (X := X.suite a ((a, oe3) :: (X.pn ++ pins))) S3 hg hm hv q hnn hdbg
    refine test (LM.here ?_)
    cases b with
    | true =>
      refine codeAny_handlers_suite_as ?_
      refine HandSPX.lands_againZ fl3 fun h4 fl4 up4 => ?_
      have J4 : Inv X pins σ' H' { s' with heap := h4 } := J.landed nb fl4.1 ((up.trans up3).trans up4) os ag
      obtain ⟨oe4, vs4, he4, hz4, hd4⟩ := fl4.there
      have T4 := inSuite (a := a) (trackX J4 he4 hz4 hd4 na nL n0 np')
      refine store_ok (X := X.suite a (X.pn ++ pins)) (v := .ref a) T4 hN hi hloc rfl (fun s5 S5 => ?_) (.inr hln)
      refine wpAny_mono ((hsu a (X.pn ++ pins)).run [] s5 _ _ _ S5 (hyes rfl a na)) (fun f s6 hsp => ?_) (fun _ _ z => False.elim z)
      have end_ : ∀ {σ6 : L2.St} {H6 : Hp} {Q : Shared → Prop}, Inv (X.suite a (X.pn ++ pins)) [] σ6 H6 s6 → (∀ s7, Inv X pins (σ6.set i none) H6 s7 → Q s7) →
          wpAny (model X.prog X.w) X.A (do bindName X.env n .none; unbindBehindTheSuite X.env n pos') (fun _ s7 => Q s7) X.xe s6 := fun {σ6 H6 Q} S6 hq => gone_ok (outSuite S6 ok) hN hi hln hq
      cases f with
      | next =>
        obtain ⟨τ, H6, S6, q6⟩ := hsp
        exact end_ S6 fun s7 J7 => ⟨_, _, J7, q6⟩
      | brk =>
        obtain ⟨τ, H6, S6, q6⟩ := hsp
        exact end_ S6 fun s7 J7 => ⟨_, _, J7, q6⟩
      | cont =>
        obtain ⟨τ, H6, S6, q6⟩ := hsp
        exact end_ S6 fun s7 J7 => ⟨_, _, J7, q6⟩
      | ret u =>
        obtain ⟨w6, τ, H6, S6, r6, q6⟩ := hsp
        exact end_ S6 fun s7 J7 => ⟨_, _, _, J7, r6, q6⟩
    | false =>
      show wpAny _ X.A (handleBy (.ref a) X.env []) _ _ _
      refine wpAny_handleBy_nil ?_
      obtain ⟨k1, k2, k3, oe, vs, T, oT, tz, he, hz, hd, h1, hr⟩ := id fl3
      unfold PySem.passOn
      refine wpAny_bind (wpAny_field he hd h1 ?_)
      rw [if_neg (show ¬ ((Value.ref T == Value.none) = true) by simp)]
      have fin : wpAny (model X.prog X.w) X.A (setFlight (.ref a) X.env.frame) (fun _ s4 => wpAny (model X.prog X.w) X.A (throw (.ref a) : Sem Flow) (SP X pins D) X.xe s4) X.xe { s' with heap := h3 } := by
        rw [hf]
        refine HandSPX.setFlight_upZ fl3 fun h4 hh4 up4 => wpAny_throw (tk _ _ ?_)
        refine ⟨a, B, sI, pins, σ', H', cls, d, rfl, J, nb, (up.trans up3).trans up4, .inr (.inr (hs ▸ hh4)), na, os, ag, hno rfl⟩
      first
        | exact wpAny_bind (wpAny_pure (wpAny_bind fin))
        | exact wpAny_bind fin
  · cases f with
    | next =>
      obtain ⟨τ, H6, J6, q⟩ := hsp
      exact wpAny_execs_nil ⟨τ, H6, J6.ofTry ok, q⟩
    | brk =>
      obtain ⟨τ, H6, J6, q⟩ := hsp
      exact ⟨τ, H6, J6.ofTry ok, q⟩
    | cont =>
      obtain ⟨τ, H6, J6, q⟩ := hsp
      exact ⟨τ, H6, J6.ofTry ok, q⟩
    | ret u =>
      obtain ⟨w, τ, H6, J6, r, q⟩ := hsp
      exact ⟨w, τ, H6, J6.ofTry ok, r, q⟩
end
/-! ### calls in a try's body: what is wished of exceptions hangs on the slots -/
/-! ### isinstance of a caught exception, its fields -/
end Dl
namespace PySem.W
open PySem PySem.Spec PySem.Calls PyProof.Rows
section
variable {prog : Program} {w : World} {A : Around} {E : Value → Shared → Prop} {s : Shared} {K : Frag} {x D : Addr} {ox : Obj} {od : Option Obj}
theorem dl_findObj {C : Addr} {name : Str} {a g : Value} (hc : (clsIn K C).isSome = true) (ha : findIn K (.ref C) name = some (some a)) (hg : specialIn K a "__get__" = some (some g)) (ht : takesIn K a = some true) : findObj K C od name = some (.bind g a) := by
  obtain ⟨cd, hc⟩ := Option.isSome_iff_exists.mp hc
  unfold findObj
  rw [hc, Option.bind_some, ha, Option.bind_some]
  simp [hg, ht]
theorem dl_classE {Q : Option Value → Shared → Prop} (C : L2.ExcC K D) (X : K.In s.heap) (I : InstAt s.heap x ox D od) (h : Q (some (.ref D)) { s with toks := s.toks + 1 }) : wpAny (model prog w) A (getAttr? (.ref x) "__class__") Q E s := by
  have hf : findObj K D od "__class__" = some (.bind (.builtin "getset_descriptor.__get__") (.builtin "object.__class__")) := dl_findObj (by obtain ⟨cd, hc, _⟩ := any_some C.hd; rw [hc]; rfl) C.ha C.hn C.ht
  obtain ⟨hp, g, d, t, os⟩ := s
  have Ty := I.type (M := model prog w)
  have Lg := looks_findIn (M := model prog w) X C.hg
  have Lk := looks_findIn (M := model prog w) X C.hk
  have Lf := looks_find (M := model prog w) X I hf
  have sub : Looks (model prog w) hp (isInstance (.ref x) (.type "BaseException")) true := Ty.andThen (looks_subIn X C.hs)
  have n0 : (false && onTheHeap (Value.builtin "BaseException.__getattribute__")) = false := rfl
  have n2 : (Value.builtin "BaseException.__getattribute__" == Value.builtin "object.__getattribute__") = false := by decide +kernel
  have n1 : (onTheHeap (Value.ref D) && Value.builtin "BaseException.__getattribute__" == Value.builtin "object.__getattribute__") = false := by rw [n2]; rfl
  unfold getAttr? getAttrBy? getAttrBy
  refine wpAny_bind (wpAny_mkText (wpAny_bind (wpAny_attempt (wpAny_holding (wpAny_bind (Ty.at (wpAny_bind (Lg.at ?_))))))))
  show wpAny _ _ (if (onTheHeap (Value.ref D) && Value.builtin "BaseException.__getattribute__" == Value.builtin "object.__getattribute__") = true then _ else _) _ _ _
  rw [n1, if_neg Bool.false_ne_true]
  unfold getAttrByItsOwn hookBefore
  refine wpAny_bind ?_
  rw [if_pos (show onTheHeap (Value.ref D) = true by rfl)]
  refine Lk.at ?_
  refine wpAny_bind (wpAny_attempt (wpAny_holding ?_))
  unfold callGetattribute
  rw [n0, if_neg Bool.false_ne_true]
  unfold boundAndCalled
  rw [PySem.F.excAttr_ValueError.ga.bind (.ref x)]
  refine wpAny_bind (wpAny_pure ?_)
  show wpAny _ _ (call (.builtin "BaseException.__getattribute__") [.ref x, .str "__class__" t]) _ _ _
  refine wpAny_call (codeAny_call_builtin PySem.F.excAttr_ValueError.ga.plain PySem.F.entry_bexc_ga ?_)
  refine @check_slot (model prog w) _ _ ⟨hp, g, d, t + 1, os⟩ "BaseException.__getattribute__" "BaseException" "__getattribute__" (.ref x) [.str "__class__" t] [] _ (by decide +kernel) (by decide +kernel) sub (PySem.F.args_bexc_ga _ _) ?_
  unfold Builtin.«object.__getattribute__»
  refine wpAny_bind (wpAny_of_eq (a := ((Value.ref x : Value), [Value.str "__class__" t])) (by first | (simp only [slotArgs]; rfl) | rfl) ?_)
  refine wpAny_bind (wpAny_pure (wpAny_bind (Ty.at (wpAny_bind (Lf.at ?_)))))
  show wpAny _ _ (holding [Value.builtin "object.__class__"] (call (.builtin "getset_descriptor.__get__") [.builtin "object.__class__", .ref x, .ref D]) >>= ret) _ _ _
  refine wpAny_bind (wpAny_holding (wpAny_call (class_get (s := ⟨hp, g, d, t + 1, os⟩) (ox := ox) (od := od) X I C.hm ?_)))
  refine wpAny_pure ?_
  show wpAny _ _ (handedOut (.ref D)) _ _ _
  rw [handedOut_of (v := .ref D) (by rfl)]
  first
    | exact wpAny_pure h
    | exact wpAny_pure (wpAny_pure h)
    | exact wpAny_pure (wpAny_bind (wpAny_pure (wpAny_pure h)))
theorem dl_kitx (C : L2.ExcC K D) : KitX K (.ref x) (.ref D) (fun h => ∃ od, InstAt h x ox D od) where
  ty := fun _ _ _ ⟨_, I⟩ => I.type
  it := fun _ _ X _ => by
    obtain ⟨cdD, hcD, _⟩ := any_some C.hd
    unfold clsIn at hcD
    split at hcD
    · rename_i c' d' cd' sl' ho
      intro A' Q' E' s' k q
      unfold isType loadHead
      refine wpAny_bind (wpAny_loadPart (k _ _ (X _ _ ho)) (wpAny_pure q))
    · cases hcD
  ne := fun h tp dd its n sl X htp => by
    obtain ⟨cdD, hcD, _⟩ := any_some C.hd
    refine Bool.eq_false_iff.mpr fun q => ?_
    have e := Value.ref.inj (beq_iff_eq.mp q)
    cases e
    unfold clsIn at hcD
    split at hcD
    · rename_i c' d' cd' sl' ho
      have z := (X _ _ ho).symm.trans htp
      cases z
    · cases hcD
  ca := fun X ⟨_, I⟩ k => dl_classE C X I k
end
end PySem.W
namespace Dl
open PySem PySem.Spec PyProof.Rows L2
/-- isinstance(e, c), e a caught exception -/
def rIsX (K : PySem.W.Frag) : List V → Hp → VK → Prop := fun xs H Q => ∃ (a C : Addr) (d : Option Addr) (fs : List (Str × V)) (c : V) (cv : Value) (b : Bool), xs = [.ref a, c] ∧ H a = some (ExV (.ref C) d a) ∧ ExD H d fs ∧ ExcC K C ∧ (∀ u, RelV c u → u = cv) ∧ PySem.W.kitOne K (.ref C) cv = some b ∧ Q (.bl b) H
theorem exInst {X : Cx} {pins : List (Addr × Obj)} {σ : L2.St} {H : Hp} {s : Shared} {a C : Addr} {d : Option Addr} {fs : List (Str × V)} (I : Inv X pins σ H s) (ha : H a = some (ExV (.ref C) d a)) (hd : ExD H d fs) : ∃ oe od, PySem.W.InstAt s.heap a oe C od ∧ (∀ dx, d = some dx → ∃ mA o, s.heap.Ns1 dx mA ∧ (∀ f, RelO (fs.lookup f) (mA f)) ∧ od = some o ∧ ∀ n, PySem.W.lookIn n o = some (mA n)) := by
  obtain ⟨⟨oe, vs, hg, hz, hf⟩, _, _⟩ := I.hok a _ ha
  rcases hd with ⟨rfl, rfl⟩ | ⟨dx, rfl, hx⟩
  · refine ⟨oe, none, ⟨hg, hz.1, by unfold PySem.W.notCls; rw [hf] <;> rfl, by rw [hz.2]; trivial⟩, fun dx e => by cases e⟩
  · have ho : ObjOk X.prog X.w H s.heap dx (.xd fs) := I.hok dx _ hx
    obtain ⟨mA, hns, hr⟩ := ho
    obtain ⟨od, ho, hl⟩ := lookIn_ns hns
    refine ⟨oe, some od, ⟨hg, hz.1, by unfold PySem.W.notCls; rw [hf] <;> rfl, by rw [hz.2]; exact ho⟩, fun dx' e => ?_⟩
    cases e
    exact ⟨mA, od, hns, hr, rfl, hl⟩
theorem call_isX {X : Cx} : CallR X (.builtin "isinstance") (rIsX X.K) := by
  intro pins s σ H xs us Q I r h
  obtain ⟨a, C, d, fs, c, cv, b, rfl, ha, hd, hC, hcv, e, q⟩ := h
  cases r with
  | cons rx rr =>
    cases rr with
    | cons rt rr =>
      cases rr
      cases rx
      cases hcv _ rt
      obtain ⟨oe, od, J, _⟩ := exInst I ha hd
      exact PySem.W.kia_one (PySem.W.dl_kitx (ox := oe) hC) I.kIn ⟨od, J⟩ e (fun z => nomatch z) fun tk => ⟨.bl b, H, I.kept (t' := tk) fun _ _ z => z, rfl, q⟩
/-- e.n, e a caught exception -/
def tXfK (K : PySem.W.Frag) (n : Str) (te : TE) : TE := fun σ H Q => te σ H fun x H1 => ∃ (a C dx : Addr) (fs : List (Str × V)) (v : V), x = .ref a ∧ H1 a = some (ExV (.ref C) (some dx) a) ∧ H1 dx = some (.xd fs) ∧ XfC K C ∧ PySem.W.findIn K (.ref C) n = some none ∧ fs.lookup n = some v ∧ Q v H1
end Dl
set_option Elab.async false
set_option linter.all false
set_option maxRecDepth 100000
set_option maxHeartbeats 2000000
/-! exceptions over data: raised with fields, caught, looked at -/
namespace Dl
open PySem PySem.Spec PyProof.Rows L2
/-! ### raise C(e, ..), C's own __init__ -/
/-- C.__init__ is ValueError's -/
structure ReI (K : PySem.W.Frag) (C : Addr) : Prop where
  rd : PySem.W.readsIn K C (.type "type") = true
  ga : PySem.W.specialIn K (.ref C) "__getattribute__" = some (some (.builtin "type.__getattribute__"))
  at_ : PySem.W.findCls K (.ref C) (.type "type") "__init__" = some (.val (.builtin "ValueError.__init__"))
def reiB (x : Str) (K : PySem.W.Frag) : Bool := PySem.W.readsIn K (He.ga K x) (.type "type") && (He.eqO (PySem.W.specialIn K (.ref (He.ga K x)) "__getattribute__") (some (some (.builtin "type.__getattribute__"))) &&
  (match PySem.W.findCls K (.ref (He.ga K x)) (.type "type") "__init__" with
    | some (.val (.builtin f)) => decide (f = "ValueError.__init__")
    | _ => false))
theorem reiB_ok {K : PySem.W.Frag} {x : Str} (h : reiB x K = true) : ReI K (He.ga K x) := by
  unfold reiB at h
  obtain ⟨h1, h2⟩ := He.ba h
  obtain ⟨h3, h5⟩ := He.ba h2
  refine ⟨h1, He.eqO_ok h3, ?_⟩
  split at h5
  · rename_i f e
    rw [e, of_decide_eq_true h5]
  · cases h5
section
variable {X : Cx} {o e : Expr} {es : List Expr} {ta : TA} {pos apos : Pos} {C : Addr}
theorem pe_reinit {pl : Sem Bool} (he : PE X o (tC (.ref C))) (c : ReI X.K C) (ha : PA X (e :: es) ta)
    (hst : starEach (e :: es) X.env = (false, eval e X.env) :: starEach es X.env := by rfl) (hpl : (backTo pos (starEach es X.env)).any (·.1) = false := by rfl)
    (ht : eval (.Call (.Attribute o "__init__" apos) (e :: es) [] pos) X.env = (do
      let ov ← eval o X.env; standAt apos.atName
      let (f, first) ← holding [ov] (getMethod ov "__init__" pl); callWith pos f first (backTo pos (starEach (e :: es) X.env)) (backToKw pos (keywordEach [] X.env))) := by rfl) :
    PE X (.Call (.Attribute o "__init__" apos) (e :: es) [] pos) (tVeI X.K ta) := by
  refine ⟨fun pins s σ H Q I h => ?_⟩
  refine PySem.W.methodCall_KW (pl := pl) (thn (he.run pins s σ H (fun x H1 => x = .ref C ∧ H1 = H) I ⟨rfl, rfl⟩) fun u s1 ⟨x, H1, I1, rx, ex, eH⟩ => ?_) ht
  cases ex
  cases (show u = Value.ref C from rx)
  rw [eH] at I1
  refine PySem.W.method_cls I1.kIn c.ga (PySem.W.cls_value I1.kIn c.rd c.at_ rfl ?_)
  show wpAny _ _ (callWith pos (Value.builtin "ValueError.__init__") [] (backTo pos (starEach (e :: es) X.env)) []) _ _ _
  refine PyProof.Rows.callWith_method1 (thn (ha.run pos pins _ σ H _ (I1.tok _) h) fun us s1 ⟨vs, H1, I1, r1, a, C, ws, ev, hl, T, ea, q⟩ => ?_) hst hpl
  cases ev
  cases r1 with
  | @cons _ u0 _ ur ra rw' =>
    cases (show u0 = Value.ref a from ra)
    refine oinit_ok T I1 ea ?_ fun s' J => ⟨.non, H1, J, rfl, q⟩
    rw [← Paired.length rw', sizeLine_eq]
    omega
end
/-- what a class with an own __init__ of fields must say -/
def oexB (x : Str) (K : PySem.W.Frag) : Bool := (match K.lookup (He.ga K x) with
  | some ⟨.type "type", _, .cls cd, sl⟩ => (match cd.mro, sl.toList with
    | .ref C' :: bm, [_, _, _, _, some (.builtin n), _] => C' == He.ga K x && n == "ValueError.__new__" && !cd.hasDel && cd.hasDict && PySem.HandSPX.refsVE bm
    | _, _ => false)
  | _ => false) && (He.eqO (PySem.W.findIn K (.ref (He.ga K x)) "__setattr__") (some (some (.builtin "object.__setattr__"))) && (decide (PySem.W.subIn K (.ref (He.ga K x)) (.type "BaseException") = some true) &&
    (decide (PySem.W.typeIn K (.ref (He.ga K x)) = some (.type "type")) && PySem.W.keepIn K (.ref (He.ga K x)))))
theorem oexB_ok {K : PySem.W.Frag} {x : Str} (h : oexB x K = true) : OexC K (He.ga K x) := by
  unfold oexB at h
  obtain ⟨q, h2⟩ := He.ba h
  obtain ⟨h3, h4⟩ := He.ba h2
  obtain ⟨h5, h6⟩ := He.ba h4
  obtain ⟨h7, h8⟩ := He.ba h6
  refine ⟨?_, He.eqO_ok h3, of_decide_eq_true h5, of_decide_eq_true h7, h8⟩
  split at q
  · rename_i dd cd sl ho
    split at q
    · rename_i C' bm k0 k1 k2 k3 n k5 hm hs
      simp only [Bool.and_eq_true, beq_iff_eq, Bool.not_eq_true'] at q
      obtain ⟨⟨⟨⟨e1, e2⟩, hdel⟩, hdi⟩, ht⟩ := q
      obtain ⟨nm, bs, mro, ns, qn, hd, sn, sub, ab, col, del⟩ := cd
      dsimp only at hm hdel hdi
      subst hm hdel hdi e1 e2
      have hsl : sl = #[k0, k1, k2, k3, some (.builtin "ValueError.__new__"), k5] := by
        obtain ⟨l⟩ := sl
        simp only at hs
        rw [hs]
      subst hsl
      exact ⟨_, _, _, _, _, _, _, _, _, _, _, _, _, _, _, ho, ht⟩
    · cases q
  · cases q
/-- the fields that an __init__ has stored -/
def fsOf {α : Type} (ns : List Str) (ws : List α) : List (Str × α) := (ns.zip ws).reverse
/-- the promise of an __init__ that stores what it is handed -/
def spX (C : Addr) (ns : List Str) : Sp := fun vs H Q _ => ∃ (a : Addr) (ws : List V), vs = .ref a :: ws ∧ ws.length = ns.length ∧ H a = some (exo a C none) ∧ ∀ dx, H dx = none → dx ≠ a → Q .non (upd (upd H dx (exd dx (fsOf ns ws))) a (exo a C (some dx)))
theorem upd_comm {H : Hp} {a b : Addr} {o u : HO} (h : a ≠ b) : upd (upd H a o) b u = upd (upd H b u) a o := by
  funext c
  by_cases e : c = a
  · rw [e, upd_ne h, upd_same, upd_same]
  · by_cases e2 : c = b
    · rw [e2, upd_same, upd_ne h.symm, upd_same]
    · rw [upd_ne e2, upd_ne e, upd_ne e, upd_ne e2]
def tInit1 (K : PySem.W.Frag) (m f : Str) : TS := tSeq (tDrop (tVeI K (tCons (tVar 0) (tCons (tC (.str m)) tNil)))) (tOst K f (tVar 0) (tVar 1))
section
variable {P : Program} {w : World} {K : PySem.W.Frag} {mg : Str → Option Value} {base : Heap} {x qual : Str} {st : Stmt} {f : Addr} {fd : FuncData} {k : Nat} {C : Addr}
theorem fn_X1 {m p1 p2 f1 : Str} (F : FunD K x qual (defArgs st) (defBody st) (defScope st) [] [] f fd) (S : FnScope [p1, p2] [p1, p2] (defScope st)) (T : OexC K C) (h1 : PySem.W.findIn K (.ref C) f1 = some none)
    (body : ∀ (cdv : Value) (A : Around) (outer : List Env) (s : Shared) (H : Hp) (E : XK), Room k (A.deeper (envOfC qual (defScope st) s.heap.objs.size f cdv)) → PSs (cxOf (L2.CX P w) P w K mg base [p1, p2] qual (defScope st) f cdv A outer s H E) (defBody st) (tInit1 K m f1)) :
    FnOk P w K mg base (L2.CX P w) (k + 1) f fd [p1, p2] (spX C [f1]) := by
  refine F.ok S (fun vs H Q E h => ?_) (fun cdv A outer s H vs Q E hr h => ⟨_, body cdv A outer s H E hr, ?_⟩)
  · obtain ⟨a, ws, rfl, hl, _⟩ := h
    simp [hl]
  · obtain ⟨a, ws, rfl, hl, ha, q⟩ := h
    match ws, hl with
    | [y], _ =>
      refine ⟨.ref a, rfl, a, C, [.str m], rfl, by simp, T, ha, ?_⟩
      refine ⟨y, rfl, .ref a, rfl, a, C, rfl, T, h1, .inl ⟨ha, fun dx hd ne => ?_⟩⟩
      exact q dx hd ne
end
theorem rpf_app {K : PySem.W.Frag} {G : Hp} {al : List Addr} {fs fs' : List (Str × V)} {gs gs' : List (Str × D)} (h : Rpf K G al fs gs) (h' : Rpf K G al fs' gs') : Rpf K G al (fs ++ fs') (gs ++ gs') := by
  induction gs generalizing fs with
  | nil => cases h; exact h'
  | cons d ds ih => cases h with | cons r t => exact .cons r (ih t)
theorem rpf_fsOf {K : PySem.W.Frag} {G : Hp} {al : List Addr} : ∀ (ns : List Str) {vs : List V} {ds : List D}, Rps K G al vs ds → Rpf K G al (fsOf ns vs) (fsOf ns ds)
  | [], _, _, _ => by simp [fsOf]; exact .nil
  | n :: ns, _, _, .nil => by simp [fsOf]; exact .nil
  | n :: ns, _, _, .cons r t => by
    have z := rpf_app (rpf_fsOf ns t) (.cons (f := n) r .nil)
    simpa [fsOf] using z
/-- raise C(e, ..), C storing its arguments -/
def tRaiseO (C : Addr) (sp : Sp) (ta : TA) (E : XK) : TS := fun _ σ H => tMkO C sp [] ta σ H fun cls d H' => E cls d H'
theorem ds_raiseO {K : PySem.W.Frag} {B : Bs} {ρ : En} {μ : Mu} {P : DEnds} {C : Addr} {ns : List Str} {ta : TA} {E : XK} {PX : PXT} (hE : XAg K B PX E) (h : DA K B ta ρ μ fun ds μ1 => ds.length = ns.length ∧ ns.length ≤ 100 ∧ PX C (fsOf ns ds) μ1) : DS K B (tRaiseO C (spX C ns) ta E) ρ μ P := fun σ G H al hB hσ hA De hD =>
  h σ G H al hB hσ hA _ fun vs ds μ1 G1 H1 al1 n1 A1 r1 p1 => by
    obtain ⟨hl, hn, p⟩ := p1
    have hv : vs.length = ns.length := r1.length.trans hl
    refine ⟨by omega, fun a na => ⟨a, vs, by rw [List.append_nil], hv, upd_same, fun dx hd ne => ⟨rfl, dx, fsOf ns vs, upd_same, by rw [upd_ne ne, upd_same], ?_, ?_⟩⟩⟩
    · rw [upd_ne ne] at hd; exact hd
    · rw [upd_ne ne] at hd
      have e : upd (del (upd (upd (upd H1 a (exo a C none)) dx (exd dx (fsOf ns vs))) a (exo a C (some dx))) a) dx (.xd (fsOf ns vs)) = upd H1 dx (.xd (fsOf ns vs)) := by
        funext b
        by_cases hb : b = dx
        · rw [hb, upd_same, upd_same]
        · rw [upd_ne hb, upd_ne hb]
          by_cases hba : b = a
          · rw [hba, del_same, na]
          · rw [del_ne hba, upd_ne hba, upd_ne hb, upd_ne hba]
      rw [e]
      obtain ⟨A2, n2⟩ := A1.frz (o := .xd (fsOf ns vs)) hd
      refine hE C (fsOf ns ds) (some dx) μ1 _ _ al1 (hB.trans (n1.trans n2)) A2 (.inr ⟨dx, fsOf ns vs, rfl, upd_same, ?_⟩) p
      exact rpf_fsOf ns (r1.nx n2)
/-! ### try -/
abbrev PWT := Addr → List (Str × D) → En → Mu → Prop
/-- what a try's body may let out: class, fields, slots, things -/
def WAg (K : PySem.W.Frag) (B : Bs) (PW : PWT) (W : WX) : Prop := ∀ C fs dd σ ρ μ G H al, B.le G H al → RpS K G al σ ρ → As K G H al μ → XRep K G al dd fs → PW C fs ρ μ → W (.ref C) dd σ H
def endsD (i : Nat) (P : DEnds) : DEnds := { nx := fun ρ μ => P.nx (ρ.set i none) μ, rt := P.rt, bk := fun ρ μ => P.bk (ρ.set i none) μ, ct := fun ρ μ => P.ct (ρ.set i none) μ }
section
variable {K : PySem.W.Frag} {B : Bs} {ρ : En} {μ : Mu} {te ta : TE} {ts : TA} {P : D → Mu → Prop} {PW : PWT} {W : WX} {C : CT} {dvs : List V} {dds : List D}
theorem ds_try {c : Value} {i : Nat} {tb : WX → TS} {su : TS} {Wout : WX} {P : DEnds} (hb : ∀ B', (∀ G H al, Bs.le B' G H al → B.le G H al) → ∀ W, WAg K B' (fun C fs ρ1 μ1 => PySem.W.exmOne K (.ref C) c = some true ∧ DS K B' su (ρ1.set i (some (.exc C fs))) μ1 (endsD i P)) W → DS K B' (tb W) ρ μ P) : DS K B (tTry K c i tb su Wout) ρ μ P := fun σ G H al hB hσ hA De hD => by
  refine hb ⟨G, H, al⟩ (fun _ _ _ n => hB.trans n) _ ?_ σ G H al .refl hσ hA De hD
  intro C fs dd σ1 ρ1 μ1 G1 H1 al1 n1 hσ1 A1 xr ⟨eb, y⟩
  refine ⟨true, eb, fun _ a na => ?_, fun z => by cases z⟩
  obtain ⟨A2, n2⟩ := A1.frz (o := ExV (.ref C) dd a) na
  have nn : Nx G H al _ _ al1 := n1.trans n2
  have rx : Rp K (upd G1 a (ExV (.ref C) dd a)) al1 (.ref a) (.exc C fs) := by
    rcases xr with ⟨rfl, rfl⟩ | ⟨d, vs, rfl, hd, rf⟩
    · exact .exc upd_same (.inl ⟨rfl, rfl⟩) .nil
    · exact .exc upd_same (.inr ⟨d, rfl, n2.g _ _ hd⟩) (rf.nx n2)
  refine y (σ1.set i (some (.ref a))) _ _ al1 nn ((hσ1.nx n2).set i rx) A2 (endsX i De) ?_
  have hD2 := hD.nx' nn
  exact ⟨fun σ' ρ' μ' G' H' al' n hσ A p => hD2.nx _ _ μ' G' H' al' n (hσ.forget i none) A p, hD2.rt, fun σ' ρ' μ' G' H' al' n hσ A p => hD2.bk _ _ μ' G' H' al' n (hσ.forget i none) A p, fun σ' ρ' μ' G' H' al' n hσ A p => hD2.ct _ _ μ' G' H' al' n (hσ.forget i none) A p⟩
/-! ### isinstance, fields -/
theorem rc_isX {Cc : Addr} {gs : List (Str × D)} {c : D} {cv : Value} {b : Bool} (hC : ExcC K Cc) (hc : ClD c cv) (hk : PySem.W.kitOne K (.ref Cc) cv = some b) (h : P (.bl b) μ) : RC K (rIsX K) [.exc Cc gs, c] μ P := fun G H al vs A r Q hQ => by
  obtain ⟨v, w, rfl, r1, r2⟩ := rps2 r
  cases r1 with
  | exc e hd rf =>
    refine ⟨_, Cc, _, _, w, cv, b, rfl, A.sub _ _ e, hd.mono A.sub, hC, ?_, hk, hQ.now A (.bl _) h⟩
    intro u ru
    cases hc with
    | ty n => cases r2; exact ru
    | loc C => cases r2; exact ru
theorem de_xf {n : Str} (h : DE K B te ρ μ fun x μ1 => ∃ Cc gs d, x = .exc Cc gs ∧ XfC K Cc ∧ PySem.W.findIn K (.ref Cc) n = some none ∧ gs.lookup n = some d ∧ P d μ1) : DE K B (tXfK K n te) ρ μ P := fun σ G H al hB hσ hA Q hQ =>
  h σ G H al hB hσ hA _ fun v x μ1 G1 H1 al1 n1 A1 r1 p1 => by
    obtain ⟨Cc, gs, d, rfl, hx, hn, hl, p⟩ := p1
    cases r1 with
    | exc e hd rf =>
      obtain ⟨w, lw, rw'⟩ := rf.look hl
      rcases hd with ⟨rfl, rfl⟩ | ⟨dx, rfl, hd⟩
      · cases lw
      · exact ⟨_, Cc, dx, _, w, rfl, A1.sub _ _ e, A1.sub _ _ hd, hx, hn, lw, hQ _ _ μ1 _ _ _ n1 A1 rw' p⟩
end
/-! ### what the text says of the refusals -/
/-- the refusals of the program -/
def excNames : List Str := ["BadBook", "BadCalendar", "BadFeast", "BadRow", "BadHouse", "BadNumber", "NoDay", "NoRow", "NoPiece", "TooTight", "NeverDone", "TooFar", "NoDeed", "BadText"]
def excB1 (K : PySem.W.Frag) (x : Str) : Bool := He.eqO (PySem.W.findIn K (.ref (He.ga K x)) "__getattribute__") (some (some (.builtin "BaseException.__getattribute__"))) && (He.eqO (PySem.W.findIn K (.ref (He.ga K x)) "__getattr__") (some none) &&
  (decide (PySem.W.subIn K (.ref (He.ga K x)) (.type "BaseException") = some true) && (PySem.W.hasDictIn K (He.ga K x) && (He.eqO (PySem.W.findIn K (.ref (He.ga K x)) "__class__") (some (some (.builtin "object.__class__"))) &&
  (He.eqO (PySem.W.specialIn K (.builtin "object.__class__") "__get__") (some (some (.builtin "getset_descriptor.__get__"))) && (decide (PySem.W.takesIn K (.builtin "object.__class__") = some true) && decide (PySem.W.mroIn K (He.ga K x) (.type "object") = some true)))))))
theorem excB1_ok {K : PySem.W.Frag} {x : Str} (h : excB1 K x = true) : ExcC K (He.ga K x) := by
  unfold excB1 at h
  obtain ⟨h1, h⟩ := He.ba h
  obtain ⟨h2, h⟩ := He.ba h
  obtain ⟨h3, h⟩ := He.ba h
  obtain ⟨h4, h⟩ := He.ba h
  obtain ⟨h5, h⟩ := He.ba h
  obtain ⟨h6, h⟩ := He.ba h
  obtain ⟨h7, h8⟩ := He.ba h
  exact ⟨He.eqO_ok h1, He.eqO_ok h2, of_decide_eq_true h3, h4, He.eqO_ok h5, He.eqO_ok h6, of_decide_eq_true h7, of_decide_eq_true h8⟩
/-- of each of some refusals, and of each two -/
structure KExc (K : PySem.W.Frag) (xs : List Str) : Prop where
  ec : ∀ x ∈ xs, ExcC K (He.ga K x)
  re : ∀ x ∈ xs, PySem.W.exmOne K (.ref (He.ga K x)) (.ref (He.ga K "ReadError")) = some true
  ve : ∀ x ∈ xs, PySem.W.kitOne K (.ref (He.ga K x)) (.type "ValueError") = some true
  is : ∀ x ∈ xs, ∀ y ∈ excNames, PySem.W.kitOne K (.ref (He.ga K x)) (.ref (He.ga K y)) = some (decide (x = y))
  ge : ∀ x ∈ xs, PySem.W.kitOne K (.ref (He.ga K x)) (.ref (He.ga K "ReadError")) = some true
def kexcB (xs : List Str) (K : PySem.W.Frag) : Bool := xs.all fun x => excB1 K x && (decide (PySem.W.exmOne K (.ref (He.ga K x)) (.ref (He.ga K "ReadError")) = some true) && (decide (PySem.W.kitOne K (.ref (He.ga K x)) (.type "ValueError") = some true) &&
  ((excNames.all fun y => decide (PySem.W.kitOne K (.ref (He.ga K x)) (.ref (He.ga K y)) = some (decide (x = y)))) && decide (PySem.W.kitOne K (.ref (He.ga K x)) (.ref (He.ga K "ReadError")) = some true))))
theorem kexcB_ok {xs : List Str} {K : PySem.W.Frag} (h : kexcB xs K = true) : KExc K xs := by
  unfold kexcB at h
  rw [List.all_eq_true] at h
  refine ⟨fun x hx => ?_, fun x hx => ?_, fun x hx => ?_, fun x hx y hy => ?_, fun x hx => ?_⟩
  all_goals
    obtain ⟨h1, h2⟩ := He.ba (h x hx)
    obtain ⟨h3, h4⟩ := He.ba h2
    obtain ⟨h5, h6⟩ := He.ba h4
    obtain ⟨h7, h8⟩ := He.ba h6
  · exact excB1_ok h1
  · exact of_decide_eq_true h3
  · exact of_decide_eq_true h5
  · exact of_decide_eq_true (List.all_eq_true.mp h7 y hy)
  · exact of_decide_eq_true h8
/-- fields of a refusal -/
structure KXf (K : PySem.W.Frag) (x : Str) (fs : List Str) : Prop where
  xf : XfC K (He.ga K x)
  no : ∀ f ∈ fs, PySem.W.findIn K (.ref (He.ga K x)) f = some none
  ox : OexC K (He.ga K x)
def kxfB (x : Str) (fs : List Str) (K : PySem.W.Frag) : Bool := xfB K (He.ga K x) && (oexB x K && fs.all fun f => He.eqO (PySem.W.findIn K (.ref (He.ga K x)) f) (some none))
theorem kxfB_ok {x : Str} {fs : List Str} {K : PySem.W.Frag} (h : kxfB x fs K = true) : KXf K x fs := by
  unfold kxfB at h
  obtain ⟨h1, h2⟩ := He.ba h
  obtain ⟨h3, h4⟩ := He.ba h2
  exact ⟨xfB_ok h1, fun f hf => He.eqO_ok (List.all_eq_true.mp h4 f hf), oexB_ok h3⟩
end Dl
set_option Elab.async false
set_option linter.all false
set_option maxRecDepth 100000
/-! small rules: exceptions and None, == of texts -/
namespace Dl
open PySem L2 PyProof.Rows
section
variable {K : PySem.W.Frag} {B : Bs} {ρ : En} {μ : Mu} {te : TE} {P : D → Mu → Prop}
theorem np_exc {Q : Bool → Prop} {C : Addr} {gs : List (Str × D)} (h : Q false) : IsNP (.exc C gs) Q := np_f (by simp) h
theorem ro_eqS {i j : Str} (h1 : PyData.strOk i = true) (h2 : PyData.strOk j = true) (h : P (.bl (decide (i = j))) μ) : RO K (rEqD K) (.str i) (.str j) μ P := ro_eqD (n := 0) (m := 0) (.id _) (.id _) h1 h2 (by rw [eqvD_str]; exact h)
theorem ro_neS {i j : Str} (h1 : PyData.strOk i = true) (h2 : PyData.strOk j = true) (h : P (.bl (!decide (i = j))) μ) : RO K (rNeD K) (.str i) (.str j) μ P := ro_neD (n := 0) (m := 0) (.id _) (.id _) h1 h2 (by rw [eqvD_str]; exact h)
theorem ro_eqSS {i : Str} (h1 : PyData.strOk i = true) (h : P (.bl true) μ) : RO K (rEqD K) (.str i) (.str i) μ P := ro_eqS h1 h1 (by simpa using h)
theorem ro_neSS {i : Str} (h1 : PyData.strOk i = true) (h : P (.bl false) μ) : RO K (rNeD K) (.str i) (.str i) μ P := ro_neS h1 h1 (by simpa using h)
theorem ro_eqSd {i j : Str} (h1 : PyData.strOk i = true) (h2 : PyData.strOk j = true) (hn : i ≠ j) (h : P (.bl false) μ) : RO K (rEqD K) (.str i) (.str j) μ P := ro_eqS h1 h2 (by simpa [hn] using h)
theorem ro_neSd {i j : Str} (h1 : PyData.strOk i = true) (h2 : PyData.strOk j = true) (hn : i ≠ j) (h : P (.bl true) μ) : RO K (rNeD K) (.str i) (.str j) μ P := ro_neS h1 h2 (by simpa [hn] using h)
/-- fields of a caught exception -/
def XfP (K : PySem.W.Frag) (n : Str) (x : D) (Q : D → Prop) : Prop := ∃ Cc gs d, x = .exc Cc gs ∧ XfC K Cc ∧ PySem.W.findIn K (.ref Cc) n = some none ∧ gs.lookup n = some d ∧ Q d
theorem de_xfZ {n : Str} (h : DE K B te ρ μ fun x μ1 => XfP K n x fun d => P d μ1) : DE K B (tXfK K n te) ρ μ P := de_xf h
theorem xf_i {n x : Str} {fs : List Str} {gs : List (Str × D)} {d : D} {Q : D → Prop} (k : KXf K x fs) (hn : n ∈ fs) (hl : gs.lookup n = some d) (h : Q d) : XfP K n (.exc (He.ga K x) gs) Q := ⟨_, _, _, rfl, k.xf, k.no _ hn, hl, h⟩
end
end Dl
set_option Elab.async false
set_option linter.all false
set_option maxRecDepth 100000
/-! range downwards -/
set_option Elab.async false
set_option linter.all false
set_option maxRecDepth 100000
/-! tuple(x), a number in a tuple, list(dict) -/
set_option Elab.async false
set_option linter.all false
set_option maxRecDepth 100000
set_option maxHeartbeats 2000000
/-! lambdas handed to a def -/
namespace Dl
open PySem PySem.Spec PyProof.Rows L2
/-- the table at p grows by the code object c, or stays -/
def TabUp (p : Addr) (q : Str) (c : Addr) (H H' : Hp) : Prop := H' c = some (LamX.CodeO c q) ∧ ((H' = H ∧ ∃ (ps : Array Value) (z : Pos), H p = some (.tbl ps) ∧ codeAmong z ps.toList = some (.ref c)) ∨ ∃ (ps : Array Value) (z : Pos), H p = some (.tbl ps) ∧ H c = none ∧ H' = upd (upd H p (.tbl (ps ++ #[rawInt z.line, rawInt z.col, .ref c]))) c (LamX.CodeO c q))
section
variable {X : Cx} {pins : List (Addr × Obj)} {σ : L2.St} {H : Hp} {s : Shared}
/-- a lambda is made; its table is told exactly -/
theorem lam_mk {c p : Addr} {ar : Arguments} {bd : Expr} {sc : Scope} {pos : Pos} {Q E : Value → Shared → Prop} (I : Inv X pins σ H s) (tb : LamX.TabB X.base X.mg c p) (hc : X.env.code = .ref c) (ht : LamX.TabS H p (X.env.qual ++ "<lambda>"))
    (h0 : defaultsOf ar X.env = ([], [])) (hf : ∀ y ∈ sc.names, y.2 = .free → ∃ c, X.env.cells.lookup y.1 = some c)
    (go : ∀ (f c1 : Addr) (m1 t1 : Value) (H1 : Hp) (s1 : Shared), Inv X pins σ H1 s1 → TabUp p (X.env.qual ++ "<lambda>") c1 H H1 → s1.heap.get? f = some (PySem.W.kla_obj "<lambda>" (X.env.qual ++ "<lambda>") ar bd sc (cloFrom X.env.cells sc.names []) m1 c1 t1) → H1 f = none → f ∉ frs X.stack → Q (.ref f) s1) :
    wpAny (model X.prog X.w) X.A (eval (.Lambda ar bd sc pos) X.env) Q E s := by
  obtain ⟨ps, e1, e2, e3⟩ := ht
  have e1' : s.heap.get? p = some { cls := .none, data := .fields ps } := I.hok p _ e1
  have b1 : s.heap.BuiltinsAt X.mg p := tb.bm.keeps I.bk
  have out : ∀ f, s.heap.objs.size ≤ f → f ∉ frs X.stack := fun f hf z => (List.mem_cons.mp (I.stkSub _ z)).elim (fun e => Nat.lt_irrefl _ (Nat.lt_of_lt_of_le (e ▸ I.lt) hf)) (fun e => I.nofs hf e)
  refine PySem.W.kla_eval h0 ?_
  cases hq : codeAmong pos ps.toList with
  | some cv =>
    obtain ⟨c1, rfl, hco⟩ := e3 pos cv hq
    refine PySem.W.kla_makeFunctionHit (mg := X.mg) (c := c) (P := p) (ps := ps) (closure_ok hf) I.ok.glob (I.mod.glob.keeps I.bk) hc (tb.code.keeps I.bk) e1' e2 hq b1 fun t1 h' tk k1 k2 => ?_
    refine go h'.objs.size c1 _ t1 H _ (I.kept fun b o e => Heap.get?_push_of_some _ (k1 b o e)) ⟨hco, .inl ⟨rfl, ps, pos, e1, hq⟩⟩ (Heap.get?_push_size _ rfl) (I.hok.fresh k2) (out _ k2)
  | none =>
    refine PySem.W.kla_makeFunction (mg := X.mg) (c := c) (P := p) (ps := ps) (closure_ok hf) I.ok.glob (I.mod.glob.keeps I.bk) hc (tb.code.keeps I.bk) e1' e2 hq tb.gP b1 fun c1 t1 h' tk k1 k2 k3 k4 k5 => ?_
    obtain ⟨c2, oc, vs, t, z, k6, k7, k8⟩ := k4
    cases z
    have k9 : s.heap.objs.size ≤ h'.objs.size := Nat.le_trans k2 (Nat.le_of_lt k3)
    have n1 : H c1 = none := I.hok.fresh k2
    refine go h'.objs.size c1 _ t1 (upd (upd H p (.tbl (ps ++ #[rawInt pos.line, rawInt pos.col, .ref c1]))) c1 (LamX.CodeO c1 (X.env.qual ++ "<lambda>"))) _
      (LamX.inv_table (t' := tk) (more := #[rawInt pos.line, rawInt pos.col, .ref c1]) I e1 (fun b o hb e => Heap.get?_push_of_some _ (k1 b o hb e)) (Heap.get?_push_of_some _ k5) k2 ⟨oc, vs, t, Heap.get?_push_of_some _ k6, k7, k8⟩)
      ⟨upd_same, .inr ⟨ps, pos, e1, n1, rfl⟩⟩ (Heap.get?_push_size _ rfl) ?_ (out _ k9)
    rw [upd_ne (Nat.ne_of_gt k3), upd_ne (Nat.ne_of_gt (Nat.lt_of_lt_of_le (Heap.lt_size e1') k9))]
    exact I.hok.fresh k9
end
/-- nothing is let out -/
abbrev NoX : XK := fun _ _ _ => False
/-- what the def that takes a deed makes of the deed's reading -/
def Gives (X : Cx) (Ng : List Str) (x : Str) (sg : Scope) (g : Addr) (cdg : Value) (bg : List Stmt) (a : Str) (q : Str) (TT : (XK → Hp → VK → Prop) → Addr → Hp → VK → Prop) : Prop :=
  ∀ (f c1 : Addr) (s : Shared) (H : Hp) (Q : VK) (tl : XK → Hp → VK → Prop),
    (∀ (W : WX) (pn : List (Addr × Obj)) (xe : Value → Shared → Prop) (E : XK) (p1 p2 : Pos), Takes ((cxOf (L2.CX X.prog X.w) X.prog X.w X.K X.mg X.base Ng x sg g cdg X.A X.stack s H NoX).tr pn xe) W → (∀ cls d σ' H', E cls d H' → W cls d σ' H') →
      PE ((cxOf (L2.CX X.prog X.w) X.prog X.w X.K X.mg X.base Ng x sg g cdg X.A X.stack s H NoX).tr pn xe) (.Call (.Name a p1) [] [] p2) (fun σZ HZ Q => σZ[0]? = some (some (.ref f)) ∧ HZ c1 = some (LamX.CodeO c1 q) ∧ tl E HZ Q)) →
    TT tl c1 H Q → ∃ t, PSs (cxOf (L2.CX X.prog X.w) X.prog X.w X.K X.mg X.base Ng x sg g cdg X.A X.stack s H NoX) bg t ∧ t { nx := fun _ H' => Q .non H', rt := Q } (L2.start Ng [.ref f]) H
def tLm (p : Addr) (q : Str) (TT : (XK → Hp → VK → Prop) → Addr → Hp → VK → Prop) (t : XK → TE) : TE := fun σ H Q => LamX.TabS H p q ∧ ∀ c1 H1, TabUp p q c1 H H1 → TT (fun E H' Q' => t E σ H' Q') c1 H1 Q
section
variable {X : Cx}
/-- x(lambda: body) -/
theorem pe_lm {TT : (XK → Hp → VK → Prop) → Addr → Hp → VK → Prop} {x a q : Str} {g c p : Addr} {k : Nat} {st : Stmt} {fd : FuncData} {Ng : List Str} {ar : Arguments} {bd : Expr} {sc : Scope} {t : XK → TE} {p1 p2 p3 : Pos} (hg : Gl X x) (hm : X.mg x = some (.ref g))
    (F : FunD X.K x x (defArgs st) (defBody st) (defScope st) [] [] g fd) (hb : L2.Binds X.K fd [a] []) (Sg : FnScope Ng [a] (defScope st)) (hNg : Ng[0]? = some a) (hva : Vis (defScope st) a)
    (hq : X.env.qual ++ "<lambda>" = q) (hG : ∀ cdv, Room (k + 1) (X.A.deeper (envOfC x (defScope st) 0 g cdv)) → Gives X Ng x (defScope st) g cdv (defBody st) a q TT)
    (tb : LamX.TabB X.base X.mg c p) (hc : X.env.code = .ref c) (hr : Room (k + 2) X.A) (L : LamX.LamS X.env.scope sc) (h0 : defaultsOf ar X.env = ([], []))
    (hbind : ∀ (q : Str) (cl : List (Str × Addr)) (pm cv ctv : Value), bindArgs (PySem.W.kla_fn "<lambda>" q ar bd sc cl pm cv ctv) ⟨[], []⟩ = pure [])
    (hbody : ∀ (A : Around) (outer : List Env) (s : Shared) (H : Hp) (E : XK) (f c1 : Addr), Room k (A.deeper (LamX.lamEnv X sc s.heap.objs.size f c1)) → PE (LamX.lamCx X A outer s H E sc f c1) bd (t E))
    (hdb : (x == ("__debug__" : Str)) = false := by decide) (hd : (a == ("__debug__" : Str)) = false := by decide) (hcd : (a == ("__classdict__" : Str)) = false := by decide) :
    PE X (.Call (.Name x p1) [.Lambda ar bd sc p2] [] p3) (tLm p q TT t) := by
  subst hq
  obtain ⟨oc, od, dV, kV, doc, pm, an, cdv, ct, osl, rfl, lk, hcg, _, _⟩ := F.ex
  refine ⟨fun pins s σ H Q I h => ?_⟩
  obtain ⟨hT, h⟩ := h
  refine wpAny_Call_Name_kw (ld_glob I hg hm (PySem.W.callWith_K (h₀ := X.base) I.ok.mod.kin F.kp ?_ (by rfl) (by rfl)) hdb)
  show wpAny _ _ (spliced ((false, eval (.Lambda ar bd sc p2) X.env) :: backTo p3 (starEach [] X.env))) _ _ s
  refine Calls.spliced_cons (lam_mk I tb hc hT h0 (L.has I.ok) fun f c1 m1 t1 H1 s1 I1 up hf hfn hfr => Calls.spliced_nil ⟨I1.kIn, ?_⟩)
  refine wpAny_call (codeAny_mono (LamX.run_ofS (CX := L2.CX X.prog X.w) (E := NoX) (Q := Q) (N := Ng) (ps := [a]) (us := [.ref f]) (vs := [.ref f]) lk hcg Sg hr I1.env0 (hb s1 [.ref f] I1.kIn rfl) (.cons rfl .nil) rfl fun hr' => ?_) fun r s2 hq => ?_)
  · exact hG cdv ⟨hr'.1, hr'.2, hr'.3⟩ f c1 s1 H1 Q (fun E H' Q' => t E σ H' Q') (fun W pn xe E p1 p2 tk hW => LamX.pe_act (i := 0) I1 L hf hfn hfr (hbind _ _ _ _ _) tk hW hr' (fun A outer s H hr2 => hbody A outer s H E f c1 hr2) hNg hva hd hcd) (h c1 H1 up)
  · cases r with
    | error e =>
      obtain ⟨_, _, _, _, _, _, _, _, _, _, _, _, z⟩ := hq
      exact z.elim
    | ok fl =>
      cases fl with
      | ret u => exact I1.after hq
      | next => exact False.elim hq
      | brk => exact False.elim hq
      | cont => exact False.elim hq
end
end Dl
set_option Elab.async false
set_option linter.all false
set_option maxRecDepth 100000
set_option maxHeartbeats 2000000
/-! lambdas over data; the head and the end with tables -/
namespace Dl
open PySem PySem.Spec PyProof.Rows L2
theorem takes_len {X : Cx} {W : WX} (tk : Takes X W) : Takes X (fun cls d _ H => ∀ σ : L2.St, σ.length = X.N.length → W cls d σ H) := fun u s' ⟨a, B, sI, pins, σ, H, cls, d, e, I, nb, up, sky, na, os, ag, w⟩ => tk u s' ⟨a, B, sI, pins, σ, H, cls, d, e, I, nb, up, sky, na, os, ag, w σ I.len⟩
/-- the deed, called in a def of n names -/
def tAct (n : Nat) (f c1 : Addr) (q : Str) (tl : XK → Hp → VK → Prop) (W : WX) : TE := fun σ H Q => σ[0]? = some (some (.ref f)) ∧ H c1 = some (LamX.CodeO c1 q) ∧ tl (fun cls d H' => ∀ σ' : L2.St, σ'.length = n → W cls d σ' H') H Q
def TTd (Ng : List Str) (q : Str) (tB : (WX → TE) → TS) : (XK → Hp → VK → Prop) → Addr → Hp → VK → Prop := fun tl c1 H Q => ∀ f, tB (tAct Ng.length f c1 q tl) { nx := fun _ H' => Q .non H', rt := Q } (L2.start Ng [.ref f]) H
theorem gives_of {X : Cx} {Ng : List Str} {x : Str} {sg : Scope} {g : Addr} {cdg : Value} {bg : List Stmt} {a q : Str} {tB : (WX → TE) → TS}
    (hb : ∀ (s : Shared) (H : Hp) (td : WX → TE), (∀ (W : WX) (pn : List (Addr × Obj)) (xe : Value → Shared → Prop) (p1 p2 : Pos), Takes ((cxOf (L2.CX X.prog X.w) X.prog X.w X.K X.mg X.base Ng x sg g cdg X.A X.stack s H NoX).tr pn xe) W → PE ((cxOf (L2.CX X.prog X.w) X.prog X.w X.K X.mg X.base Ng x sg g cdg X.A X.stack s H NoX).tr pn xe) (.Call (.Name a p1) [] [] p2) (td W)) →
      PSs (cxOf (L2.CX X.prog X.w) X.prog X.w X.K X.mg X.base Ng x sg g cdg X.A X.stack s H NoX) bg (tB td)) : Gives X Ng x sg g cdg bg a q (TTd Ng q tB) := fun f c1 s H Q tl act h =>
  ⟨_, hb s H (tAct Ng.length f c1 q tl) (fun W pn xe p1 p2 tk => act _ pn xe _ p1 p2 (takes_len tk) fun cls d _ H' e => e), h f⟩
section
variable {K : PySem.W.Frag} {B : Bs} {ρ : En} {μ : Mu} {P : D → Mu → Prop}
theorem set_same {o : MO} : ∀ {μ : Mu} {k : Nat}, μ[k]? = some o → μ.set k o = μ
  | [], _, h => by cases h
  | x :: r, 0, h => by cases h; rfl
  | x :: r, k + 1, h => by rw [List.set_cons_succ, set_same (by simpa using h)]
/-- the state behind a lambda's making -/
theorem As.lam {G H H1 : Hp} {al : List Addr} {k : Nat} {p c1 : Addr} {q : Str} (A : As K G H al μ) (hk : μ[k]? = some (.tab p q)) (up : TabUp p q c1 H H1) : ∃ G1, Nx G H al G1 H1 al ∧ As K G1 H1 al μ ∧ G1 c1 = some (LamX.CodeO c1 q) := by
  obtain ⟨a, ha, g, rfl, ps, e, tr, r⟩ := A.get hk
  obtain ⟨_, ⟨rfl, ps', z, e', hc⟩ | ⟨ps', z, e', hn, rfl⟩⟩ := up
  · rw [e] at e'; cases e'
    obtain ⟨c, ec, gc⟩ := r z _ hc
    cases ec
    exact ⟨G, .refl, A, gc⟩
  · rw [e] at e'; cases e'
    have nac : a ≠ c1 := ne_of_none e hn
    obtain ⟨A1, n1⟩ := A.frz (o := LamX.CodeO c1 q) hn
    have eL : (ps ++ #[rawInt z.line, rawInt z.col, .ref c1]).toList = ps.toList ++ [rawInt z.line, rawInt z.col, .ref c1] := by simp
    obtain ⟨A2, n2⟩ := A1.put (o := .tbl (ps ++ #[rawInt z.line, rawInt z.col, .ref c1])) (m' := .tab a q) ha hk (by simp) ⟨by rw [upd_ne nac]; exact g, rfl, _, upd_same, by rw [eL]; exact PySem.TriplesOk_snoc _ _ _ _ tr, fun pos cv hcv => by
      rw [eL] at hcv
      rcases LamX.among_app _ tr hcv with y | y
      · obtain ⟨c, ec, gc⟩ := r pos cv y
        exact ⟨c, ec, n1.g _ _ gc⟩
      · exact ⟨c1, y, upd_same⟩⟩
    rw [set_same hk, upd_comm nac.symm] at A2
    rw [upd_comm nac.symm] at n2
    exact ⟨_, n1.trans n2, A2, upd_same⟩
theorem de_lm {k : Nat} {p : Addr} {q : Str} {Ng : List Str} {tB : (WX → TE) → TS} {t : XK → TE} (hk : μ[k]? = some (.tab p q)) (hN : 1 ≤ Ng.length)
    (h : ∀ B' : Bs, (∀ G H al, B'.le G H al → B.le G H al) → ∀ (f : Addr) (td : WX → TE),
      (∀ (B2 : Bs) (W : WX) (PW : PWT) (ρt : En) (μ1 : Mu) (Pd : D → Mu → Prop), (∀ G H al, B2.le G H al → B'.le G H al) → WAg K B2 PW W → ρt[0]? = some (some (.loc f)) →
        (∀ E', XAg K B2 (fun C fs μ' => PW C fs (List.replicate Ng.length none) μ') E' → DE K B2 (t E') ρ μ1 Pd) → DE K B2 (td W) ρt μ1 Pd) →
      DS K B' (tB td) (startD Ng [.loc f]) μ { nx := fun _ μ' => P .non μ', rt := P }) : DE K B (tLm p q (TTd Ng q tB) t) ρ μ P := fun σ G H al hB hσ hA Q hQ => by
  obtain ⟨a, ha, g, e0, ps, e, tr, r⟩ := hA.get hk
  subst e0
  refine ⟨⟨ps, e, tr, fun pos cv hc => let ⟨c, e1, e2⟩ := r pos cv hc; ⟨c, e1, hA.sub _ _ e2⟩⟩, fun c1 H1 up f => ?_⟩
  obtain ⟨G1, n1, A1, gc⟩ := hA.lam hk up
  refine h ⟨G1, H1, al⟩ (fun _ _ _ n => hB.trans (n1.trans n)) f _ ?_ _ G1 H1 al .refl (start_rp (.cons (.loc f) .nil)) A1 _ ⟨fun σ' ρ' μ' G' H' al' n _ A' p => hQ .non .non μ' G' H' al' (n1.trans n) A' .non p, hQ.nx n1, fun _ _ _ _ _ _ _ _ _ p => p.elim, fun _ _ _ _ _ _ _ _ _ p => p.elim⟩
  intro B2 W PW ρt μ1 Pd hBB hW h0 hE σt Gt Ht alt hBt hσt hAt Qt hQt
  have nt : Nx G1 H1 al Gt Ht alt := hBB _ _ _ hBt
  obtain ⟨v, ev, rv⟩ := hσt.2 0 _ h0
  cases rv
  refine ⟨ev, hAt.sub _ _ (nt.g _ _ gc), ?_⟩
  refine hE (fun cls d H' => ∀ σ' : L2.St, σ'.length = Ng.length → W cls d σ' H') (fun C fs dd μ' G' H' al' n' A' xr px σ' hl => ?_) σ Gt Ht alt hBt ((hσ.nx n1).nx nt) hAt Qt hQt
  exact hW C fs dd σ' _ μ' G' H' al' n' ⟨by rw [hl, List.length_replicate], fun i d ei => by
    rw [List.getElem?_replicate] at ei
    split at ei
    · cases ei
    · cases ei⟩ A' xr px
/-- a def's rule, its code object told -/
theorem fn_DDc {P : Program} {w : World} {mg : Str → Option Value} {base : Heap} {x qual : Str} {st : Stmt} {dvs : List V} {kws : List (Str × V)} {at_ : Str × Option Str} {fd : FuncData} {N ps : List Str} {k : Nat} {C : CT} {t : XK → TS} (F : FunD K x qual (defArgs st) (defBody st) (defScope st) dvs kws (He.fAd K at_) fd) (S : FnScope N ps (defScope st)) (len : ∀ ds μ P PX, C ds μ P PX → ds.length = ps.length) (hN : ps.length ≤ N.length)
    (body : ∀ (A : Around) (outer : List Env) (s : Shared) (H : Hp) (E : XK), Room k (A.deeper (envOfC qual (defScope st) s.heap.objs.size (He.fAd K at_) (.ref (He.codeOf K at_)))) → PSs (cxOf (L2.CX P w) P w K mg base N qual (defScope st) (He.fAd K at_) (.ref (He.codeOf K at_)) A outer s H E) (defBody st) (t E))
    (sem : ∀ ds μ P PX, C ds μ P PX → MuCl μ μ.length → clL ds μ.length = true → ∀ B E, XAg K B (RetX μ.length PX) E → DS K B (t E) (startD N ds) μ (fnE μ.length P)) : FnOk P w K mg base (L2.CX P w) (k + 1) (He.fAd K at_) fd ps (spD K C) := by
  obtain ⟨oc, od, dV, kV, doc, pm, an, cdv, ct, osl, rfl, lk, hcd, _, _⟩ := F.ex
  obtain ⟨c, rfl⟩ := He.codeIn_ref hcd
  have ec : He.codeOf K at_ = c := He.codeOf_eq lk rfl
  subst ec
  refine fn_of lk hcd S (fun vs H Q E h => ?_) fun A outer s H vs Q E hr h => ⟨t E, body A outer s H E hr, sem_of (fun ds μ P PX c => by rw [len ds μ P PX c]; exact hN) sem h⟩
  obtain ⟨G, al, ds, μ, P, PX, A, r, c, _⟩ := h
  rw [r.length]
  exact len ds μ P PX c
end
/-! ### the head -/
structure SaysT (tf : List He.Defn) (h : Heap) (K : PySem.W.Frag) : Prop where
  hd : ∀ p ∈ tf, PySem.W.codeHdIn K (He.cT K p).1 (He.cT K p).2 = true
  out : ∀ p ∈ tf, K.lookup (He.cT K p).2 = none
  empty : ∀ p ∈ tf, h.get? (He.cT K p).2 = some { cls := .none, data := .fields #[] }
/-! ### the end -/
/-- the tables of some makers -/
def tabsM (K : PySem.W.Frag) (tq : List (He.Defn × Str)) : Mu := tq.map fun z => .tab (He.cT K z.1).2 z.2
theorem law_spT {K : PySem.W.Frag} {H : Hp} {a : Addr} {ns : List Int} {C : CT} {tq : List (He.Defn × Str)} (hn : (tq.map fun z => (He.cT K z.1).2).Nodup) (hT : ∀ z ∈ tq, H (He.cT K z.1).2 = some (.tbl #[])) (hK : ∀ z ∈ tq, K.lookup (He.cT K z.1).2 = none) (hS : SqL K H a (ns.map V.int)) (h : C [.rdl (ns.map D.int)] (tabsM K tq) (fun d _ => d = .bl true) (fun _ _ _ => False)) : spD K C [.ref a] H (fun v _ => v = .bl true) (fun _ _ _ => False) := by
  let al := tq.map fun z => (He.cT K z.1).2
  let G : Hp := fun b => if b ∈ al then none else H b
  have mem : ∀ b ∈ al, H b = some (.tbl #[]) := fun b hb => by
    obtain ⟨z, hz, rfl⟩ := List.mem_map.mp hb
    exact hT z hz
  have gS : SqL K G a (ns.map V.int) := by
    have na : ∀ o : HO, H a = some o → (∀ ps, o ≠ .tbl ps) → G a = some o := fun o e ne => by
      show (if a ∈ al then none else H a) = some o
      rw [if_neg (fun m => by rw [mem a m] at e; exact ne _ (Option.some.inj e).symm)]
      exact e
    rcases hS with (h | ⟨o, h⟩) | h
    · exact .inl (.inl (na _ h fun ps z => by cases z))
    · exact .inl (.inr ⟨o, na _ h fun ps z => by cases z⟩)
    · exact .inr h
  refine ⟨G, al, [.rdl (ns.map D.int)], tabsM K tq, _, _, ⟨fun b o e => ?_, hn, by simp [al, tabsM], fun b hb => by rw [mem b hb]; simp, fun k b o e1 e2 => ?_⟩, .cons (.rdl gS (Rps.of_ints ns)) .nil, h, ?_, ?_⟩
  · have e' : (if b ∈ al then none else H b) = some o := e
    split at e'
    · cases e'
    · exact e'
  · simp only [al, tabsM, List.getElem?_map] at e1 e2
    cases q : tq[k]? with
    | none => rw [q] at e1; cases e1
    | some z =>
      rw [q] at e1 e2
      cases e1; cases e2
      have hb : (He.cT K z.1).2 ∈ al := List.mem_map.mpr ⟨z, List.mem_of_getElem? q, rfl⟩
      exact ⟨if_pos hb, rfl, #[], mem _ hb, True.intro, fun pos cv hc => by
        have z' : codeAmong pos [] = some cv := hc
        simp [codeAmong] at z'⟩
  · intro v d μ' G' H' al' _ _ r p
    subst p
    cases r
    rfl
  · intro C fs dd μ' G' H' al' _ _ _ p
    exact p
end Dl
set_option Elab.async false
set_option linter.all false
set_option maxRecDepth 100000
/-! str(i) -/
set_option Elab.async false
set_option linter.all false
set_option maxRecDepth 100000
/-! x in l, items of any depth -/
set_option Elab.async false
set_option linter.all false
set_option maxRecDepth 100000
/-! the head's facts over a told list of objects -/
namespace Dl
open PySem L2 PyProof.Rows
/-! with tables -/
def obsLY (as : List Addr) (fa : List He.Fa) (fn : List He.DefD) (ex : List (PySem.W.Frag → Bool)) (tf : List He.Defn) (g : Addr → Option Obj) : AlX := (He.obsD fa fn (He.frT g as), exAll ex (He.frT g as) && He.tabsB g tf (He.frT g as))
theorem saysL_of {as : List Addr} {tf : List He.Defn} {h : Heap} (e : He.tabsB h.get? tf (He.frT h.get? as) = true) : SaysT tf h (He.frT h.get? as) := by
  have each : ∀ p ∈ tf, PySem.W.codeHdIn (He.frT h.get? as) (He.cT (He.frT h.get? as) p).1 (He.cT (He.frT h.get? as) p).2 = true ∧ ∃ o, h.get? (He.cT (He.frT h.get? as) p).2 = some o ∧ He.emptyTab o = true := fun p hp => by
    obtain ⟨h1, h2⟩ := He.ba (List.all_eq_true.mp e p hp)
    refine ⟨h1, ?_⟩
    split at h2
    · rename_i o eo
      exact ⟨o, eo, h2⟩
    · cases h2
  exact ⟨fun p hp => (each p hp).1, fun p hp => let ⟨_, o, e1, e2⟩ := each p hp; He.frT_none e1 e2, fun p hp => let ⟨_, o, e1, e2⟩ := each p hp; e1.trans (congrArg some (He.emptyTab_eq e2))⟩
def hookLY (as : List Addr) (fa : List He.Fa) (fn : List He.DefD) (ex : List (PySem.W.Frag → Bool)) (tf : List He.Defn) : PySem.W.Hook where
  α := AlX
  obs := fun s => obsLY as fa fn ex tf s.heap.get?
  val := fun _ => (He.valD fn, true)
  says := fun _ h => ∃ K : PySem.W.Frag, K.In h ∧ He.SaysD fa fn K ∧ exAll ex K = true ∧ SaysT tf h K
  of := fun _ _ e => ⟨_, He.frT_in, congrArg Prod.fst e, (He.ba (congrArg Prod.snd e)).1, saysL_of (He.ba (congrArg Prod.snd e)).2⟩
  keeps := fun _ _ _ ⟨K, hK, c, d, e⟩ k => ⟨K, PySem.W.Frag.In.keeps hK k, c, d, e.hd, e.out, fun p hp => k _ _ (e.empty p hp)⟩
theorem obsLY_eq {as : List Addr} {fa : List He.Fa} {fn : List He.DefD} {ex : List (PySem.W.Frag → Bool)} {tf : List He.Defn} {g : Addr → Option Obj} {s : Shared} (h : ∀ a, g a = s.heap.get? a) : obsLY as fa fn ex tf g = (hookLY as fa fn ex tf).obs s := by
  have e : g = s.heap.get? := funext h
  rw [e] <;> rfl
/-! ### the run, looked at thrice -/
/-! ### a slice as a target; room -/
theorem fn_tyA {K : PySem.W.Frag} {f : Addr} (h : PySem.W.isFn K (.ref f) = true) : PySem.W.typeIn K (.ref f) = some (.type "function") := beq_iff_eq.mp h
end Dl
set_option Elab.async false
set_option linter.all false
set_option maxRecDepth 100000
/-! a dict that is walked stands locked for that time -/
namespace Dl
open PySem L2
/-- G2 is G1 but for locks of dicts -/
def Lk (G G' : Hp) : Prop := ∀ b o, G b = some o → G' b = some o ∨ ((∃ kvs, o = .dK kvs ∨ ∃ o', o = .frz o' (.dK kvs)) ∧ ∀ kvs, Rd G b (.dK kvs) → Rd G' b (.dK kvs))
section
variable {K : PySem.W.Frag} {G G' : Hp} {al al' : List Addr}
theorem Lk.plain (s : Lk G G') {b : Addr} {o : HO} (h : G b = some o) (n1 : ∀ kvs, o ≠ .dK kvs) (n2 : ∀ o' kvs, o ≠ .frz o' (.dK kvs)) : G' b = some o := by
  rcases s b o h with z | ⟨⟨kvs, z | ⟨o', z⟩⟩, _⟩
  · exact z
  · exact absurd z (n1 kvs)
  · exact absurd z (n2 o' kvs)
theorem Lk.rd (s : Lk G G') {b : Addr} {kvs : List (Key × V)} (h : Rd G b (.dK kvs)) : Rd G' b (.dK kvs) := by
  rcases h with h | ⟨o, h⟩
  · rcases s b _ h with z | ⟨_, z⟩
    · exact .inl z
    · exact z _ (.inl h)
  · rcases s b _ h with z | ⟨_, z⟩
    · exact .inr ⟨o, z⟩
    · exact z _ (.inr ⟨o, h⟩)
end
end Dl
set_option Elab.async false
set_option linter.all false
set_option maxRecDepth 100000
/-! Dl37: == and != of things of own classes, any answer -/
namespace Dl
open PySem L2 PyProof.Rows
section
variable {K : PySem.W.Frag} {μ : Mu} {P : D → Mu → Prop} {x y : D} {C : Addr} {gs : List (Str × D)} {tb : Value} {Ct : CT} {E : XK}
/-- a thing of the class at C -/
def InO (μ : Mu) (C : Addr) (x : D) : Prop := ∃ gs, x = .obj C gs ∨ ∃ k, x = .own k ∧ μ[k]? = some (.ins C gs)
theorem InO.get {G H : Hp} {al : List Addr} {v : V} (h : InO μ C x) (A : As K G H al μ) (r : Rp K G al v x) : ∃ a dx fs, v = .ref a ∧ H a = some (.ins C dx fs) := by
  obtain ⟨gs, rfl | ⟨k, rfl, hk⟩⟩ := h
  · cases r with
    | obj e rf => exact ⟨_, _, _, rfl, A.sub _ _ e⟩
  · obtain ⟨a, ha, ok⟩ := A.get hk
    cases r with
    | own e =>
      rw [ha] at e
      cases e
      obtain ⟨ga, dx, fs, hv, rf⟩ := ok
      exact ⟨_, _, _, rfl, hv⟩
end
end Dl
set_option Elab.async false
set_option linter.all false
set_option maxRecDepth 100000
/-! the top's run in pieces, the state behind each told -/
namespace Dl
open PySem PySem.W PySem.Calls PyProof.Rows HandSHeadRun
section
variable (st : SharedT → Thread → Option (SharedT × Thread)) (n0 : Nat) (ann : Option Value)
/-- so many steps, none of them the last one -/
def stepsF : Nat → SharedT → Thread → Option (SharedT × Thread)
  | 0, s, t => some (s, t)
  | m + 1, s, t => match through t with
    | true => none
    | false => match stepOk n0 ann t with
      | false => none
      | true => match st s t with
        | none => none
        | some (s2, t2) => frS s2 fun s2 => stepsF m s2 t2
/-- to the end of a piece of the text -/
def pieceF (b : Nat) : Nat → SharedT → Thread → Option (Flow × SharedT × Code × Pos)
  | 0, _, _ => none
  | m + 1, s, t => match endAt b t with
    | some f => some (f, s, t.code, t.pos)
    | none => match stepOk n0 ann t with
      | false => none
      | true => match st s t with
        | none => none
        | some (s2, t2) => frS s2 fun s2 => pieceF b m s2 t2
end
section
variable {tb : String → Option Builtin} {p : Program} {w : World} {n0 : Nat} {ann : Option Value}
theorem stepsF_ok : ∀ {m : Nat} {s s' : SharedT} {t t' : Thread}, stepsF (stepT (denote tb) p w) n0 ann m s t = some (s', t') → topGo tb p w n0 ann m s.abs t = some (s'.abs, t')
  | 0, _, _, _, _, h => by cases h; rfl
  | m + 1, s, s', t, t', h => by
    unfold stepsF at h
    unfold topGo
    cases e1 : through t with
    | true => rw [e1] at h; cases h
    | false =>
      cases e2 : stepOk n0 ann t with
      | false => rw [e1, e2] at h; cases h
      | true =>
        cases e3 : stepT (denote tb) p w s t with
        | none => rw [e1, e2, e3] at h; cases h
        | some r =>
          rw [e1, e2, e3] at h
          have h2 : (frS r.1 fun s2 => stepsF (stepT (denote tb) p w) n0 ann m s2 r.2) = some (s', t') := h
          rw [frS_eq] at h2
          have e4 := stepT_spec (s' := r.1) (t' := r.2) e3
          simp only [e4]
          exact stepsF_ok h2
theorem pieceF_ok {b : Nat} : ∀ {m : Nat} {s s' : SharedT} {t : Thread} {f : Flow} {c : Code} {q : Pos}, pieceF (stepT (denote tb) p w) n0 ann b m s t = some (f, s', c, q) → segRun tb p w n0 ann b m s.abs t = some (f, s'.abs, c, q)
  | 0, _, _, _, _, _, _, h => by cases h
  | m + 1, s, s', t, f, c, q, h => by
    unfold pieceF at h
    unfold segRun
    cases e1 : endAt b t with
    | some g => rw [e1] at h; cases h; rfl
    | none =>
      cases e2 : stepOk n0 ann t with
      | false => rw [e1, e2] at h; cases h
      | true =>
        cases e3 : stepT (denote tb) p w s t with
        | none => rw [e1, e2, e3] at h; cases h
        | some r =>
          rw [e1, e2, e3] at h
          have h2 : (frS r.1 fun s2 => pieceF (stepT (denote tb) p w) n0 ann b m s2 r.2) = some (f, s', c, q) := h
          rw [frS_eq] at h2
          have e4 := stepT_spec (s' := r.1) (t' := r.2) e3
          simp only [e4]
          exact pieceF_ok h2
end
/-- the step, by the library's twins -/
noncomputable abbrev stQ (p : Program) (w : World) : SharedT → Thread → Option (SharedT × Thread) := stepQ (denQ tabQ) p w
theorem stQ_eq (p : Program) (w : World) : stepT (denote treeTable) p w = stQ p w := by
  unfold stQ
  rw [stepQ_eq, denQ_eq, tabQ_eq]
abbrev cdOf (p : Program) (env : Env) : Code := .body (behindTheImports p) env
section
variable {p : Program} {w : World} {n0 : Nat} {ann : Option Value} {env : Env} {qp pos pos' : Pos} {S S' r : SharedT}
theorem cp_piece {a b m N : Nat} (h : pieceF (stQ p w) n0 ann 1 m S (piecesOf (((behindTheImports p).drop a).take b) env (cdOf p env) pos [topFrame qp]) = some (.next, S', cdOf p env, pos'))
    (k : topRun treeTable p w n0 ann N S'.abs (restOf ((behindTheImports p).drop (a + b)) env (cdOf p env) pos' [topFrame qp]) = some r.abs) :
    topRun treeTable p w n0 ann (m + N) S.abs (restOf ((behindTheImports p).drop a) env (cdOf p env) pos [topFrame qp]) = some r.abs := by
  rw [← stQ_eq] at h
  have z := piece_app (pieceF_ok h) (rest := (behindTheImports p).drop (a + b)) k
  rw [← List.drop_drop, List.take_append_drop] at z
  exact z
theorem cp_last {a m : Nat} (e : (behindTheImports p).drop a = []) (h : goF (stQ p w) n0 ann m S ⟨doneF .next, cdOf p env, pos, [topFrame qp]⟩ = some r) :
    topRun treeTable p w n0 ann m S.abs (restOf ((behindTheImports p).drop a) env (cdOf p env) pos [topFrame qp]) = some r.abs := by
  rw [← stQ_eq] at h
  rw [e]
  exact piece_nil (goF_ok h)
theorem cp_block {m N : Nat} (h : pieceF (stQ p w) n0 ann 1 m S (blockOf (behindTheImports p) env (cdOf p env) pos [topFrame qp]) = some (.next, S', cdOf p env, pos'))
    (k : topRun treeTable p w n0 ann N S'.abs (restOf ((behindTheImports p).drop 0) env (cdOf p env) pos' [topFrame qp]) = some r.abs) :
    topRun treeTable p w n0 ann (m + N) S.abs ⟨denote treeTable (cdOf p env), cdOf p env, pos, [topFrame qp]⟩ = some r.abs := by
  rw [← stQ_eq] at h
  exact piece_block (pieceF_ok h) k
theorem cp_pre {m N : Nat} {t : Thread} (h : stepsF (stQ p w) n0 ann m S t = some (S', ⟨denQ tabQ (cdOf p env), cdOf p env, pos, [topFrame qp]⟩))
    (k : topRun treeTable p w n0 ann N S'.abs ⟨denote treeTable (cdOf p env), cdOf p env, pos, [topFrame qp]⟩ = some r.abs) : topRun treeTable p w n0 ann (m + N) S.abs t = some r.abs := by
  rw [← stQ_eq] at h
  have e : denQ tabQ (cdOf p env) = denote treeTable (cdOf p env) := by rw [denQ_eq, tabQ_eq]
  rw [e] at h
  exact go_top (stepsF_ok h) k
end
/-- the top, told by its end -/
structure TopEnd (r : OpenRow) (q : Program) (loose : List PySem.Str) (H : Hook) (ob : SharedT → H.α) (M : Nat) (w : World) (os : OsState) (s : SharedT) : Prop where
  run : topRun treeTable r.prog w (boot_heap w.params).objs.size (bootAnn w) M ⟨boot_heap w.params, #[], boot_drawn, boot_toks, os⟩ (topStub r.prog) = some s.abs
  l1 : looksF r.prog (boot_heap w.params) s.abs = true
  l2 : seenQ q loose (importedModules r.prog.main.body) (fun s => xlAt q [] s && recOk r.toRowW.records s) s.abs = openGood q loose
  l3 : ob s = H.val w
theorem cp_boot {p : Program} {w : World} {os : OsState} {T : BT} {n N : Nat} {r : SharedT} (e : putAll (boot_heap w.params).objs.toList .nil 0 = some (T, n))
    (k : topRun treeTable p w n (bootAnn w) N (bootT w os (T, n)).abs (topStub p) = some r.abs) :
    topRun treeTable p w (boot_heap w.params).objs.size (bootAnn w) N ⟨boot_heap w.params, #[], boot_drawn, boot_toks, os⟩ (topStub p) = some r.abs := by
  have eh := putAll_heap e
  have en : n = (boot_heap w.params).objs.size := by
    rw [← eh]
    exact (absHeap_size T n _).symm
  subst en
  have eb : (bootT w os (T, (boot_heap w.params).objs.size)).abs = ⟨boot_heap w.params, #[], boot_drawn, boot_toks, os⟩ := by
    unfold bootT SharedT.abs
    rw [eh]
  rw [eb] at k
  exact k
theorem cp_mono {p : Program} {w : World} {n0 : Nat} {ann : Option Value} {N M : Nat} {s r : Shared} {t : Thread} (le : Nat.ble N M = true) (k : topRun treeTable p w n0 ann N s t = some r) : topRun treeTable p w n0 ann M s t = some r := by
  have z := topRun_mono (M - N) N s t r k
  have := Nat.le_of_ble_eq_true le
  rw [Nat.add_sub_cancel' this] at z
  exact z
theorem left_cp {p q : Program} {loose : List PySem.Str} {Xt : Shared → Bool} {α : Type} {Yf : Shared → α} {Ya : World → α} {N M : Nat}
    (e : opening p = plainProg p.main.scope.names) (hN : Nat.ble 600 N = true) (f : ∀ s, fenceModules? p s = some s) (le : Nat.ble M N = true)
    (run : ∀ (w : World) (os : OsState), ∃ s : SharedT, topRun treeTable p w (boot_heap w.params).objs.size (bootAnn w) M ⟨boot_heap w.params, #[], boot_drawn, boot_toks, os⟩ (topStub p) = some s.abs ∧ looksF p (boot_heap w.params) s.abs = true ∧ openSeen q loose (importedModules p.main.body) Xt true s.abs = openGood q loose ∧ Yf s.abs = Ya w) : LeftO p q loose Xt Yf Ya N true := by
  intro w
  obtain ⟨⟨h, gs, d, k, os⟩, a, a'⟩ := Option.map_eq_some_iff.mp (boot_open e hN f w)
  have a4 : h = boot_heap w.params ∧ gs = Array.mk [] ∧ d = boot_drawn ∧ k = boot_toks := by simpa using a'
  obtain ⟨rfl, rfl, rfl, rfl⟩ := a4
  obtain ⟨s, r, z1, z2, z3⟩ := run w os
  have r2 := cp_mono le r
  have top : topFrom treeTable p w N ⟨boot_heap w.params, Array.mk [], boot_drawn, boot_toks, os⟩ = some s.abs := by
    unfold topFrom
    dsimp only
    rw [boot_ns]
    have r3 : topRun treeTable p w (boot_heap w.params).objs.size ((boot_heap w.params).nsMap mainGlobals "__annotations__") N ⟨boot_heap w.params, Array.mk [], boot_drawn, boot_toks, os⟩ (topStub p) = some s.abs := r2
    have z4 : (staticsOk (importedModules p.main.body) (boot_heap w.params) s.abs.heap && namesBound p s.abs.heap && gensDone s.abs && laidKept (boot_heap w.params) s.abs.heap) = true := z1
    have r4 : ∀ k : Shared → Option Shared, (topRun treeTable p w (boot_heap w.params).objs.size ((boot_heap w.params).nsMap mainGlobals "__annotations__") N ⟨boot_heap w.params, Array.mk [], boot_drawn, boot_toks, os⟩ (topStub p)).bind k = k s.abs := fun k => by rw [r3]; rfl
    refine (r4 _).trans ?_
    rw [z4]
  unfold openEnds
  rw [a]
  show (topFrom treeTable p w N _).map _ = _
  rw [top]
  exact congrArg some (Prod.ext z2 z3)
theorem head_cp {r : OpenRow} {q : Program} {H : Hook} {ob : SharedT → H.α} {M : Nat} {loose : List PySem.Str} {d : DefRec} {kwd : List (PySem.Str × PySem.Expr)} (ho : ∀ s : SharedT, ob s = H.obs s.abs)
    (e : opening r.prog = plainProg r.prog.main.scope.names) (f : ∀ s, fenceModules? r.prog s = some s) (run : ∀ w os, ∃ s, TopEnd r q loose H ob M w os s)
    (hdef : defOf q r.name = some (d, kwd)) (hp : r.prog.theDef r.name = some (d.params, d.body, d.scope)) (hk : kwWritten? d.params.kwonlyargs d.params.kw_defaults = some kwd)
    (hwr : (!r.writes || r.records.isEmpty) = true) (k1 : r.wellSaid = true) (ok : (chainsOk q && opensWell r.prog && (frees r.toRowW && r.within.isEmpty)) = true) (hb : r.prog.bare) (hw : r.toRowW.promised)
    (call : WalkO q loose (XL q []) H.says r.toRowW d kwd fun f vs => PySem.call f vs) : r.Holds := by
  have left : LeftO r.prog q loose (fun s => xlAt q [] s && recOk r.toRowW.records s) H.obs H.val (M + 600) true := by
    refine left_cp (M := M) e (Nat.ble_eq_true_of_le (by omega)) f (Nat.ble_eq_true_of_le (by omega)) fun w os => ?_
    obtain ⟨s, z⟩ := run w os
    refine ⟨s, z.run, z.l1, ?_, (ho s).symm.trans z.l3⟩
    rw [seenQ_eq]
    exact z.l2
  exact holds_open (r := r) (q := q) (loose := loose) (XP := XL q []) (YP := H.says) (d := d) (kwd := kwd) left H.of H.keeps (fun s z => xl_of s (Bool.and_eq_true_iff.mp z).1) XL.keeps hdef hp hk (fun s z => recFacts_of (Bool.and_eq_true_iff.mp z).2) hwr k1 ok hb hw call
end Dl
namespace Dl
open PySem PySem.W L2
/-! words for the states -/
abbrev vi (i : Int) (t : Nat) : Value := .int i t
abbrev vs (x : String) (t : Nat) : Value := .str (Str.ofString x) t
abbrev vr (a : Nat) : Value := .ref a
abbrev vt (x : String) : Value := .type x
abbrev vb (x : String) : Value := .builtin x
abbrev vn : Value := .none
abbrev ob_tu (l : List Value) : Obj := ⟨.type "tuple", none, .seq l.toArray 0, #[]⟩
abbrev ob_co (l : List Value) : Obj := ⟨.type "code", none, .fields l.toArray, #[]⟩
abbrev ob_fi (c : Value) (l : List Value) : Obj := ⟨c, none, .fields l.toArray, #[]⟩
abbrev en (P : Params) (x : String) (t : Nat) (v : Value) : DictEntry := ⟨PyData.keyHash P (Str.ofString x), .str (Str.ofString x) t, v⟩
abbrev ob_di (l : List DictEntry) (n : Nat) : Obj := ⟨.type "dict", none, .dict l.toArray n, #[]⟩
abbrev ob_fu (c : Value) (s : Stmt) (x q : String) (g : Addr) (df kd dc md : Value) (an : Option Addr) (cd ct : Value) : Obj :=
  ⟨c, none, .func { name := Str.ofString x, qualname := Str.ofString q, params := defArgs s, body := .stmts (defBody s), scope := defScope s, globals := g, closure := [], defaults := df, kwdefaults := kd, doc := dc, pyModule := md, annotations := an, code := cd, closureTuple := ct, builtins := 0 }, #[]⟩
abbrev bn (o : Obj) (l r : BT) : BT := .node o l r
abbrev bz : BT := .nil
noncomputable abbrev stA' (T : Params → BT) (n toks : Nat) (w : World) (os : OsState) : SharedT := ⟨T w.params, n, (boot_heap w.params).life, #[], boot_drawn, toks, os⟩
end Dl
set_option Elab.async false
set_option linter.all false
set_option maxRecDepth 100000
/-! l.count(x), l.index(x) over data -/
namespace L2
open PySem PySem.Spec PyProof.Rows
end L2
set_option Elab.async false
set_option linter.all false
set_option maxRecDepth 100000
namespace Dl
open PySem L2 PyProof.Rows
/-! ### looked at as it is now, however deep -/
inductive Al2 (R : D → D → Prop) : List D → List D → Prop
  | nil : Al2 R [] []
  | cons {x d : D} {xs ds : List D} : R x d → Al2 R xs ds → Al2 R (x :: xs) (d :: ds)
theorem Al2.refl {R : D → D → Prop} (h : ∀ x, R x x) : ∀ xs : List D, Al2 R xs xs
  | [] => .nil
  | x :: xs => .cons (h x) (Al2.refl h xs)
theorem Al2.app {R : D → D → Prop} : ∀ {xs ds ys es : List D}, Al2 R xs ds → Al2 R ys es → Al2 R (xs ++ ys) (ds ++ es)
  | _, _, _, _, .nil, h => h
  | _, _, _, _, .cons a b, h => .cons a (b.app h)
/-- to a depth -/
def FzN (μ : Mu) : Nat → D → D → Prop
  | 0, x, d => x = d
  | n + 1, x, d => x = d ∨ (∃ k xs ds, x = .own k ∧ d = .lst ds ∧ μ[k]? = some (.lst xs) ∧ Al2 (FzN μ n) xs ds) ∨ (∃ xs ds, x = .tup xs ∧ d = .tup ds ∧ Al2 (FzN μ n) xs ds) ∨ (∃ xs ds, x = .lst xs ∧ d = .lst ds ∧ Al2 (FzN μ n) xs ds)
theorem FzN.id {μ : Mu} : ∀ {n : Nat} (d : D), FzN μ n d d
  | 0, _ => rfl
  | _ + 1, _ => .inl rfl
theorem al2_dp {K : PySem.W.Frag} {G H : Hp} {al : List Addr} {R : D → D → Prop} (h : ∀ {v : V} {x d : D} {n : Nat}, R x d → d.shp n = true → Rp K G al v x → Dp K H v d.py) : ∀ {vs : List V} {xs ds : List D} {n : Nat}, Al2 R xs ds → shpL ds n = true → Rps K G al vs xs → DpAll K H vs (pyL ds)
  | _, _, _, _, .nil, _, .nil => by unfold pyL; exact .nil
  | _, _, _, n, .cons a b, hs, .cons r t => by
    unfold pyL; unfold shpL at hs; simp at hs
    exact .cons (h a hs.1 r) (al2_dp h b hs.2 t)
theorem FzN.dp {K : PySem.W.Frag} {G H : Hp} {al : List Addr} {μ : Mu} (A : As K G H al μ) : ∀ {q : Nat} {v : V} {x d : D} {n : Nat}, FzN μ q x d → d.shp n = true → Rp K G al v x → Dp K H v d.py
  | 0, _, _, _, _, h, hs, r => by
    cases h
    exact dp_of A.sub hs r
  | q + 1, v, x, d, n, h, hs, r => by
    rcases h with rfl | ⟨k, xs, ds, rfl, rfl, hk, hl⟩ | ⟨xs, ds, rfl, rfl, hl⟩ | ⟨xs, ds, rfl, rfl, hl⟩
    · exact dp_of A.sub hs r
    · obtain ⟨a, ha, ga, ws, hv, rw'⟩ := A.get hk
      cases r with
      | own e =>
        rw [ha] at e; cases e
        unfold D.py; unfold D.shp at hs; simp at hs
        exact .lst (.inl (.inl hv)) (al2_dp (fun a b c => FzN.dp A a b c) hl hs.2 rw')
    · cases r with
      | tup e r =>
        unfold D.py; unfold D.shp at hs; simp at hs
        exact .tup (.inl (.inl (A.sub _ _ e))) (al2_dp (fun a b c => FzN.dp A a b c) hl hs.2 r)
    · cases r with
      | lst e r =>
        unfold D.py; unfold D.shp at hs; simp at hs
        exact .lst (.inl (.inl (A.sub _ _ e))) (al2_dp (fun a b c => FzN.dp A a b c) hl hs.2 r)
end Dl
set_option Elab.async false
set_option linter.all false
set_option maxRecDepth 100000
namespace L2
open PySem
end L2
set_option Elab.async false
set_option linter.all false
set_option maxRecDepth 100000
/-! dicts with tuple keys -/
namespace Dl
open PySem PySem.Spec PyProof.Rows L2
/-! ### .. over data -/
/-! ### a dict with tuple keys stands locked while it is walked -/
section
variable {K : PySem.W.Frag} {G G' : Hp} {al al' : List Addr} {a : Addr}
def Un (G G' : Hp) (a : Addr) : Prop := (∃ o kvs, G a = some (.frz o (.dT kvs))) ∧ ∀ b, b ≠ a → G' b = G b
theorem Un.plain (s : Un G G' a) {b : Addr} {o : HO} (h : G b = some o) (n : ∀ o' kvs, o ≠ .frz o' (.dT kvs)) : G' b = some o := by
  obtain ⟨⟨o1, kvs, e⟩, u⟩ := s
  rw [u b fun z => by rw [z, e] at h; cases h; exact n _ _ rfl]
  exact h
theorem Un.rd (s : Un G G' a) {b : Addr} {kvs : List (Key × V)} (h : Rd G b (.dK kvs)) : Rd G' b (.dK kvs) := by
  rcases h with h | ⟨o, h⟩
  · exact .inl (s.plain h fun _ _ => nofun)
  · exact .inr ⟨o, s.plain h fun _ _ => nofun⟩
end
end Dl
/-! d.get(None), d.pop(k), dict(d): dicts with tuple keys -/
/-! dicts with tuple keys, as data -/
namespace Dl
open PySem L2
section
variable {K : PySem.W.Frag} {G H : Hp} {al : List Addr}
theorem Rps.app {us vs : List V} {ds es : List D} (h : Rps K G al us ds) (h' : Rps K G al vs es) : Rps K G al (us ++ vs) (ds ++ es) := by
  induction ds generalizing us with
  | nil => cases h; exact h'
  | cons d ds ih => cases h with | cons r t => exact .cons r (ih t)
end
end Dl
/-! zip of two lists or two tuples; isinstance(x, (list, tuple)) -/
set_option Elab.async false
set_option linter.all false
set_option maxRecDepth 100000
/-! a tuple of texts that stands in a module -/
set_option Elab.async false
set_option linter.all false
set_option maxRecDepth 100000
/-! dicts with tuple keys: their keys walked -/
namespace Dl
open PySem PySem.Spec PyProof.Rows L2
theorem Al2.len {R : D → D → Prop} : ∀ {xs ds : List D}, Al2 R xs ds → xs.length = ds.length
  | _, _, .nil => rfl
  | _, _, .cons _ t => by simp [t.len]
theorem Al2.get {R : D → D → Prop} : ∀ {xs ds : List D}, Al2 R xs ds → ∀ {i : Nat} {x : D}, xs[i]? = some x → ∃ d, ds[i]? = some d ∧ R x d
  | _, _, .cons a t, 0, x, h => by cases h; exact ⟨_, rfl, a⟩
  | _, _, .cons a t, i + 1, x, h => t.get (by simpa using h)
end Dl
set_option Elab.async false
set_option linter.all false
set_option maxRecDepth 100000
/-! sorted(..) of data -/
namespace L2
open PySem PySem.Spec PyProof.Rows PySem.Calls
end L2
set_option Elab.async false
set_option linter.all false
set_option maxRecDepth 100000
/-! a method called with its two arguments by name, the other way about, in a try's body -/
set_option Elab.async false
set_option linter.all false
set_option maxRecDepth 100000
/-! try: .. with except clauses that keep no name -/
namespace L2
open PySem PySem.Spec PyProof.Rows
inductive HdsM (X : Cx) : List ExceptHandler → List (Value × TS) → Prop
  | nil : HdsM X [] []
  | cons {x : Str} {c : Value} {ts : TS} {b₀ : Stmt} {suite : List Stmt} {np pos' : Pos} {hds : List ExceptHandler} {l : List (Value × TS)} (hc : Names X x c)
      (hsu : ∀ (a : Addr) (pn : List (Addr × Obj)), PSs (X.suite a pn) (b₀ :: suite) ts) (r : HdsM X hds l) :
      HdsM X (.ExceptHandler (some (.Name x np)) none (b₀ :: suite) pos' :: hds) ((c, ts) :: l)
def many3 (l : List (Value × TS)) : List (Value × (Addr → Value → Option Addr → TS)) := l.map fun p => (p.1, fun _ _ _ => p.2)
theorem HdsM.ok {X : Cx} : ∀ {hds : List ExceptHandler} {l : List (Value × TS)}, HdsM X hds l → HdsOk X hds (many3 l)
  | _, _, .nil => .nil
  | _, _, .cons hc hsu r => .cons hc (fun a oe cls d pn _ _ => hsu a ((a, oe) :: pn)) r.ok
end L2
set_option Elab.async false
set_option linter.all false
set_option maxRecDepth 100000
/-! xs.insert(i, y) -/
namespace Dl
open PySem PySem.Spec PyProof.Rows L2
def rInsert : V → List V → Hp → VK → Prop := fun x vs H Q => ∃ (l : Addr) (xs : List V) (i : Int) (y : V), x = .ref l ∧ vs = [.int i, y] ∧ H l = some (.lst xs) ∧ xs.length < sizeLine ∧ 0 ≤ i ∧ i < 2 ^ 63 ∧
    Q .non (upd H l (.lst (xs.take i.toNat ++ [y] ++ xs.drop i.toNat)))
section
variable {K : PySem.W.Frag} {μ : Mu} {P : D → Mu → Prop} {i : Int} {d : D} {ds : List D}
theorem rps_take {G : Hp} {al : List Addr} : ∀ {vs : List V} {ds : List D} (n : Nat), Rps K G al vs ds → Rps K G al (vs.take n) (ds.take n)
  | _, _, 0, _ => .nil
  | _, _, _ + 1, .nil => .nil
  | _, _, n + 1, .cons a t => .cons a (rps_take n t)
theorem rps_drop {G : Hp} {al : List Addr} : ∀ {vs : List V} {ds : List D} (n : Nat), Rps K G al vs ds → Rps K G al (vs.drop n) (ds.drop n)
  | _, _, 0, h => h
  | _, _, _ + 1, .nil => .nil
  | _, _, n + 1, .cons _ t => rps_drop n t
theorem rm_insert {k : Nat} (hk : μ[k]? = some (.lst ds)) (hs : ds.length < 100000) (h0 : 0 ≤ i) (h1 : i ≤ 100000) (h : P .non (μ.set k (.lst (ds.take i.toNat ++ [d] ++ ds.drop i.toNat)))) : RM K rInsert (.own k) [.int i, d] μ P := fun G H al v vs A r rs Q hQ => by
  obtain ⟨a, ha, ga, ws, hv, rw'⟩ := A.get hk
  obtain ⟨z, u, rfl, rz, ru⟩ := rps2 rs
  cases rz
  cases r with
  | own e =>
    rw [ha] at e; cases e
    refine ⟨a, ws, i, u, rfl, rfl, hv, by rw [rw'.length]; exact Nat.lt_of_lt_of_le hs (by decide), h0, by omega, ?_⟩
    obtain ⟨A2, n2⟩ := A.put (o := .lst (ws.take i.toNat ++ [u] ++ ws.drop i.toNat)) (m' := .lst (ds.take i.toNat ++ [d] ++ ds.drop i.toNat)) ha hk (by simp) ⟨ga, _, upd_same, ((rps_take _ rw').append (.cons ru .nil)).append (rps_drop _ rw')⟩
    exact hQ _ _ _ _ _ _ n2 A2 .non h
theorem rm_extend {k : Nat} {x : D} {es : List D} (hk : μ[k]? = some (.lst ds)) (hl : Lt μ x es) (hs : ds.length + es.length ≤ 100000) (h : P .non (μ.set k (.lst (ds ++ es)))) : RM K rExtend (.own k) [x] μ P := fun G H al v vs A r rs Q hQ => by
  obtain ⟨a, ha, ga, ws, hv, rw'⟩ := A.get hk
  obtain ⟨u, rfl, ru⟩ := rps1 rs
  obtain ⟨b, zs, rfl, hb, rz⟩ := hl.get A ru
  cases r with
  | own e =>
    rw [ha] at e; cases e
    refine ⟨a, b, ws, zs, rfl, rfl, hv, hb, by rw [rw'.length, rz.length]; exact Nat.le_trans hs (by decide), ?_⟩
    obtain ⟨A2, n2⟩ := A.put (o := .lst (ws ++ zs)) (m' := .lst (ds ++ es)) ha hk (by simp) ⟨ga, _, upd_same, rw'.append rz⟩
    exact hQ _ _ _ _ _ _ n2 A2 .non h
end
end Dl
set_option Elab.async false
set_option linter.all false
set_option maxRecDepth 100000
namespace Dl
open PySem L2 PyProof.Rows
def topS (i : Nat) : Stmt := PySem.Challenge.pw_readround_k09_again_and_shared.main.body.getD i (.Pass ⟨0, 0, 0, 0⟩)
abbrev R : PySem.W.OpenRow := PySem.W.OpenLaw.row PySem.Challenge.rw_readround_k09_again_and_shared
noncomputable section
open PySem.W PySem.Calls HandSHeadRun
noncomputable def env0 : Env := { scope := R.prog.main.scope, locals := mainNs, globals := mainNs, cells := [], code := (vr 13), frame := some 14 }
def o11 : Obj := ob_tu []
def o12 : Obj := ob_fi vn []
def o13 : Obj := ob_co [(vs "<module>" 182), (vs "<module>" 183), (vs "/claim/cut.py" 184), (vi 1 0), (vi 0 0), (vi 0 0), (vi 0 0), (vi 0 0), (vr 11), (.bool false), (vi 181 0), (vr 12), vn, vn, vn, vn, (vi 185 0), (vi 1 0), (vs "/claim/cut.py" 186)]
def o14 : Obj := ⟨(vt "frame"), none, .plain, #[some (vr 13), some (vr 3), some (vr 3), none, some (vs "__main__" 164), none, some (vr 0)]⟩
def o3 (P : Params) : Obj := ob_di [en P "__name__" 165 (vs "readround.errors" 187), en P "__doc__" 166 vn, en P "__package__" 167 vn, en P "__loader__" 168 (vb "__main__.__loader__#opaque"), en P "__spec__" 169 vn, en P "__annotations__" 170 (vr 6), en P "__builtins__" 171 (vr 4), en P "__file__" 173 (vs "/claim/cut.py" 172), en P "__cached__" 174 vn, en P "ReadError" 206 (vr 24), en P "BadBook" 222 (vr 37), en P "BadCalendar" 238 (vr 49), en P "BadFeast" 254 (vr 61), en P "BadRow" 270 (vr 73), en P "BadHouse" 286 (vr 85), en P "BadNumber" 302 (vr 97), en P "NoDay" 318 (vr 109)] 17
def o12_1 : Obj := ob_fi vn [(vi 2 0), (vi 0 0), (vr 20), (vi 4 0), (vi 0 0), (vr 33), (vi 6 0), (vi 0 0), (vr 45), (vi 8 0), (vi 0 0), (vr 57), (vi 10 0), (vi 0 0), (vr 69), (vi 12 0), (vi 0 0), (vr 81), (vi 14 0), (vi 0 0), (vr 93), (vi 16 0), (vi 0 0), (vr 105)]
def o15 : Obj := ob_tu [(vt "ValueError")]
def o16 : Obj := ob_fi (vt "builtin_function_or_method") [(vb "type.__prepare__"), (vt "type")]
def o17 (P : Params) : Obj := ob_di [en P "__module__" 196 (vs "readround.errors" 187), en P "__qualname__" 198 (vs "ReadError" 197), en P "__firstlineno__" 200 (vi 2 199), en P "__static_attributes__" 201 (vr 22)] 4
def o18 : Obj := ob_tu []
def o19 : Obj := ob_fi vn []
def o20 : Obj := ob_co [(vs "ReadError" 191), (vs "ReadError" 192), (vs "/claim/cut.py" 193), (vi 2 0), (vi 0 0), (vi 0 0), (vi 0 0), (vi 0 0), (vr 18), (.bool false), (vi 181 0), (vr 19), vn, vn, vn, vn, (vi 194 0), (vi 2 0), (vs "/claim/cut.py" 195)]
def o21 : Obj := ⟨(vt "frame"), none, .plain, #[some (vr 20), some (vr 3), some (vr 17), none, some (vs "readround.errors" 187), none, some (vr 0)]⟩
def o22 : Obj := ob_tu []
def o23 (P : Params) : Obj := ob_di [en P "__module__" 196 (vs "readround.errors" 187), en P "__firstlineno__" 200 (vi 2 199), en P "__static_attributes__" 201 (vr 22), en P "__weakref__" 203 (vr 25), en P "__doc__" 204 vn] 3
def o24 : Obj := ⟨(vt "type"), none, .cls (ClassData.mk (Str.ofString "ReadError") [(vt "ValueError")] [(vr 24), (vt "ValueError"), (vt "Exception"), (vt "BaseException"), (vt "object")] 23 (Str.ofString "ReadError") true [] [(vr 37), (vr 49), (vr 61), (vr 73), (vr 85), (vr 97), (vr 109)] false none false), #[some (vr 15), none, some (vs "ReadError" 189), some (vs "ReadError" 197), some (vb "ValueError.__new__"), some (.bool true)]⟩
def o25 : Obj := ob_fi (vt "getset_descriptor") [(vs "__weakref__" 202), (vr 24), (vb "ExceptionGroup.__weakref__"), vn]
def o26 : Obj := ob_fi (vt "super") [(vr 24), (vr 24), (vr 24)]
def o27 : Obj := ob_fi (vt "builtin_function_or_method") [(vb "object.__init_subclass__"), (vr 24)]
def o28 : Obj := ob_tu [(vr 24)]
def o29 : Obj := ob_fi (vt "builtin_function_or_method") [(vb "type.__prepare__"), (vt "type")]
def o30 (P : Params) : Obj := ob_di [en P "__module__" 214 (vs "readround.errors" 187), en P "__qualname__" 216 (vs "BadBook" 215), en P "__firstlineno__" 218 (vi 4 217), en P "__static_attributes__" 219 (vr 35)] 4
def o31 : Obj := ob_tu []
def o32 : Obj := ob_fi vn []
def o33 : Obj := ob_co [(vs "BadBook" 209), (vs "BadBook" 210), (vs "/claim/cut.py" 211), (vi 4 0), (vi 0 0), (vi 0 0), (vi 0 0), (vi 0 0), (vr 31), (.bool false), (vi 181 0), (vr 32), vn, vn, vn, vn, (vi 212 0), (vi 4 0), (vs "/claim/cut.py" 213)]
def o34 : Obj := ⟨(vt "frame"), none, .plain, #[some (vr 33), some (vr 3), some (vr 30), none, some (vs "readround.errors" 187), none, some (vr 0)]⟩
def o35 : Obj := ob_tu []
def o36 (P : Params) : Obj := ob_di [en P "__module__" 214 (vs "readround.errors" 187), en P "__firstlineno__" 218 (vi 4 217), en P "__static_attributes__" 219 (vr 35), en P "__doc__" 220 vn] 2
def o37 : Obj := ⟨(vt "type"), none, .cls (ClassData.mk (Str.ofString "BadBook") [(vr 24)] [(vr 37), (vr 24), (vt "ValueError"), (vt "Exception"), (vt "BaseException"), (vt "object")] 36 (Str.ofString "BadBook") true [] [] false none false), #[some (vr 28), none, some (vs "BadBook" 207), some (vs "BadBook" 215), some (vb "ValueError.__new__"), some (.bool true)]⟩
def o38 : Obj := ob_fi (vt "super") [(vr 37), (vr 37), (vr 37)]
def o39 : Obj := ob_fi (vt "builtin_function_or_method") [(vb "object.__init_subclass__"), (vr 37)]
def o40 : Obj := ob_tu [(vr 24)]
def o41 : Obj := ob_fi (vt "builtin_function_or_method") [(vb "type.__prepare__"), (vt "type")]
def o42 (P : Params) : Obj := ob_di [en P "__module__" 230 (vs "readround.errors" 187), en P "__qualname__" 232 (vs "BadCalendar" 231), en P "__firstlineno__" 234 (vi 6 233), en P "__static_attributes__" 235 (vr 47)] 4
def o43 : Obj := ob_tu []
def o44 : Obj := ob_fi vn []
def o45 : Obj := ob_co [(vs "BadCalendar" 225), (vs "BadCalendar" 226), (vs "/claim/cut.py" 227), (vi 6 0), (vi 0 0), (vi 0 0), (vi 0 0), (vi 0 0), (vr 43), (.bool false), (vi 181 0), (vr 44), vn, vn, vn, vn, (vi 228 0), (vi 6 0), (vs "/claim/cut.py" 229)]
def o46 : Obj := ⟨(vt "frame"), none, .plain, #[some (vr 45), some (vr 3), some (vr 42), none, some (vs "readround.errors" 187), none, some (vr 0)]⟩
def o47 : Obj := ob_tu []
def o48 (P : Params) : Obj := ob_di [en P "__module__" 230 (vs "readround.errors" 187), en P "__firstlineno__" 234 (vi 6 233), en P "__static_attributes__" 235 (vr 47), en P "__doc__" 236 vn] 2
def o49 : Obj := ⟨(vt "type"), none, .cls (ClassData.mk (Str.ofString "BadCalendar") [(vr 24)] [(vr 49), (vr 24), (vt "ValueError"), (vt "Exception"), (vt "BaseException"), (vt "object")] 48 (Str.ofString "BadCalendar") true [] [] false none false), #[some (vr 40), none, some (vs "BadCalendar" 223), some (vs "BadCalendar" 231), some (vb "ValueError.__new__"), some (.bool true)]⟩
def o50 : Obj := ob_fi (vt "super") [(vr 49), (vr 49), (vr 49)]
def o51 : Obj := ob_fi (vt "builtin_function_or_method") [(vb "object.__init_subclass__"), (vr 49)]
def o52 : Obj := ob_tu [(vr 24)]
def o53 : Obj := ob_fi (vt "builtin_function_or_method") [(vb "type.__prepare__"), (vt "type")]
def o54 (P : Params) : Obj := ob_di [en P "__module__" 246 (vs "readround.errors" 187), en P "__qualname__" 248 (vs "BadFeast" 247), en P "__firstlineno__" 250 (vi 8 249), en P "__static_attributes__" 251 (vr 59)] 4
def o55 : Obj := ob_tu []
def o56 : Obj := ob_fi vn []
def o57 : Obj := ob_co [(vs "BadFeast" 241), (vs "BadFeast" 242), (vs "/claim/cut.py" 243), (vi 8 0), (vi 0 0), (vi 0 0), (vi 0 0), (vi 0 0), (vr 55), (.bool false), (vi 181 0), (vr 56), vn, vn, vn, vn, (vi 244 0), (vi 8 0), (vs "/claim/cut.py" 245)]
def o58 : Obj := ⟨(vt "frame"), none, .plain, #[some (vr 57), some (vr 3), some (vr 54), none, some (vs "readround.errors" 187), none, some (vr 0)]⟩
def o59 : Obj := ob_tu []
def o60 (P : Params) : Obj := ob_di [en P "__module__" 246 (vs "readround.errors" 187), en P "__firstlineno__" 250 (vi 8 249), en P "__static_attributes__" 251 (vr 59), en P "__doc__" 252 vn] 2
def o61 : Obj := ⟨(vt "type"), none, .cls (ClassData.mk (Str.ofString "BadFeast") [(vr 24)] [(vr 61), (vr 24), (vt "ValueError"), (vt "Exception"), (vt "BaseException"), (vt "object")] 60 (Str.ofString "BadFeast") true [] [] false none false), #[some (vr 52), none, some (vs "BadFeast" 239), some (vs "BadFeast" 247), some (vb "ValueError.__new__"), some (.bool true)]⟩
def o62 : Obj := ob_fi (vt "super") [(vr 61), (vr 61), (vr 61)]
def o63 : Obj := ob_fi (vt "builtin_function_or_method") [(vb "object.__init_subclass__"), (vr 61)]
def o64 : Obj := ob_tu [(vr 24)]
def o65 : Obj := ob_fi (vt "builtin_function_or_method") [(vb "type.__prepare__"), (vt "type")]
def o66 (P : Params) : Obj := ob_di [en P "__module__" 262 (vs "readround.errors" 187), en P "__qualname__" 264 (vs "BadRow" 263), en P "__firstlineno__" 266 (vi 10 265), en P "__static_attributes__" 267 (vr 71)] 4
def o67 : Obj := ob_tu []
def o68 : Obj := ob_fi vn []
def o69 : Obj := ob_co [(vs "BadRow" 257), (vs "BadRow" 258), (vs "/claim/cut.py" 259), (vi 10 0), (vi 0 0), (vi 0 0), (vi 0 0), (vi 0 0), (vr 67), (.bool false), (vi 181 0), (vr 68), vn, vn, vn, vn, (vi 260 0), (vi 10 0), (vs "/claim/cut.py" 261)]
def o70 : Obj := ⟨(vt "frame"), none, .plain, #[some (vr 69), some (vr 3), some (vr 66), none, some (vs "readround.errors" 187), none, some (vr 0)]⟩
def o71 : Obj := ob_tu []
def o72 (P : Params) : Obj := ob_di [en P "__module__" 262 (vs "readround.errors" 187), en P "__firstlineno__" 266 (vi 10 265), en P "__static_attributes__" 267 (vr 71), en P "__doc__" 268 vn] 2
def o73 : Obj := ⟨(vt "type"), none, .cls (ClassData.mk (Str.ofString "BadRow") [(vr 24)] [(vr 73), (vr 24), (vt "ValueError"), (vt "Exception"), (vt "BaseException"), (vt "object")] 72 (Str.ofString "BadRow") true [] [] false none false), #[some (vr 64), none, some (vs "BadRow" 255), some (vs "BadRow" 263), some (vb "ValueError.__new__"), some (.bool true)]⟩
def o74 : Obj := ob_fi (vt "super") [(vr 73), (vr 73), (vr 73)]
def o75 : Obj := ob_fi (vt "builtin_function_or_method") [(vb "object.__init_subclass__"), (vr 73)]
def o76 : Obj := ob_tu [(vr 24)]
def o77 : Obj := ob_fi (vt "builtin_function_or_method") [(vb "type.__prepare__"), (vt "type")]
def o78 (P : Params) : Obj := ob_di [en P "__module__" 278 (vs "readround.errors" 187), en P "__qualname__" 280 (vs "BadHouse" 279), en P "__firstlineno__" 282 (vi 12 281), en P "__static_attributes__" 283 (vr 83)] 4
def o79 : Obj := ob_tu []
def o80 : Obj := ob_fi vn []
def o81 : Obj := ob_co [(vs "BadHouse" 273), (vs "BadHouse" 274), (vs "/claim/cut.py" 275), (vi 12 0), (vi 0 0), (vi 0 0), (vi 0 0), (vi 0 0), (vr 79), (.bool false), (vi 181 0), (vr 80), vn, vn, vn, vn, (vi 276 0), (vi 12 0), (vs "/claim/cut.py" 277)]
def o82 : Obj := ⟨(vt "frame"), none, .plain, #[some (vr 81), some (vr 3), some (vr 78), none, some (vs "readround.errors" 187), none, some (vr 0)]⟩
def o83 : Obj := ob_tu []
def o84 (P : Params) : Obj := ob_di [en P "__module__" 278 (vs "readround.errors" 187), en P "__firstlineno__" 282 (vi 12 281), en P "__static_attributes__" 283 (vr 83), en P "__doc__" 284 vn] 2
def o85 : Obj := ⟨(vt "type"), none, .cls (ClassData.mk (Str.ofString "BadHouse") [(vr 24)] [(vr 85), (vr 24), (vt "ValueError"), (vt "Exception"), (vt "BaseException"), (vt "object")] 84 (Str.ofString "BadHouse") true [] [] false none false), #[some (vr 76), none, some (vs "BadHouse" 271), some (vs "BadHouse" 279), some (vb "ValueError.__new__"), some (.bool true)]⟩
def o86 : Obj := ob_fi (vt "super") [(vr 85), (vr 85), (vr 85)]
def o87 : Obj := ob_fi (vt "builtin_function_or_method") [(vb "object.__init_subclass__"), (vr 85)]
def o88 : Obj := ob_tu [(vr 24)]
def o89 : Obj := ob_fi (vt "builtin_function_or_method") [(vb "type.__prepare__"), (vt "type")]
def o90 (P : Params) : Obj := ob_di [en P "__module__" 294 (vs "readround.errors" 187), en P "__qualname__" 296 (vs "BadNumber" 295), en P "__firstlineno__" 298 (vi 14 297), en P "__static_attributes__" 299 (vr 95)] 4
def o91 : Obj := ob_tu []
def o92 : Obj := ob_fi vn []
def o93 : Obj := ob_co [(vs "BadNumber" 289), (vs "BadNumber" 290), (vs "/claim/cut.py" 291), (vi 14 0), (vi 0 0), (vi 0 0), (vi 0 0), (vi 0 0), (vr 91), (.bool false), (vi 181 0), (vr 92), vn, vn, vn, vn, (vi 292 0), (vi 14 0), (vs "/claim/cut.py" 293)]
def o94 : Obj := ⟨(vt "frame"), none, .plain, #[some (vr 93), some (vr 3), some (vr 90), none, some (vs "readround.errors" 187), none, some (vr 0)]⟩
def o95 : Obj := ob_tu []
def o96 (P : Params) : Obj := ob_di [en P "__module__" 294 (vs "readround.errors" 187), en P "__firstlineno__" 298 (vi 14 297), en P "__static_attributes__" 299 (vr 95), en P "__doc__" 300 vn] 2
def o97 : Obj := ⟨(vt "type"), none, .cls (ClassData.mk (Str.ofString "BadNumber") [(vr 24)] [(vr 97), (vr 24), (vt "ValueError"), (vt "Exception"), (vt "BaseException"), (vt "object")] 96 (Str.ofString "BadNumber") true [] [] false none false), #[some (vr 88), none, some (vs "BadNumber" 287), some (vs "BadNumber" 295), some (vb "ValueError.__new__"), some (.bool true)]⟩
def o98 : Obj := ob_fi (vt "super") [(vr 97), (vr 97), (vr 97)]
def o99 : Obj := ob_fi (vt "builtin_function_or_method") [(vb "object.__init_subclass__"), (vr 97)]
def o100 : Obj := ob_tu [(vr 24)]
def o101 : Obj := ob_fi (vt "builtin_function_or_method") [(vb "type.__prepare__"), (vt "type")]
def o102 (P : Params) : Obj := ob_di [en P "__module__" 310 (vs "readround.errors" 187), en P "__qualname__" 312 (vs "NoDay" 311), en P "__firstlineno__" 314 (vi 16 313), en P "__static_attributes__" 315 (vr 107)] 4
def o103 : Obj := ob_tu []
def o104 : Obj := ob_fi vn []
def o105 : Obj := ob_co [(vs "NoDay" 305), (vs "NoDay" 306), (vs "/claim/cut.py" 307), (vi 16 0), (vi 0 0), (vi 0 0), (vi 0 0), (vi 0 0), (vr 103), (.bool false), (vi 181 0), (vr 104), vn, vn, vn, vn, (vi 308 0), (vi 16 0), (vs "/claim/cut.py" 309)]
def o106 : Obj := ⟨(vt "frame"), none, .plain, #[some (vr 105), some (vr 3), some (vr 102), none, some (vs "readround.errors" 187), none, some (vr 0)]⟩
def o107 : Obj := ob_tu []
def o108 (P : Params) : Obj := ob_di [en P "__module__" 310 (vs "readround.errors" 187), en P "__firstlineno__" 314 (vi 16 313), en P "__static_attributes__" 315 (vr 107), en P "__doc__" 316 vn] 2
def o109 : Obj := ⟨(vt "type"), none, .cls (ClassData.mk (Str.ofString "NoDay") [(vr 24)] [(vr 109), (vr 24), (vt "ValueError"), (vt "Exception"), (vt "BaseException"), (vt "object")] 108 (Str.ofString "NoDay") true [] [] false none false), #[some (vr 100), none, some (vs "NoDay" 303), some (vs "NoDay" 311), some (vb "ValueError.__new__"), some (.bool true)]⟩
def o110 : Obj := ob_fi (vt "super") [(vr 109), (vr 109), (vr 109)]
def o111 : Obj := ob_fi (vt "builtin_function_or_method") [(vb "object.__init_subclass__"), (vr 109)]
def o3_1 (P : Params) : Obj := ob_di [en P "__name__" 165 (vs "readround.errors" 187), en P "__doc__" 166 vn, en P "__package__" 167 vn, en P "__loader__" 168 (vb "__main__.__loader__#opaque"), en P "__spec__" 169 vn, en P "__annotations__" 170 (vr 6), en P "__builtins__" 171 (vr 4), en P "__file__" 173 (vs "/claim/cut.py" 172), en P "__cached__" 174 vn, en P "ReadError" 206 (vr 24), en P "BadBook" 222 (vr 37), en P "BadCalendar" 238 (vr 49), en P "BadFeast" 254 (vr 61), en P "BadRow" 270 (vr 73), en P "BadHouse" 286 (vr 85), en P "BadNumber" 302 (vr 97), en P "NoDay" 318 (vr 109), en P "NoRow" 334 (vr 121), en P "NoPiece" 350 (vr 133), en P "TooTight" 375 (vr 152), en P "NeverDone" 404 (vr 171), en P "TooFar" 420 (vr 183), en P "NoDeed" 436 (vr 195), en P "BadText" 461 (vr 214)] 24
def o12_2 : Obj := ob_fi vn [(vi 2 0), (vi 0 0), (vr 20), (vi 4 0), (vi 0 0), (vr 33), (vi 6 0), (vi 0 0), (vr 45), (vi 8 0), (vi 0 0), (vr 57), (vi 10 0), (vi 0 0), (vr 69), (vi 12 0), (vi 0 0), (vr 81), (vi 14 0), (vi 0 0), (vr 93), (vi 16 0), (vi 0 0), (vr 105), (vi 18 0), (vi 0 0), (vr 117), (vi 20 0), (vi 0 0), (vr 129), (vi 22 0), (vi 0 0), (vr 141), (vi 27 0), (vi 0 0), (vr 160), (vi 34 0), (vi 0 0), (vr 179), (vi 36 0), (vi 0 0), (vr 191), (vi 38 0), (vi 0 0), (vr 203)]
def o24_1 : Obj := ⟨(vt "type"), none, .cls (ClassData.mk (Str.ofString "ReadError") [(vt "ValueError")] [(vr 24), (vt "ValueError"), (vt "Exception"), (vt "BaseException"), (vt "object")] 23 (Str.ofString "ReadError") true [] [(vr 37), (vr 49), (vr 61), (vr 73), (vr 85), (vr 97), (vr 109), (vr 121), (vr 133), (vr 152), (vr 171), (vr 183), (vr 195), (vr 214)] false none false), #[some (vr 15), none, some (vs "ReadError" 189), some (vs "ReadError" 197), some (vb "ValueError.__new__"), some (.bool true)]⟩
def o112 : Obj := ob_tu [(vr 24)]
def o113 : Obj := ob_fi (vt "builtin_function_or_method") [(vb "type.__prepare__"), (vt "type")]
def o114 (P : Params) : Obj := ob_di [en P "__module__" 326 (vs "readround.errors" 187), en P "__qualname__" 328 (vs "NoRow" 327), en P "__firstlineno__" 330 (vi 18 329), en P "__static_attributes__" 331 (vr 119)] 4
def o115 : Obj := ob_tu []
def o116 : Obj := ob_fi vn []
def o117 : Obj := ob_co [(vs "NoRow" 321), (vs "NoRow" 322), (vs "/claim/cut.py" 323), (vi 18 0), (vi 0 0), (vi 0 0), (vi 0 0), (vi 0 0), (vr 115), (.bool false), (vi 181 0), (vr 116), vn, vn, vn, vn, (vi 324 0), (vi 18 0), (vs "/claim/cut.py" 325)]
def o118 : Obj := ⟨(vt "frame"), none, .plain, #[some (vr 117), some (vr 3), some (vr 114), none, some (vs "readround.errors" 187), none, some (vr 0)]⟩
def o119 : Obj := ob_tu []
def o120 (P : Params) : Obj := ob_di [en P "__module__" 326 (vs "readround.errors" 187), en P "__firstlineno__" 330 (vi 18 329), en P "__static_attributes__" 331 (vr 119), en P "__doc__" 332 vn] 2
def o121 : Obj := ⟨(vt "type"), none, .cls (ClassData.mk (Str.ofString "NoRow") [(vr 24)] [(vr 121), (vr 24), (vt "ValueError"), (vt "Exception"), (vt "BaseException"), (vt "object")] 120 (Str.ofString "NoRow") true [] [] false none false), #[some (vr 112), none, some (vs "NoRow" 319), some (vs "NoRow" 327), some (vb "ValueError.__new__"), some (.bool true)]⟩
def o122 : Obj := ob_fi (vt "super") [(vr 121), (vr 121), (vr 121)]
def o123 : Obj := ob_fi (vt "builtin_function_or_method") [(vb "object.__init_subclass__"), (vr 121)]
def o124 : Obj := ob_tu [(vr 24)]
def o125 : Obj := ob_fi (vt "builtin_function_or_method") [(vb "type.__prepare__"), (vt "type")]
def o126 (P : Params) : Obj := ob_di [en P "__module__" 342 (vs "readround.errors" 187), en P "__qualname__" 344 (vs "NoPiece" 343), en P "__firstlineno__" 346 (vi 20 345), en P "__static_attributes__" 347 (vr 131)] 4
def o127 : Obj := ob_tu []
def o128 : Obj := ob_fi vn []
def o129 : Obj := ob_co [(vs "NoPiece" 337), (vs "NoPiece" 338), (vs "/claim/cut.py" 339), (vi 20 0), (vi 0 0), (vi 0 0), (vi 0 0), (vi 0 0), (vr 127), (.bool false), (vi 181 0), (vr 128), vn, vn, vn, vn, (vi 340 0), (vi 20 0), (vs "/claim/cut.py" 341)]
def o130 : Obj := ⟨(vt "frame"), none, .plain, #[some (vr 129), some (vr 3), some (vr 126), none, some (vs "readround.errors" 187), none, some (vr 0)]⟩
def o131 : Obj := ob_tu []
def o132 (P : Params) : Obj := ob_di [en P "__module__" 342 (vs "readround.errors" 187), en P "__firstlineno__" 346 (vi 20 345), en P "__static_attributes__" 347 (vr 131), en P "__doc__" 348 vn] 2
def o133 : Obj := ⟨(vt "type"), none, .cls (ClassData.mk (Str.ofString "NoPiece") [(vr 24)] [(vr 133), (vr 24), (vt "ValueError"), (vt "Exception"), (vt "BaseException"), (vt "object")] 132 (Str.ofString "NoPiece") true [] [] false none false), #[some (vr 124), none, some (vs "NoPiece" 335), some (vs "NoPiece" 343), some (vb "ValueError.__new__"), some (.bool true)]⟩
def o134 : Obj := ob_fi (vt "super") [(vr 133), (vr 133), (vr 133)]
def o135 : Obj := ob_fi (vt "builtin_function_or_method") [(vb "object.__init_subclass__"), (vr 133)]
def o136 : Obj := ob_tu [(vr 24)]
def o137 : Obj := ob_fi (vt "builtin_function_or_method") [(vb "type.__prepare__"), (vt "type")]
def o138 (P : Params) : Obj := ob_di [en P "__module__" 358 (vs "readround.errors" 187), en P "__qualname__" 360 (vs "TooTight" 359), en P "__firstlineno__" 362 (vi 22 361), en P "__init__" 370 (vr 149), en P "__static_attributes__" 372 (vr 150)] 5
def o139 : Obj := ob_tu []
def o140 : Obj := ob_fi vn [(vi 24 0), (vi 4 0), (vr 148)]
def o141 : Obj := ob_co [(vs "TooTight" 353), (vs "TooTight" 354), (vs "/claim/cut.py" 355), (vi 22 0), (vi 0 0), (vi 0 0), (vi 0 0), (vi 0 0), (vr 139), (.bool false), (vi 181 0), (vr 140), vn, vn, vn, vn, (vi 356 0), (vi 22 0), (vs "/claim/cut.py" 357)]
def o142 : Obj := ⟨(vt "frame"), none, .plain, #[some (vr 141), some (vr 3), some (vr 138), none, some (vs "readround.errors" 187), none, some (vr 0)]⟩
def o143 : Obj := ob_tu []
def o144 : Obj := ob_fi vn []
def o145 : Obj := ob_tu [(vs "self" 366), (vs "block" 367)]
def o146 : Obj := ob_tu []
def o147 : Obj := ob_fu vn (inClass (topS 11) 0) "__init__" "TooTight.__init__" 0 vn vn vn vn none vn vn
def o148 : Obj := ob_co [(vs "__init__" 363), (vs "TooTight.__init__" 364), (vs "/claim/cut.py" 365), (vi 24 0), (vi 2 0), (vi 0 0), (vi 0 0), (vi 3 0), (vr 143), (.bool true), (vi 181 0), (vr 144), vn, (vr 145), (vr 146), (vr 147), (vi 368 0), (vi 24 0), (vs "/claim/cut.py" 369)]
def o149 : Obj := ob_fu (vt "function") (inClass (topS 11) 0) "__init__" "TooTight.__init__" 3 vn vn vn (vs "readround.errors" 187) none (vr 148) vn
def o150 : Obj := ob_tu [(vs "block" 371)]
def o151 (P : Params) : Obj := ob_di [en P "__module__" 358 (vs "readround.errors" 187), en P "__firstlineno__" 362 (vi 22 361), en P "__init__" 370 (vr 149), en P "__static_attributes__" 372 (vr 150), en P "__doc__" 373 vn] 2
def o152 : Obj := ⟨(vt "type"), none, .cls (ClassData.mk (Str.ofString "TooTight") [(vr 24)] [(vr 152), (vr 24), (vt "ValueError"), (vt "Exception"), (vt "BaseException"), (vt "object")] 151 (Str.ofString "TooTight") true [] [] false none false), #[some (vr 136), none, some (vs "TooTight" 351), some (vs "TooTight" 359), some (vb "ValueError.__new__"), some (.bool true)]⟩
def o153 : Obj := ob_fi (vt "super") [(vr 152), (vr 152), (vr 152)]
def o154 : Obj := ob_fi (vt "builtin_function_or_method") [(vb "object.__init_subclass__"), (vr 152)]
def o155 : Obj := ob_tu [(vr 24)]
def o156 : Obj := ob_fi (vt "builtin_function_or_method") [(vb "type.__prepare__"), (vt "type")]
def o157 (P : Params) : Obj := ob_di [en P "__module__" 383 (vs "readround.errors" 187), en P "__qualname__" 385 (vs "NeverDone" 384), en P "__firstlineno__" 387 (vi 27 386), en P "__init__" 397 (vr 168), en P "__static_attributes__" 401 (vr 169)] 5
def o158 : Obj := ob_tu []
def o159 : Obj := ob_fi vn [(vi 29 0), (vi 4 0), (vr 167)]
def o160 : Obj := ob_co [(vs "NeverDone" 378), (vs "NeverDone" 379), (vs "/claim/cut.py" 380), (vi 27 0), (vi 0 0), (vi 0 0), (vi 0 0), (vi 0 0), (vr 158), (.bool false), (vi 181 0), (vr 159), vn, vn, vn, vn, (vi 381 0), (vi 27 0), (vs "/claim/cut.py" 382)]
def o161 : Obj := ⟨(vt "frame"), none, .plain, #[some (vr 160), some (vr 3), some (vr 157), none, some (vs "readround.errors" 187), none, some (vr 0)]⟩
def o162 : Obj := ob_tu []
def o163 : Obj := ob_fi vn []
def o164 : Obj := ob_tu [(vs "self" 391), (vs "name" 392), (vs "due" 393), (vs "room" 394)]
def o165 : Obj := ob_tu []
def o166 : Obj := ob_fu vn (inClass (topS 12) 0) "__init__" "NeverDone.__init__" 0 vn vn vn vn none vn vn
def o167 : Obj := ob_co [(vs "__init__" 388), (vs "NeverDone.__init__" 389), (vs "/claim/cut.py" 390), (vi 29 0), (vi 4 0), (vi 0 0), (vi 0 0), (vi 3 0), (vr 162), (.bool true), (vi 181 0), (vr 163), vn, (vr 164), (vr 165), (vr 166), (vi 395 0), (vi 29 0), (vs "/claim/cut.py" 396)]
def o168 : Obj := ob_fu (vt "function") (inClass (topS 12) 0) "__init__" "NeverDone.__init__" 3 vn vn vn (vs "readround.errors" 187) none (vr 167) vn
def o169 : Obj := ob_tu [(vs "due" 398), (vs "name" 399), (vs "room" 400)]
def o170 (P : Params) : Obj := ob_di [en P "__module__" 383 (vs "readround.errors" 187), en P "__firstlineno__" 387 (vi 27 386), en P "__init__" 397 (vr 168), en P "__static_attributes__" 401 (vr 169), en P "__doc__" 402 vn] 2
def o171 : Obj := ⟨(vt "type"), none, .cls (ClassData.mk (Str.ofString "NeverDone") [(vr 24)] [(vr 171), (vr 24), (vt "ValueError"), (vt "Exception"), (vt "BaseException"), (vt "object")] 170 (Str.ofString "NeverDone") true [] [] false none false), #[some (vr 155), none, some (vs "NeverDone" 376), some (vs "NeverDone" 384), some (vb "ValueError.__new__"), some (.bool true)]⟩
def o172 : Obj := ob_fi (vt "super") [(vr 171), (vr 171), (vr 171)]
def o173 : Obj := ob_fi (vt "builtin_function_or_method") [(vb "object.__init_subclass__"), (vr 171)]
def o174 : Obj := ob_tu [(vr 24)]
def o175 : Obj := ob_fi (vt "builtin_function_or_method") [(vb "type.__prepare__"), (vt "type")]
def o176 (P : Params) : Obj := ob_di [en P "__module__" 412 (vs "readround.errors" 187), en P "__qualname__" 414 (vs "TooFar" 413), en P "__firstlineno__" 416 (vi 34 415), en P "__static_attributes__" 417 (vr 181)] 4
def o177 : Obj := ob_tu []
def o178 : Obj := ob_fi vn []
def o179 : Obj := ob_co [(vs "TooFar" 407), (vs "TooFar" 408), (vs "/claim/cut.py" 409), (vi 34 0), (vi 0 0), (vi 0 0), (vi 0 0), (vi 0 0), (vr 177), (.bool false), (vi 181 0), (vr 178), vn, vn, vn, vn, (vi 410 0), (vi 34 0), (vs "/claim/cut.py" 411)]
def o180 : Obj := ⟨(vt "frame"), none, .plain, #[some (vr 179), some (vr 3), some (vr 176), none, some (vs "readround.errors" 187), none, some (vr 0)]⟩
def o181 : Obj := ob_tu []
def o182 (P : Params) : Obj := ob_di [en P "__module__" 412 (vs "readround.errors" 187), en P "__firstlineno__" 416 (vi 34 415), en P "__static_attributes__" 417 (vr 181), en P "__doc__" 418 vn] 2
def o183 : Obj := ⟨(vt "type"), none, .cls (ClassData.mk (Str.ofString "TooFar") [(vr 24)] [(vr 183), (vr 24), (vt "ValueError"), (vt "Exception"), (vt "BaseException"), (vt "object")] 182 (Str.ofString "TooFar") true [] [] false none false), #[some (vr 174), none, some (vs "TooFar" 405), some (vs "TooFar" 413), some (vb "ValueError.__new__"), some (.bool true)]⟩
def o184 : Obj := ob_fi (vt "super") [(vr 183), (vr 183), (vr 183)]
def o185 : Obj := ob_fi (vt "builtin_function_or_method") [(vb "object.__init_subclass__"), (vr 183)]
def o186 : Obj := ob_tu [(vr 24)]
def o187 : Obj := ob_fi (vt "builtin_function_or_method") [(vb "type.__prepare__"), (vt "type")]
def o188 (P : Params) : Obj := ob_di [en P "__module__" 428 (vs "readround.errors" 187), en P "__qualname__" 430 (vs "NoDeed" 429), en P "__firstlineno__" 432 (vi 36 431), en P "__static_attributes__" 433 (vr 193)] 4
def o189 : Obj := ob_tu []
def o190 : Obj := ob_fi vn []
def o191 : Obj := ob_co [(vs "NoDeed" 423), (vs "NoDeed" 424), (vs "/claim/cut.py" 425), (vi 36 0), (vi 0 0), (vi 0 0), (vi 0 0), (vi 0 0), (vr 189), (.bool false), (vi 181 0), (vr 190), vn, vn, vn, vn, (vi 426 0), (vi 36 0), (vs "/claim/cut.py" 427)]
def o192 : Obj := ⟨(vt "frame"), none, .plain, #[some (vr 191), some (vr 3), some (vr 188), none, some (vs "readround.errors" 187), none, some (vr 0)]⟩
def o193 : Obj := ob_tu []
def o194 (P : Params) : Obj := ob_di [en P "__module__" 428 (vs "readround.errors" 187), en P "__firstlineno__" 432 (vi 36 431), en P "__static_attributes__" 433 (vr 193), en P "__doc__" 434 vn] 2
def o195 : Obj := ⟨(vt "type"), none, .cls (ClassData.mk (Str.ofString "NoDeed") [(vr 24)] [(vr 195), (vr 24), (vt "ValueError"), (vt "Exception"), (vt "BaseException"), (vt "object")] 194 (Str.ofString "NoDeed") true [] [] false none false), #[some (vr 186), none, some (vs "NoDeed" 421), some (vs "NoDeed" 429), some (vb "ValueError.__new__"), some (.bool true)]⟩
def o196 : Obj := ob_fi (vt "super") [(vr 195), (vr 195), (vr 195)]
def o197 : Obj := ob_fi (vt "builtin_function_or_method") [(vb "object.__init_subclass__"), (vr 195)]
def o198 : Obj := ob_tu [(vr 24)]
def o199 : Obj := ob_fi (vt "builtin_function_or_method") [(vb "type.__prepare__"), (vt "type")]
def o200 (P : Params) : Obj := ob_di [en P "__module__" 444 (vs "readround.errors" 187), en P "__qualname__" 446 (vs "BadText" 445), en P "__firstlineno__" 448 (vi 38 447), en P "__init__" 456 (vr 211), en P "__static_attributes__" 458 (vr 212)] 5
def o201 : Obj := ob_tu []
def o202 : Obj := ob_fi vn [(vi 40 0), (vi 4 0), (vr 210)]
def o203 : Obj := ob_co [(vs "BadText" 439), (vs "BadText" 440), (vs "/claim/cut.py" 441), (vi 38 0), (vi 0 0), (vi 0 0), (vi 0 0), (vi 0 0), (vr 201), (.bool false), (vi 181 0), (vr 202), vn, vn, vn, vn, (vi 442 0), (vi 38 0), (vs "/claim/cut.py" 443)]
def o204 : Obj := ⟨(vt "frame"), none, .plain, #[some (vr 203), some (vr 3), some (vr 200), none, some (vs "readround.errors" 187), none, some (vr 0)]⟩
def o205 : Obj := ob_tu []
def o206 : Obj := ob_fi vn []
def o207 : Obj := ob_tu [(vs "self" 452), (vs "place" 453)]
def o208 : Obj := ob_tu []
def o209 : Obj := ob_fu vn (inClass (topS 15) 0) "__init__" "BadText.__init__" 0 vn vn vn vn none vn vn
def o210 : Obj := ob_co [(vs "__init__" 449), (vs "BadText.__init__" 450), (vs "/claim/cut.py" 451), (vi 40 0), (vi 2 0), (vi 0 0), (vi 0 0), (vi 3 0), (vr 205), (.bool true), (vi 181 0), (vr 206), vn, (vr 207), (vr 208), (vr 209), (vi 454 0), (vi 40 0), (vs "/claim/cut.py" 455)]
def o211 : Obj := ob_fu (vt "function") (inClass (topS 15) 0) "__init__" "BadText.__init__" 3 vn vn vn (vs "readround.errors" 187) none (vr 210) vn
def o212 : Obj := ob_tu [(vs "place" 457)]
def o213 (P : Params) : Obj := ob_di [en P "__module__" 444 (vs "readround.errors" 187), en P "__firstlineno__" 448 (vi 38 447), en P "__init__" 456 (vr 211), en P "__static_attributes__" 458 (vr 212), en P "__doc__" 459 vn] 2
def o214 : Obj := ⟨(vt "type"), none, .cls (ClassData.mk (Str.ofString "BadText") [(vr 24)] [(vr 214), (vr 24), (vt "ValueError"), (vt "Exception"), (vt "BaseException"), (vt "object")] 213 (Str.ofString "BadText") true [] [] false none false), #[some (vr 198), none, some (vs "BadText" 437), some (vs "BadText" 445), some (vb "ValueError.__new__"), some (.bool true)]⟩
def o215 : Obj := ob_fi (vt "super") [(vr 214), (vr 214), (vr 214)]
def o216 : Obj := ob_fi (vt "builtin_function_or_method") [(vb "object.__init_subclass__"), (vr 214)]
def o3_2 (P : Params) : Obj := ob_di [en P "__name__" 165 (vs "law_readround_k09_again_and_shared" 619), en P "__doc__" 166 vn, en P "__package__" 167 vn, en P "__loader__" 168 (vb "__main__.__loader__#opaque"), en P "__spec__" 169 vn, en P "__annotations__" 170 (vr 6), en P "__builtins__" 171 (vr 4), en P "__file__" 173 (vs "/claim/cut.py" 172), en P "__cached__" 174 vn, en P "ReadError" 206 (vr 24), en P "BadBook" 222 (vr 37), en P "BadCalendar" 238 (vr 49), en P "BadFeast" 254 (vr 61), en P "BadRow" 270 (vr 73), en P "BadHouse" 286 (vr 85), en P "BadNumber" 302 (vr 97), en P "NoDay" 318 (vr 109), en P "NoRow" 334 (vr 121), en P "NoPiece" 350 (vr 133), en P "TooTight" 375 (vr 152), en P "NeverDone" 404 (vr 171), en P "TooFar" 420 (vr 183), en P "NoDeed" 436 (vr 195), en P "BadText" 461 (vr 214), en P "is_number" 472 (vr 223), en P "MOST_SECTIONS" 476 (vi 60 475), en P "LONGEST" 480 (vi 1000000000000 479), en P "is_section" 487 (vr 230), en P "are_sections" 493 (vr 235), en P "Book" 569 (vr 292), en P "is_cut" 577 (vr 301), en P "first_too_long" 587 (vr 308), en P "longest_block" 593 (vr 313), en P "fewest" 607 (vr 320), en P "least_limit" 618 (vr 327), en P "_law_state" 632 (vr 334), en P "_law_next" 641 (vr 341), en P "_law_pick" 649 (vr 348), en P "_law_word" 655 (vr 353), en P "_law_tried" 664 (vr 360), en P "_law_sections" 679 (vr 367), en P "_law_blocks" 690 (vr 374), en P "_law_long" 696 (vr 379), en P "_law_limit" 702 (vr 384), en P "_law_cut" 714 (vr 391), en P "_law_lists" 727 (vr 398), en P "_law_asked" 746 (vr 405), en P "law" 752 (vr 410)] 48
def o12_3 : Obj := ob_fi vn [(vi 2 0), (vi 0 0), (vr 20), (vi 4 0), (vi 0 0), (vr 33), (vi 6 0), (vi 0 0), (vr 45), (vi 8 0), (vi 0 0), (vr 57), (vi 10 0), (vi 0 0), (vr 69), (vi 12 0), (vi 0 0), (vr 81), (vi 14 0), (vi 0 0), (vr 93), (vi 16 0), (vi 0 0), (vr 105), (vi 18 0), (vi 0 0), (vr 117), (vi 20 0), (vi 0 0), (vr 129), (vi 22 0), (vi 0 0), (vr 141), (vi 27 0), (vi 0 0), (vr 160), (vi 34 0), (vi 0 0), (vr 179), (vi 36 0), (vi 0 0), (vr 191), (vi 38 0), (vi 0 0), (vr 203), (vi 44 0), (vi 0 0), (vr 222), (vi 49 0), (vi 0 0), (vr 229), (vi 53 0), (vi 0 0), (vr 234), (vi 57 0), (vi 0 0), (vr 241), (vi 90 0), (vi 0 0), (vr 300), (vi 98 0), (vi 0 0), (vr 307), (vi 103 0), (vi 0 0), (vr 312), (vi 105 0), (vi 0 0), (vr 319), (vi 121 0), (vi 0 0), (vr 326), (vi 134 0), (vi 0 0), (vr 333), (vi 143 0), (vi 0 0), (vr 340), (vi 147 0), (vi 0 0), (vr 347), (vi 149 0), (vi 0 0), (vr 352), (vi 158 0), (vi 0 0), (vr 359), (vi 165 0), (vi 0 0), (vr 366), (vi 180 0), (vi 0 0), (vr 373), (vi 188 0), (vi 0 0), (vr 378), (vi 190 0), (vi 0 0), (vr 383), (vi 200 0), (vi 0 0), (vr 390), (vi 210 0), (vi 0 0), (vr 397), (vi 219 0), (vi 0 0), (vr 404), (vi 245 0), (vi 0 0), (vr 409)]
def o217 : Obj := ob_tu []
def o218 : Obj := ob_fi vn []
def o219 : Obj := ob_tu [(vs "thing" 467), (vs "least" 468), (vs "most" 469)]
def o220 : Obj := ob_tu []
def o221 : Obj := ob_fu vn (topS 17) "is_number" "is_number" 0 vn vn vn vn none vn vn
def o222 : Obj := ob_co [(vs "is_number" 464), (vs "is_number" 465), (vs "/claim/cut.py" 466), (vi 44 0), (vi 3 0), (vi 0 0), (vi 0 0), (vi 3 0), (vr 217), (.bool true), (vi 181 0), (vr 218), vn, (vr 219), (vr 220), (vr 221), (vi 470 0), (vi 44 0), (vs "/claim/cut.py" 471)]
def o223 : Obj := ob_fu (vt "function") (topS 17) "is_number" "is_number" 3 vn vn vn (vs "readround.kinds" 462) none (vr 222) vn
def o224 : Obj := ob_tu []
def o225 : Obj := ob_fi vn []
def o226 : Obj := ob_tu [(vs "thing" 484)]
def o227 : Obj := ob_tu []
def o228 : Obj := ob_fu vn (topS 21) "is_section" "is_section" 0 vn vn vn vn none vn vn
def o229 : Obj := ob_co [(vs "is_section" 481), (vs "is_section" 482), (vs "/claim/cut.py" 483), (vi 49 0), (vi 1 0), (vi 0 0), (vi 0 0), (vi 3 0), (vr 224), (.bool true), (vi 181 0), (vr 225), vn, (vr 226), (vr 227), (vr 228), (vi 485 0), (vi 49 0), (vs "/claim/cut.py" 486)]
def o230 : Obj := ob_fu (vt "function") (topS 21) "is_section" "is_section" 3 vn vn vn (vs "readround.books" 473) none (vr 229) vn
def o231 : Obj := ob_tu []
def o232 : Obj := ob_fi vn []
def o233 : Obj := ob_fu vn (topS 22) "are_sections" "are_sections" 0 vn vn vn vn none vn vn
def o234 : Obj := ob_co [(vs "are_sections" 488), (vs "are_sections" 489), (vs "/claim/cut.py" 490), (vi 53 0), (vi 1 0), (vi 0 0), (vi 0 0), (vi 3 0), (vr 231), (.bool true), (vi 181 0), (vr 232), vn, vn, vn, (vr 233), (vi 491 0), (vi 53 0), (vs "/claim/cut.py" 492)]
def o235 : Obj := ob_fu (vt "function") (topS 22) "are_sections" "are_sections" 3 vn vn vn (vs "readround.books" 473) none (vr 234) vn
def o236 : Obj := ob_tu []
def o237 : Obj := ob_fi (vt "builtin_function_or_method") [(vb "type.__prepare__"), (vt "type")]
def o238 (P : Params) : Obj := ob_di [en P "__module__" 501 (vs "readround.books" 473), en P "__qualname__" 503 (vs "Book" 502), en P "__firstlineno__" 505 (vi 57 504), en P "__init__" 513 (vr 249), en P "__eq__" 521 (vr 256), en P "__len__" 528 (vr 263), en P "many" 535 (vr 270), en P "sections" 542 (vr 277), en P "long" 548 (vr 282), en P "blocks" 559 (vr 289), en P "__static_attributes__" 561 (vr 290)] 11
def o239 : Obj := ob_tu []
def o240 : Obj := ob_fi vn [(vi 59 0), (vi 4 0), (vr 248), (vi 64 0), (vi 4 0), (vr 255), (vi 67 0), (vi 4 0), (vr 262), (vi 70 0), (vi 4 0), (vr 269), (vi 73 0), (vi 4 0), (vr 276), (vi 76 0), (vi 4 0), (vr 281), (vi 81 0), (vi 4 0), (vr 288)]
def o241 : Obj := ob_co [(vs "Book" 496), (vs "Book" 497), (vs "/claim/cut.py" 498), (vi 57 0), (vi 0 0), (vi 0 0), (vi 0 0), (vi 0 0), (vr 239), (.bool false), (vi 181 0), (vr 240), vn, vn, vn, vn, (vi 499 0), (vi 57 0), (vs "/claim/cut.py" 500)]
def o242 : Obj := ⟨(vt "frame"), none, .plain, #[some (vr 241), some (vr 3), some (vr 238), none, some (vs "readround.books" 473), none, some (vr 0)]⟩
def o243 : Obj := ob_tu []
def o244 : Obj := ob_fi vn []
def o245 : Obj := ob_tu [(vs "self" 509), (vs "sections" 510)]
def o246 : Obj := ob_tu []
def o247 : Obj := ob_fu vn (inClass (topS 23) 0) "__init__" "Book.__init__" 0 vn vn vn vn none vn vn
def o248 : Obj := ob_co [(vs "__init__" 506), (vs "Book.__init__" 507), (vs "/claim/cut.py" 508), (vi 59 0), (vi 2 0), (vi 0 0), (vi 0 0), (vi 3 0), (vr 243), (.bool true), (vi 181 0), (vr 244), vn, (vr 245), (vr 246), (vr 247), (vi 511 0), (vi 59 0), (vs "/claim/cut.py" 512)]
def o249 : Obj := ob_fu (vt "function") (inClass (topS 23) 0) "__init__" "Book.__init__" 3 vn vn vn (vs "readround.books" 473) none (vr 248) vn
def o250 : Obj := ob_tu []
def o251 : Obj := ob_fi vn []
def o252 : Obj := ob_tu [(vs "self" 517), (vs "other" 518)]
def o253 : Obj := ob_tu []
def o254 : Obj := ob_fu vn (inClass (topS 23) 1) "__eq__" "Book.__eq__" 0 vn vn vn vn none vn vn
def o255 : Obj := ob_co [(vs "__eq__" 514), (vs "Book.__eq__" 515), (vs "/claim/cut.py" 516), (vi 64 0), (vi 2 0), (vi 0 0), (vi 0 0), (vi 3 0), (vr 250), (.bool true), (vi 181 0), (vr 251), vn, (vr 252), (vr 253), (vr 254), (vi 519 0), (vi 64 0), (vs "/claim/cut.py" 520)]
def o256 : Obj := ob_fu (vt "function") (inClass (topS 23) 1) "__eq__" "Book.__eq__" 3 vn vn vn (vs "readround.books" 473) none (vr 255) vn
def o257 : Obj := ob_tu []
def o258 : Obj := ob_fi vn []
def o259 : Obj := ob_tu [(vs "self" 525)]
def o260 : Obj := ob_tu []
def o261 : Obj := ob_fu vn (inClass (topS 23) 2) "__len__" "Book.__len__" 0 vn vn vn vn none vn vn
def o262 : Obj := ob_co [(vs "__len__" 522), (vs "Book.__len__" 523), (vs "/claim/cut.py" 524), (vi 67 0), (vi 1 0), (vi 0 0), (vi 0 0), (vi 3 0), (vr 257), (.bool true), (vi 181 0), (vr 258), vn, (vr 259), (vr 260), (vr 261), (vi 526 0), (vi 67 0), (vs "/claim/cut.py" 527)]
def o263 : Obj := ob_fu (vt "function") (inClass (topS 23) 2) "__len__" "Book.__len__" 3 vn vn vn (vs "readround.books" 473) none (vr 262) vn
def o264 : Obj := ob_tu []
def o265 : Obj := ob_fi vn []
def o266 : Obj := ob_tu [(vs "self" 532)]
def o267 : Obj := ob_tu []
def o268 : Obj := ob_fu vn (inClass (topS 23) 3) "many" "Book.many" 0 vn vn vn vn none vn vn
def o269 : Obj := ob_co [(vs "many" 529), (vs "Book.many" 530), (vs "/claim/cut.py" 531), (vi 70 0), (vi 1 0), (vi 0 0), (vi 0 0), (vi 3 0), (vr 264), (.bool true), (vi 181 0), (vr 265), vn, (vr 266), (vr 267), (vr 268), (vi 533 0), (vi 70 0), (vs "/claim/cut.py" 534)]
def o270 : Obj := ob_fu (vt "function") (inClass (topS 23) 3) "many" "Book.many" 3 vn vn vn (vs "readround.books" 473) none (vr 269) vn
def o271 : Obj := ob_tu []
def o272 : Obj := ob_fi vn []
def o273 : Obj := ob_tu [(vs "self" 539)]
def o274 : Obj := ob_tu []
def o275 : Obj := ob_fu vn (inClass (topS 23) 4) "sections" "Book.sections" 0 vn vn vn vn none vn vn
def o276 : Obj := ob_co [(vs "sections" 536), (vs "Book.sections" 537), (vs "/claim/cut.py" 538), (vi 73 0), (vi 1 0), (vi 0 0), (vi 0 0), (vi 3 0), (vr 271), (.bool true), (vi 181 0), (vr 272), vn, (vr 273), (vr 274), (vr 275), (vi 540 0), (vi 73 0), (vs "/claim/cut.py" 541)]
def o277 : Obj := ob_fu (vt "function") (inClass (topS 23) 4) "sections" "Book.sections" 3 vn vn vn (vs "readround.books" 473) none (vr 276) vn
def o278 : Obj := ob_tu []
def o279 : Obj := ob_fi vn []
def o280 : Obj := ob_fu vn (inClass (topS 23) 5) "long" "Book.long" 0 vn vn vn vn none vn vn
def o281 : Obj := ob_co [(vs "long" 543), (vs "Book.long" 544), (vs "/claim/cut.py" 545), (vi 76 0), (vi 3 0), (vi 0 0), (vi 0 0), (vi 3 0), (vr 278), (.bool true), (vi 181 0), (vr 279), vn, vn, vn, (vr 280), (vi 546 0), (vi 76 0), (vs "/claim/cut.py" 547)]
def o282 : Obj := ob_fu (vt "function") (inClass (topS 23) 5) "long" "Book.long" 3 vn vn vn (vs "readround.books" 473) none (vr 281) vn
def o283 : Obj := ob_tu []
def o284 : Obj := ob_fi vn []
def o285 : Obj := ob_tu [(vs "self" 552), (vs "found" 553), (vs "first" 554), (vs "at" 555), (vs "one" 556)]
def o286 : Obj := ob_tu []
def o287 : Obj := ob_fu vn (inClass (topS 23) 6) "blocks" "Book.blocks" 0 vn vn vn vn none vn vn
def o288 : Obj := ob_co [(vs "blocks" 549), (vs "Book.blocks" 550), (vs "/claim/cut.py" 551), (vi 81 0), (vi 1 0), (vi 0 0), (vi 0 0), (vi 3 0), (vr 283), (.bool true), (vi 181 0), (vr 284), vn, (vr 285), (vr 286), (vr 287), (vi 557 0), (vi 81 0), (vs "/claim/cut.py" 558)]
def o289 : Obj := ob_fu (vt "function") (inClass (topS 23) 6) "blocks" "Book.blocks" 3 vn vn vn (vs "readround.books" 473) none (vr 288) vn
def o290 : Obj := ob_tu [(vs "parts" 560)]
def o291 (P : Params) : Obj := ob_di [en P "__module__" 501 (vs "readround.books" 473), en P "__firstlineno__" 505 (vi 57 504), en P "__init__" 513 (vr 249), en P "__eq__" 521 (vr 256), en P "__len__" 528 (vr 263), en P "many" 535 (vr 270), en P "sections" 542 (vr 277), en P "long" 548 (vr 282), en P "blocks" 559 (vr 289), en P "__static_attributes__" 561 (vr 290), en P "__dict__" 563 (vr 293), en P "__weakref__" 565 (vr 294), en P "__doc__" 566 vn, en P "__hash__" 567 vn] 5
def o292 : Obj := ⟨(vt "type"), none, .cls (ClassData.mk (Str.ofString "Book") [(vt "object")] [(vr 292), (vt "object")] 291 (Str.ofString "Book") true [] [] false none false), #[none, none, some (vs "Book" 494), some (vs "Book" 502), some (vb "object.__new__"), some (.bool true)]⟩
def o293 : Obj := ob_fi (vt "getset_descriptor") [(vs "__dict__" 562), (vr 292), (vb "function.__dict__"), (vb "function.__dict__#set")]
def o294 : Obj := ob_fi (vt "getset_descriptor") [(vs "__weakref__" 564), (vr 292), (vb "ExceptionGroup.__weakref__"), vn]
def o295 : Obj := ob_fi (vt "super") [(vr 292), (vr 292), (vr 292)]
def o296 : Obj := ob_fi (vt "builtin_function_or_method") [(vb "object.__init_subclass__"), (vr 292)]
def o297 : Obj := ob_tu []
def o298 : Obj := ob_fi vn []
def o299 : Obj := ob_fu vn (topS 25) "is_cut" "is_cut" 0 vn vn vn vn none vn vn
def o300 : Obj := ob_co [(vs "is_cut" 572), (vs "is_cut" 573), (vs "/claim/cut.py" 574), (vi 90 0), (vi 2 0), (vi 0 0), (vi 0 0), (vi 3 0), (vr 297), (.bool true), (vi 181 0), (vr 298), vn, vn, vn, (vr 299), (vi 575 0), (vi 90 0), (vs "/claim/cut.py" 576)]
def o301 : Obj := ob_fu (vt "function") (topS 25) "is_cut" "is_cut" 3 vn vn vn (vs "readround.cuts" 570) none (vr 300) vn
def o302 : Obj := ob_tu []
def o303 : Obj := ob_fi vn []
def o304 : Obj := ob_tu [(vs "book" 581), (vs "limit" 582), (vs "first" 583), (vs "end" 584)]
def o305 : Obj := ob_tu []
def o306 : Obj := ob_fu vn (topS 26) "first_too_long" "first_too_long" 0 vn vn vn vn none vn vn
def o307 : Obj := ob_co [(vs "first_too_long" 578), (vs "first_too_long" 579), (vs "/claim/cut.py" 580), (vi 98 0), (vi 2 0), (vi 0 0), (vi 0 0), (vi 3 0), (vr 302), (.bool true), (vi 181 0), (vr 303), vn, (vr 304), (vr 305), (vr 306), (vi 585 0), (vi 98 0), (vs "/claim/cut.py" 586)]
def o308 : Obj := ob_fu (vt "function") (topS 26) "first_too_long" "first_too_long" 3 vn vn vn (vs "readround.cuts" 570) none (vr 307) vn
def o309 : Obj := ob_tu []
def o310 : Obj := ob_fi vn []
def o311 : Obj := ob_fu vn (topS 27) "longest_block" "longest_block" 0 vn vn vn vn none vn vn
def o312 : Obj := ob_co [(vs "longest_block" 588), (vs "longest_block" 589), (vs "/claim/cut.py" 590), (vi 103 0), (vi 1 0), (vi 0 0), (vi 0 0), (vi 3 0), (vr 309), (.bool true), (vi 181 0), (vr 310), vn, vn, vn, (vr 311), (vi 591 0), (vi 103 0), (vs "/claim/cut.py" 592)]
def o313 : Obj := ob_fu (vt "function") (topS 27) "longest_block" "longest_block" 3 vn vn vn (vs "readround.cuts" 570) none (vr 312) vn
def o314 : Obj := ob_tu []
def o315 : Obj := ob_fi vn []
def o316 : Obj := ob_tu [(vs "book" 597), (vs "limit" 598), (vs "tight" 599), (vs "pieces" 600), (vs "at" 601), (vs "behind" 602), (vs "first" 603), (vs "end" 604)]
def o317 : Obj := ob_tu []
def o318 : Obj := ob_fu vn (topS 28) "fewest" "fewest" 0 vn vn vn vn none vn vn
def o319 : Obj := ob_co [(vs "fewest" 594), (vs "fewest" 595), (vs "/claim/cut.py" 596), (vi 105 0), (vi 2 0), (vi 0 0), (vi 0 0), (vi 3 0), (vr 314), (.bool true), (vi 181 0), (vr 315), vn, (vr 316), (vr 317), (vr 318), (vi 605 0), (vi 105 0), (vs "/claim/cut.py" 606)]
def o320 : Obj := ob_fu (vt "function") (topS 28) "fewest" "fewest" 3 vn vn vn (vs "readround.cuts" 570) none (vr 319) vn
def o321 : Obj := ob_tu []
def o322 : Obj := ob_fi vn []
def o323 : Obj := ob_tu [(vs "book" 611), (vs "many" 612), (vs "low" 613), (vs "high" 614), (vs "middle" 615)]
def o324 : Obj := ob_tu []
def o325 : Obj := ob_fu vn (topS 29) "least_limit" "least_limit" 0 vn vn vn vn none vn vn
def o326 : Obj := ob_co [(vs "least_limit" 608), (vs "least_limit" 609), (vs "/claim/cut.py" 610), (vi 121 0), (vi 2 0), (vi 0 0), (vi 0 0), (vi 3 0), (vr 321), (.bool true), (vi 181 0), (vr 322), vn, (vr 323), (vr 324), (vr 325), (vi 616 0), (vi 121 0), (vs "/claim/cut.py" 617)]
def o327 : Obj := ob_fu (vt "function") (topS 29) "least_limit" "least_limit" 3 vn vn vn (vs "readround.cuts" 570) none (vr 326) vn
def o328 : Obj := ob_tu []
def o329 : Obj := ob_fi vn []
def o330 : Obj := ob_tu [(vs "_law_script" 624), (vs "_law_k" 625), (vs "_law_cell" 626), (vs "_law_found" 627), (vs "_law_j" 628), (vs "_law_one" 629)]
def o331 : Obj := ob_tu []
def o332 : Obj := ob_fu vn (topS 31) "_law_state" "_law_state" 0 vn vn vn vn none vn vn
def o333 : Obj := ob_co [(vs "_law_state" 621), (vs "_law_state" 622), (vs "/claim/cut.py" 623), (vi 134 0), (vi 2 0), (vi 0 0), (vi 0 0), (vi 3 0), (vr 328), (.bool true), (vi 181 0), (vr 329), vn, (vr 330), (vr 331), (vr 332), (vi 630 0), (vi 134 0), (vs "/claim/cut.py" 631)]
def o334 : Obj := ob_fu (vt "function") (topS 31) "_law_state" "_law_state" 3 vn vn vn (vs "law_readround_k09_again_and_shared" 619) none (vr 333) vn
def o335 : Obj := ob_tu []
def o336 : Obj := ob_fi vn []
def o337 : Obj := ob_tu [(vs "_law_draw" 636), (vs "_law_amount" 637), (vs "_law_found" 638)]
def o338 : Obj := ob_tu []
def o339 : Obj := ob_fu vn (topS 32) "_law_next" "_law_next" 0 vn vn vn vn none vn vn
def o340 : Obj := ob_co [(vs "_law_next" 633), (vs "_law_next" 634), (vs "/claim/cut.py" 635), (vi 143 0), (vi 2 0), (vi 0 0), (vi 0 0), (vi 3 0), (vr 335), (.bool true), (vi 181 0), (vr 336), vn, (vr 337), (vr 338), (vr 339), (vi 639 0), (vi 143 0), (vs "/claim/cut.py" 640)]
def o341 : Obj := ob_fu (vt "function") (topS 32) "_law_next" "_law_next" 3 vn vn vn (vs "law_readround_k09_again_and_shared" 619) none (vr 340) vn
def o342 : Obj := ob_tu []
def o343 : Obj := ob_fi vn []
def o344 : Obj := ob_tu [(vs "_law_draw" 645), (vs "_law_some" 646)]
def o345 : Obj := ob_tu []
def o346 : Obj := ob_fu vn (topS 33) "_law_pick" "_law_pick" 0 vn vn vn vn none vn vn
def o347 : Obj := ob_co [(vs "_law_pick" 642), (vs "_law_pick" 643), (vs "/claim/cut.py" 644), (vi 147 0), (vi 2 0), (vi 0 0), (vi 0 0), (vi 3 0), (vr 342), (.bool true), (vi 181 0), (vr 343), vn, (vr 344), (vr 345), (vr 346), (vi 647 0), (vi 147 0), (vs "/claim/cut.py" 648)]
def o348 : Obj := ob_fu (vt "function") (topS 33) "_law_pick" "_law_pick" 3 vn vn vn (vs "law_readround_k09_again_and_shared" 619) none (vr 347) vn
def o349 : Obj := ob_tu []
def o350 : Obj := ob_fi vn []
def o351 : Obj := ob_fu vn (topS 34) "_law_word" "_law_word" 0 vn vn vn vn none vn vn
def o352 : Obj := ob_co [(vs "_law_word" 650), (vs "_law_word" 651), (vs "/claim/cut.py" 652), (vi 149 0), (vi 1 0), (vi 0 0), (vi 0 0), (vi 3 0), (vr 349), (.bool true), (vi 181 0), (vr 350), vn, vn, vn, (vr 351), (vi 653 0), (vi 149 0), (vs "/claim/cut.py" 654)]
def o353 : Obj := ob_fu (vt "function") (topS 34) "_law_word" "_law_word" 3 vn vn vn (vs "law_readround_k09_again_and_shared" 619) none (vr 352) vn
def o354 : Obj := ob_tu []
def o355 : Obj := ob_fi vn []
def o356 : Obj := ob_tu [(vs "_law_deed" 659), (vs "_law_caught" 660), (vs "_law_e" 661)]
def o357 : Obj := ob_tu []
def o358 : Obj := ob_fu vn (topS 35) "_law_tried" "_law_tried" 0 vn vn vn vn none vn vn
def o359 : Obj := ob_co [(vs "_law_tried" 656), (vs "_law_tried" 657), (vs "/claim/cut.py" 658), (vi 158 0), (vi 1 0), (vi 0 0), (vi 0 0), (vi 3 0), (vr 354), (.bool true), (vi 181 0), (vr 355), vn, (vr 356), (vr 357), (vr 358), (vi 662 0), (vi 158 0), (vs "/claim/cut.py" 663)]
def o360 : Obj := ob_fu (vt "function") (topS 35) "_law_tried" "_law_tried" 3 vn vn vn (vs "law_readround_k09_again_and_shared" 619) none (vr 359) vn
def o361 : Obj := ob_tu []
def o362 : Obj := ob_fi vn []
def o363 : Obj := ob_tu [(vs "_law_draw" 668), (vs "_law_most" 669), (vs "_law_size" 670), (vs "_law_top" 671), (vs "_law_share" 672), (vs "_law_many" 673), (vs "_law_found" 674), (vs "_law_k" 675), (vs "_law_at" 676)]
def o364 : Obj := ob_tu []
def o365 : Obj := ob_fu vn (topS 36) "_law_sections" "_law_sections" 0 vn vn vn vn none vn vn
def o366 : Obj := ob_co [(vs "_law_sections" 665), (vs "_law_sections" 666), (vs "/claim/cut.py" 667), (vi 165 0), (vi 2 0), (vi 0 0), (vi 0 0), (vi 3 0), (vr 361), (.bool true), (vi 181 0), (vr 362), vn, (vr 363), (vr 364), (vr 365), (vi 677 0), (vi 165 0), (vs "/claim/cut.py" 678)]
def o367 : Obj := ob_fu (vt "function") (topS 36) "_law_sections" "_law_sections" 3 vn vn vn (vs "law_readround_k09_again_and_shared" 619) none (vr 366) vn
def o368 : Obj := ob_tu []
def o369 : Obj := ob_fi vn []
def o370 : Obj := ob_tu [(vs "_law_sections_here" 683), (vs "_law_found" 684), (vs "_law_first" 685), (vs "_law_at" 686), (vs "_law_one" 687)]
def o371 : Obj := ob_tu []
def o372 : Obj := ob_fu vn (topS 37) "_law_blocks" "_law_blocks" 0 vn vn vn vn none vn vn
def o373 : Obj := ob_co [(vs "_law_blocks" 680), (vs "_law_blocks" 681), (vs "/claim/cut.py" 682), (vi 180 0), (vi 1 0), (vi 0 0), (vi 0 0), (vi 3 0), (vr 368), (.bool true), (vi 181 0), (vr 369), vn, (vr 370), (vr 371), (vr 372), (vi 688 0), (vi 180 0), (vs "/claim/cut.py" 689)]
def o374 : Obj := ob_fu (vt "function") (topS 37) "_law_blocks" "_law_blocks" 3 vn vn vn (vs "law_readround_k09_again_and_shared" 619) none (vr 373) vn
def o375 : Obj := ob_tu []
def o376 : Obj := ob_fi vn []
def o377 : Obj := ob_fu vn (topS 38) "_law_long" "_law_long" 0 vn vn vn vn none vn vn
def o378 : Obj := ob_co [(vs "_law_long" 691), (vs "_law_long" 692), (vs "/claim/cut.py" 693), (vi 188 0), (vi 3 0), (vi 0 0), (vi 0 0), (vi 3 0), (vr 375), (.bool true), (vi 181 0), (vr 376), vn, vn, vn, (vr 377), (vi 694 0), (vi 188 0), (vs "/claim/cut.py" 695)]
def o379 : Obj := ob_fu (vt "function") (topS 38) "_law_long" "_law_long" 3 vn vn vn (vs "law_readround_k09_again_and_shared" 619) none (vr 378) vn
def o380 : Obj := ob_tu []
def o381 : Obj := ob_fi vn []
def o382 : Obj := ob_fu vn (topS 39) "_law_limit" "_law_limit" 0 vn vn vn vn none vn vn
def o383 : Obj := ob_co [(vs "_law_limit" 697), (vs "_law_limit" 698), (vs "/claim/cut.py" 699), (vi 190 0), (vi 2 0), (vi 0 0), (vi 0 0), (vi 3 0), (vr 380), (.bool true), (vi 181 0), (vr 381), vn, vn, vn, (vr 382), (vi 700 0), (vi 190 0), (vs "/claim/cut.py" 701)]
def o384 : Obj := ob_fu (vt "function") (topS 39) "_law_limit" "_law_limit" 3 vn vn vn (vs "law_readround_k09_again_and_shared" 619) none (vr 383) vn
def o385 : Obj := ob_tu []
def o386 : Obj := ob_fi vn []
def o387 : Obj := ob_tu [(vs "_law_sections_here" 706), (vs "_law_limit_here" 707), (vs "_law_found" 708), (vs "_law_at" 709), (vs "_law_first" 710), (vs "_law_end" 711)]
def o388 : Obj := ob_tu []
def o389 : Obj := ob_fu vn (topS 40) "_law_cut" "_law_cut" 0 vn vn vn vn none vn vn
def o390 : Obj := ob_co [(vs "_law_cut" 703), (vs "_law_cut" 704), (vs "/claim/cut.py" 705), (vi 200 0), (vi 2 0), (vi 0 0), (vi 0 0), (vi 3 0), (vr 385), (.bool true), (vi 181 0), (vr 386), vn, (vr 387), (vr 388), (vr 389), (vi 712 0), (vi 200 0), (vs "/claim/cut.py" 713)]
def o391 : Obj := ob_fu (vt "function") (topS 40) "_law_cut" "_law_cut" 3 vn vn vn (vs "law_readround_k09_again_and_shared" 619) none (vr 390) vn
def o392 : Obj := ob_tu []
def o393 : Obj := ob_fi vn []
def o394 : Obj := ob_tu [(vs "_law_draw" 718), (vs "_law_book" 719), (vs "_law_sections_here" 720), (vs "_law_way" 721), (vs "_law_due" 722), (vs "_law_turn" 723), (vs "_law_found" 724)]
def o395 : Obj := ob_tu []
def o396 : Obj := ob_fu vn (topS 41) "_law_lists" "_law_lists" 0 vn vn vn vn none vn vn
def o397 : Obj := ob_co [(vs "_law_lists" 715), (vs "_law_lists" 716), (vs "/claim/cut.py" 717), (vi 210 0), (vi 4 0), (vi 0 0), (vi 0 0), (vi 3 0), (vr 392), (.bool true), (vi 181 0), (vr 393), vn, (vr 394), (vr 395), (vr 396), (vi 725 0), (vi 210 0), (vs "/claim/cut.py" 726)]
def o398 : Obj := ob_fu (vt "function") (topS 41) "_law_lists" "_law_lists" 3 vn vn vn (vs "law_readround_k09_again_and_shared" 619) none (vr 397) vn
def o399 : Obj := ob_tu []
def o400 : Obj := ob_fi vn []
def o401 : Obj := ob_tu [(vs "_law_draw" 731), (vs "_law_book" 732), (vs "_law_sections_here" 733), (vs "_law_held" 734), (vs "_law_way" 735), (vs "_law_end" 736), (vs "_law_found" 737), (vs "_law_due" 738), (vs "_law_less" 739), (vs "_law_other" 740)]
def o402 : Obj := ob_tu [(vs "_law_book" 741), (vs "_law_limit_here" 742), (vs "_law_many" 743)]
def o403 : Obj := ob_fu vn (topS 42) "_law_asked" "_law_asked" 0 vn vn vn vn none vn vn
def o404 : Obj := ob_co [(vs "_law_asked" 728), (vs "_law_asked" 729), (vs "/claim/cut.py" 730), (vi 219 0), (vi 4 0), (vi 0 0), (vi 0 0), (vi 3 0), (vr 399), (.bool true), (vi 181 0), (vr 400), vn, (vr 401), (vr 402), (vr 403), (vi 744 0), (vi 219 0), (vs "/claim/cut.py" 745)]
def o405 : Obj := ob_fu (vt "function") (topS 42) "_law_asked" "_law_asked" 3 vn vn vn (vs "law_readround_k09_again_and_shared" 619) none (vr 404) vn
def o406 : Obj := ob_tu []
def o407 : Obj := ob_fi vn []
def o408 : Obj := ob_fu vn (topS 43) "law" "law" 0 vn vn vn vn none vn vn
def o409 : Obj := ob_co [(vs "law" 747), (vs "law" 748), (vs "/claim/cut.py" 749), (vi 245 0), (vi 1 0), (vi 0 0), (vi 0 0), (vi 3 0), (vr 406), (.bool true), (vi 181 0), (vr 407), vn, vn, vn, (vr 408), (vi 750 0), (vi 245 0), (vs "/claim/cut.py" 751)]
def o410 : Obj := ob_fu (vt "function") (topS 43) "law" "law" 3 vn vn vn (vs "law_readround_k09_again_and_shared" 619) none (vr 409) vn
def TB (P : Params) : BT := (bn (boot_o_0 P) (bn (boot_o_1 P) (bn (boot_o_3 P) (bn (boot_o_7 P) bz bz) bz) (bn (boot_o_5 P) (bn (boot_o_9 P) bz bz) bz)) (bn (boot_o_2 P) (bn (boot_o_4 P) (bn (boot_o_8 P) bz bz) bz) (bn (boot_o_6 P) (bn (boot_o_10 P) bz bz) bz)))
def T0 (P : Params) : BT := (bn (boot_o_0 P) (bn (boot_o_1 P) (bn (boot_o_3 P) (bn (boot_o_7 P) bz bz) (bn o11 bz bz)) (bn (boot_o_5 P) (bn (boot_o_9 P) bz bz) (bn o13 bz bz))) (bn (boot_o_2 P) (bn (boot_o_4 P) (bn (boot_o_8 P) bz bz) (bn o12 bz bz)) (bn (boot_o_6 P) (bn (boot_o_10 P) bz bz) (bn o14 bz bz))))
abbrev T1 : Params → BT := T0
def T2 (P : Params) : BT := (bn (boot_o_0 P) (bn (boot_o_1 P) (bn (o3 P) (bn (boot_o_7 P) (bn o15 (bn o31 (bn o63 bz bz) (bn o95 bz bz)) (bn o47 (bn o79 bz bz) (bn o111 bz bz))) (bn (o23 P) (bn o39 (bn o71 bz bz) (bn o103 bz bz)) (bn o55 (bn o87 bz bz) bz))) (bn o11 (bn o19 (bn o35 (bn o67 bz bz) (bn o99 bz bz)) (bn o51 (bn o83 bz bz) bz)) (bn o27 (bn o43 (bn o75 bz bz) (bn o107 bz bz)) (bn o59 (bn o91 bz bz) bz)))) (bn (boot_o_5 P) (bn (boot_o_9 P) (bn (o17 P) (bn o33 (bn o65 bz bz) (bn o97 bz bz)) (bn o49 (bn o81 bz bz) bz)) (bn o25 (bn o41 (bn o73 bz bz) (bn o105 bz bz)) (bn o57 (bn o89 bz bz) bz))) (bn o13 (bn o21 (bn o37 (bn o69 bz bz) (bn o101 bz bz)) (bn o53 (bn o85 bz bz) bz)) (bn o29 (bn o45 (bn o77 bz bz) (bn o109 bz bz)) (bn o61 (bn o93 bz bz) bz))))) (bn (boot_o_2 P) (bn (boot_o_4 P) (bn (boot_o_8 P) (bn o16 (bn o32 (bn o64 bz bz) (bn (o96 P) bz bz)) (bn (o48 P) (bn o80 bz bz) bz)) (bn o24 (bn o40 (bn (o72 P) bz bz) (bn o104 bz bz)) (bn o56 (bn o88 bz bz) bz))) (bn o12_1 (bn o20 (bn (o36 P) (bn o68 bz bz) (bn o100 bz bz)) (bn o52 (bn (o84 P) bz bz) bz)) (bn o28 (bn o44 (bn o76 bz bz) (bn (o108 P) bz bz)) (bn (o60 P) (bn o92 bz bz) bz)))) (bn (boot_o_6 P) (bn (boot_o_10 P) (bn o18 (bn o34 (bn (o66 P) bz bz) (bn o98 bz bz)) (bn o50 (bn o82 bz bz) bz)) (bn o26 (bn (o42 P) (bn o74 bz bz) (bn o106 bz bz)) (bn o58 (bn (o90 P) bz bz) bz))) (bn o14 (bn o22 (bn o38 (bn o70 bz bz) (bn (o102 P) bz bz)) (bn (o54 P) (bn o86 bz bz) bz)) (bn (o30 P) (bn o46 (bn (o78 P) bz bz) (bn o110 bz bz)) (bn o62 (bn o94 bz bz) bz))))))
def T3 (P : Params) : BT := (bn (boot_o_0 P) (bn (boot_o_1 P) (bn (o3_1 P) (bn (boot_o_7 P) (bn o15 (bn o31 (bn o63 (bn o127 bz bz) (bn o191 bz bz)) (bn o95 (bn o159 bz bz) bz)) (bn o47 (bn o79 (bn o143 bz bz) (bn o207 bz bz)) (bn o111 (bn o175 bz bz) bz))) (bn (o23 P) (bn o39 (bn o71 (bn o135 bz bz) (bn o199 bz bz)) (bn o103 (bn o167 bz bz) bz)) (bn o55 (bn o87 (bn (o151 P) bz bz) (bn o215 bz bz)) (bn o119 (bn o183 bz bz) bz)))) (bn o11 (bn o19 (bn o35 (bn o67 (bn o131 bz bz) (bn o195 bz bz)) (bn o99 (bn o163 bz bz) bz)) (bn o51 (bn o83 (bn o147 bz bz) (bn o211 bz bz)) (bn o115 (bn o179 bz bz) bz))) (bn o27 (bn o43 (bn o75 (bn o139 bz bz) (bn o203 bz bz)) (bn o107 (bn o171 bz bz) bz)) (bn o59 (bn o91 (bn o155 bz bz) bz) (bn o123 (bn o187 bz bz) bz))))) (bn (boot_o_5 P) (bn (boot_o_9 P) (bn (o17 P) (bn o33 (bn o65 (bn o129 bz bz) (bn o193 bz bz)) (bn o97 (bn o161 bz bz) bz)) (bn o49 (bn o81 (bn o145 bz bz) (bn o209 bz bz)) (bn o113 (bn o177 bz bz) bz))) (bn o25 (bn o41 (bn o73 (bn o137 bz bz) (bn o201 bz bz)) (bn o105 (bn o169 bz bz) bz)) (bn o57 (bn o89 (bn o153 bz bz) bz) (bn o121 (bn o185 bz bz) bz)))) (bn o13 (bn o21 (bn o37 (bn o69 (bn o133 bz bz) (bn o197 bz bz)) (bn o101 (bn o165 bz bz) bz)) (bn o53 (bn o85 (bn o149 bz bz) (bn (o213 P) bz bz)) (bn o117 (bn o181 bz bz) bz))) (bn o29 (bn o45 (bn o77 (bn o141 bz bz) (bn o205 bz bz)) (bn o109 (bn o173 bz bz) bz)) (bn o61 (bn o93 (bn (o157 P) bz bz) bz) (bn o125 (bn o189 bz bz) bz)))))) (bn (boot_o_2 P) (bn (boot_o_4 P) (bn (boot_o_8 P) (bn o16 (bn o32 (bn o64 (bn o128 bz bz) (bn o192 bz bz)) (bn (o96 P) (bn o160 bz bz) bz)) (bn (o48 P) (bn o80 (bn o144 bz bz) (bn o208 bz bz)) (bn o112 (bn (o176 P) bz bz) bz))) (bn o24_1 (bn o40 (bn (o72 P) (bn o136 bz bz) (bn (o200 P) bz bz)) (bn o104 (bn o168 bz bz) bz)) (bn o56 (bn o88 (bn o152 bz bz) (bn o216 bz bz)) (bn (o120 P) (bn o184 bz bz) bz)))) (bn o12_2 (bn o20 (bn (o36 P) (bn o68 (bn (o132 P) bz bz) (bn o196 bz bz)) (bn o100 (bn o164 bz bz) bz)) (bn o52 (bn (o84 P) (bn o148 bz bz) (bn o212 bz bz)) (bn o116 (bn o180 bz bz) bz))) (bn o28 (bn o44 (bn o76 (bn o140 bz bz) (bn o204 bz bz)) (bn (o108 P) (bn o172 bz bz) bz)) (bn (o60 P) (bn o92 (bn o156 bz bz) bz) (bn o124 (bn (o188 P) bz bz) bz))))) (bn (boot_o_6 P) (bn (boot_o_10 P) (bn o18 (bn o34 (bn (o66 P) (bn o130 bz bz) (bn (o194 P) bz bz)) (bn o98 (bn o162 bz bz) bz)) (bn o50 (bn o82 (bn o146 bz bz) (bn o210 bz bz)) (bn (o114 P) (bn o178 bz bz) bz))) (bn o26 (bn (o42 P) (bn o74 (bn (o138 P) bz bz) (bn o202 bz bz)) (bn o106 (bn (o170 P) bz bz) bz)) (bn o58 (bn (o90 P) (bn o154 bz bz) bz) (bn o122 (bn o186 bz bz) bz)))) (bn o14 (bn o22 (bn o38 (bn o70 (bn o134 bz bz) (bn o198 bz bz)) (bn (o102 P) (bn o166 bz bz) bz)) (bn (o54 P) (bn o86 (bn o150 bz bz) (bn o214 bz bz)) (bn o118 (bn (o182 P) bz bz) bz))) (bn (o30 P) (bn o46 (bn (o78 P) (bn o142 bz bz) (bn o206 bz bz)) (bn o110 (bn o174 bz bz) bz)) (bn o62 (bn o94 (bn o158 bz bz) bz) (bn (o126 P) (bn o190 bz bz) bz)))))))
def T4 (P : Params) : BT := (bn (boot_o_0 P) (bn (boot_o_1 P) (bn (o3_2 P) (bn (boot_o_7 P) (bn o15 (bn o31 (bn o63 (bn o127 (bn o255 bz bz) (bn o383 bz bz)) (bn o191 (bn o319 bz bz) bz)) (bn o95 (bn o159 (bn o287 bz bz) bz) (bn o223 (bn o351 bz bz) bz))) (bn o47 (bn o79 (bn o143 (bn o271 bz bz) (bn o399 bz bz)) (bn o207 (bn o335 bz bz) bz)) (bn o111 (bn o175 (bn o303 bz bz) bz) (bn o239 (bn o367 bz bz) bz)))) (bn (o23 P) (bn o39 (bn o71 (bn o135 (bn o263 bz bz) (bn o391 bz bz)) (bn o199 (bn o327 bz bz) bz)) (bn o103 (bn o167 (bn o295 bz bz) bz) (bn o231 (bn o359 bz bz) bz))) (bn o55 (bn o87 (bn (o151 P) (bn o279 bz bz) (bn o407 bz bz)) (bn o215 (bn o343 bz bz) bz)) (bn o119 (bn o183 (bn o311 bz bz) bz) (bn o247 (bn o375 bz bz) bz))))) (bn o11 (bn o19 (bn o35 (bn o67 (bn o131 (bn o259 bz bz) (bn o387 bz bz)) (bn o195 (bn o323 bz bz) bz)) (bn o99 (bn o163 (bn (o291 P) bz bz) bz) (bn o227 (bn o355 bz bz) bz))) (bn o51 (bn o83 (bn o147 (bn o275 bz bz) (bn o403 bz bz)) (bn o211 (bn o339 bz bz) bz)) (bn o115 (bn o179 (bn o307 bz bz) bz) (bn o243 (bn o371 bz bz) bz)))) (bn o27 (bn o43 (bn o75 (bn o139 (bn o267 bz bz) (bn o395 bz bz)) (bn o203 (bn o331 bz bz) bz)) (bn o107 (bn o171 (bn o299 bz bz) bz) (bn o235 (bn o363 bz bz) bz))) (bn o59 (bn o91 (bn o155 (bn o283 bz bz) bz) (bn o219 (bn o347 bz bz) bz)) (bn o123 (bn o187 (bn o315 bz bz) bz) (bn o251 (bn o379 bz bz) bz)))))) (bn (boot_o_5 P) (bn (boot_o_9 P) (bn (o17 P) (bn o33 (bn o65 (bn o129 (bn o257 bz bz) (bn o385 bz bz)) (bn o193 (bn o321 bz bz) bz)) (bn o97 (bn o161 (bn o289 bz bz) bz) (bn o225 (bn o353 bz bz) bz))) (bn o49 (bn o81 (bn o145 (bn o273 bz bz) (bn o401 bz bz)) (bn o209 (bn o337 bz bz) bz)) (bn o113 (bn o177 (bn o305 bz bz) bz) (bn o241 (bn o369 bz bz) bz)))) (bn o25 (bn o41 (bn o73 (bn o137 (bn o265 bz bz) (bn o393 bz bz)) (bn o201 (bn o329 bz bz) bz)) (bn o105 (bn o169 (bn o297 bz bz) bz) (bn o233 (bn o361 bz bz) bz))) (bn o57 (bn o89 (bn o153 (bn o281 bz bz) (bn o409 bz bz)) (bn o217 (bn o345 bz bz) bz)) (bn o121 (bn o185 (bn o313 bz bz) bz) (bn o249 (bn o377 bz bz) bz))))) (bn o13 (bn o21 (bn o37 (bn o69 (bn o133 (bn o261 bz bz) (bn o389 bz bz)) (bn o197 (bn o325 bz bz) bz)) (bn o101 (bn o165 (bn o293 bz bz) bz) (bn o229 (bn o357 bz bz) bz))) (bn o53 (bn o85 (bn o149 (bn o277 bz bz) (bn o405 bz bz)) (bn (o213 P) (bn o341 bz bz) bz)) (bn o117 (bn o181 (bn o309 bz bz) bz) (bn o245 (bn o373 bz bz) bz)))) (bn o29 (bn o45 (bn o77 (bn o141 (bn o269 bz bz) (bn o397 bz bz)) (bn o205 (bn o333 bz bz) bz)) (bn o109 (bn o173 (bn o301 bz bz) bz) (bn o237 (bn o365 bz bz) bz))) (bn o61 (bn o93 (bn (o157 P) (bn o285 bz bz) bz) (bn o221 (bn o349 bz bz) bz)) (bn o125 (bn o189 (bn o317 bz bz) bz) (bn o253 (bn o381 bz bz) bz))))))) (bn (boot_o_2 P) (bn (boot_o_4 P) (bn (boot_o_8 P) (bn o16 (bn o32 (bn o64 (bn o128 (bn o256 bz bz) (bn o384 bz bz)) (bn o192 (bn o320 bz bz) bz)) (bn (o96 P) (bn o160 (bn o288 bz bz) bz) (bn o224 (bn o352 bz bz) bz))) (bn (o48 P) (bn o80 (bn o144 (bn o272 bz bz) (bn o400 bz bz)) (bn o208 (bn o336 bz bz) bz)) (bn o112 (bn (o176 P) (bn o304 bz bz) bz) (bn o240 (bn o368 bz bz) bz)))) (bn o24_1 (bn o40 (bn (o72 P) (bn o136 (bn o264 bz bz) (bn o392 bz bz)) (bn (o200 P) (bn o328 bz bz) bz)) (bn o104 (bn o168 (bn o296 bz bz) bz) (bn o232 (bn o360 bz bz) bz))) (bn o56 (bn o88 (bn o152 (bn o280 bz bz) (bn o408 bz bz)) (bn o216 (bn o344 bz bz) bz)) (bn (o120 P) (bn o184 (bn o312 bz bz) bz) (bn o248 (bn o376 bz bz) bz))))) (bn o12_3 (bn o20 (bn (o36 P) (bn o68 (bn (o132 P) (bn o260 bz bz) (bn o388 bz bz)) (bn o196 (bn o324 bz bz) bz)) (bn o100 (bn o164 (bn o292 bz bz) bz) (bn o228 (bn o356 bz bz) bz))) (bn o52 (bn (o84 P) (bn o148 (bn o276 bz bz) (bn o404 bz bz)) (bn o212 (bn o340 bz bz) bz)) (bn o116 (bn o180 (bn o308 bz bz) bz) (bn o244 (bn o372 bz bz) bz)))) (bn o28 (bn o44 (bn o76 (bn o140 (bn o268 bz bz) (bn o396 bz bz)) (bn o204 (bn o332 bz bz) bz)) (bn (o108 P) (bn o172 (bn o300 bz bz) bz) (bn o236 (bn o364 bz bz) bz))) (bn (o60 P) (bn o92 (bn o156 (bn o284 bz bz) bz) (bn o220 (bn o348 bz bz) bz)) (bn o124 (bn (o188 P) (bn o316 bz bz) bz) (bn o252 (bn o380 bz bz) bz)))))) (bn (boot_o_6 P) (bn (boot_o_10 P) (bn o18 (bn o34 (bn (o66 P) (bn o130 (bn o258 bz bz) (bn o386 bz bz)) (bn (o194 P) (bn o322 bz bz) bz)) (bn o98 (bn o162 (bn o290 bz bz) bz) (bn o226 (bn o354 bz bz) bz))) (bn o50 (bn o82 (bn o146 (bn o274 bz bz) (bn o402 bz bz)) (bn o210 (bn o338 bz bz) bz)) (bn (o114 P) (bn o178 (bn o306 bz bz) bz) (bn o242 (bn o370 bz bz) bz)))) (bn o26 (bn (o42 P) (bn o74 (bn (o138 P) (bn o266 bz bz) (bn o394 bz bz)) (bn o202 (bn o330 bz bz) bz)) (bn o106 (bn (o170 P) (bn o298 bz bz) bz) (bn o234 (bn o362 bz bz) bz))) (bn o58 (bn (o90 P) (bn o154 (bn o282 bz bz) (bn o410 bz bz)) (bn o218 (bn o346 bz bz) bz)) (bn o122 (bn o186 (bn o314 bz bz) bz) (bn o250 (bn o378 bz bz) bz))))) (bn o14 (bn o22 (bn o38 (bn o70 (bn o134 (bn o262 bz bz) (bn o390 bz bz)) (bn o198 (bn o326 bz bz) bz)) (bn (o102 P) (bn o166 (bn o294 bz bz) bz) (bn o230 (bn o358 bz bz) bz))) (bn (o54 P) (bn o86 (bn o150 (bn o278 bz bz) (bn o406 bz bz)) (bn o214 (bn o342 bz bz) bz)) (bn o118 (bn (o182 P) (bn o310 bz bz) bz) (bn o246 (bn o374 bz bz) bz)))) (bn (o30 P) (bn o46 (bn (o78 P) (bn o142 (bn o270 bz bz) (bn o398 bz bz)) (bn o206 (bn o334 bz bz) bz)) (bn o110 (bn o174 (bn o302 bz bz) bz) (bn (o238 P) (bn o366 bz bz) bz))) (bn o62 (bn o94 (bn o158 (bn o286 bz bz) bz) (bn o222 (bn o350 bz bz) bz)) (bn (o126 P) (bn o190 (bn o318 bz bz) bz) (bn o254 (bn o382 bz bz) bz))))))))
noncomputable abbrev S0 (w : World) (os : OsState) : SharedT := stA' T0 15 187 w os
noncomputable abbrev S1 (w : World) (os : OsState) : SharedT := stA' T1 15 187 w os
noncomputable abbrev S2 (w : World) (os : OsState) : SharedT := stA' T2 112 319 w os
noncomputable abbrev S3 (w : World) (os : OsState) : SharedT := stA' T3 217 462 w os
noncomputable abbrev S4 (w : World) (os : OsState) : SharedT := stA' T4 411 753 w os
theorem cpB (w : World) : putAll (boot_heap w.params).objs.toList .nil 0 = some (TB w.params, 11) := by kernel_rfl
theorem cpP (w : World) (os : OsState) : stepsF (stQ R.prog w) 11 (bootAnn w) 12 (bootT w os (TB w.params, 11)) (topStub R.prog) = some (S0 w os, ⟨denQ tabQ (cdOf R.prog env0), cdOf R.prog env0, ⟨0, 0, 0, 0⟩, [topFrame ⟨0, 0, 0, 0⟩]⟩) := by kernel_rfl
theorem cpK (w : World) (os : OsState) : pieceF (stQ R.prog w) 11 (bootAnn w) 1 1 (S0 w os) (blockOf (behindTheImports R.prog) env0 (cdOf R.prog env0) ⟨0, 0, 0, 0⟩ [topFrame ⟨0, 0, 0, 0⟩]) = some (.next, S1 w os, cdOf R.prog env0, ⟨0, 0, 0, 0⟩) := by kernel_rfl
set_option maxHeartbeats 0 in
theorem cp1 (w : World) (os : OsState) : pieceF (stQ R.prog w) 11 (bootAnn w) 1 1687 (S1 w os) (piecesOf (((behindTheImports R.prog).drop 0).take 9) env0 (cdOf R.prog env0) ⟨0, 0, 0, 0⟩ [topFrame ⟨0, 0, 0, 0⟩]) = some (.next, S2 w os, cdOf R.prog env0, ⟨16, 0, 17, 8⟩) := by kernel_rfl
set_option maxHeartbeats 0 in
theorem cp2 (w : World) (os : OsState) : pieceF (stQ R.prog w) 11 (bootAnn w) 1 1592 (S2 w os) (piecesOf (((behindTheImports R.prog).drop 9).take 7) env0 (cdOf R.prog env0) ⟨16, 0, 17, 8⟩ [topFrame ⟨0, 0, 0, 0⟩]) = some (.next, S3 w os, cdOf R.prog env0, ⟨38, 0, 42, 26⟩) := by kernel_rfl
set_option maxHeartbeats 0 in
theorem cp3 (w : World) (os : OsState) : pieceF (stQ R.prog w) 11 (bootAnn w) 1 1126 (S3 w os) (piecesOf (((behindTheImports R.prog).drop 16).take 28) env0 (cdOf R.prog env0) ⟨38, 0, 42, 26⟩ [topFrame ⟨0, 0, 0, 0⟩]) = some (.next, S4 w os, cdOf R.prog env0, ⟨245, 0, 264, 86⟩) := by kernel_rfl
theorem cpL (w : World) (os : OsState) : goF (stQ R.prog w) 11 (bootAnn w) 5 (S4 w os) ⟨doneF .next, cdOf R.prog env0, ⟨245, 0, 264, 86⟩, [topFrame ⟨0, 0, 0, 0⟩]⟩ = some (S4 w os) := by kernel_rfl
noncomputable abbrev SE (w : World) (os : OsState) : SharedT := S4 w os
set_option maxHeartbeats 0 in
theorem cpTop (w : World) (os : OsState) : topRun treeTable R.prog w (boot_heap w.params).objs.size (bootAnn w) 100000 ⟨boot_heap w.params, #[], boot_drawn, boot_toks, os⟩ (topStub R.prog) = some (SE w os).abs :=
  cp_mono (N := 4423) rfl (cp_boot (cpB w) (cp_pre (cpP w os) (cp_block (cpK w os) (cp_piece (cp1 w os) (cp_piece (cp2 w os) (cp_piece (cp3 w os) (cp_last (by kernel_rfl) (cpL w os))))))))
end
abbrev s_law_state : Stmt := topS 31
abbrev s_law_next : Stmt := topS 32
abbrev s_law_pick : Stmt := topS 33
abbrev s_law_sections : Stmt := topS 36
abbrev s_is_number : Stmt := topS 17
abbrev s_is_section : Stmt := topS 21
abbrev s_are_sections : Stmt := topS 22
abbrev s_Book_init : Stmt := inClass (topS 23) 0
abbrev s_law_long : Stmt := topS 38
abbrev s_law_blocks : Stmt := topS 37
abbrev s_law_limit : Stmt := topS 39
abbrev s_Book_sections : Stmt := inClass (topS 23) 4
abbrev s_Book_blocks : Stmt := inClass (topS 23) 6
abbrev s_law_lists : Stmt := topS 41
abbrev s_Book_many : Stmt := inClass (topS 23) 3
abbrev s_Book_long : Stmt := inClass (topS 23) 5
abbrev s_longest_block : Stmt := topS 27
abbrev s_first_too_long : Stmt := topS 26
abbrev s_TooTight_init : Stmt := inClass (topS 11) 0
abbrev s_fewest : Stmt := topS 28
abbrev s_least_limit : Stmt := topS 29
abbrev s_law_cut : Stmt := topS 40
abbrev s_law_word : Stmt := topS 34
abbrev s_law_tried : Stmt := topS 35
abbrev s_is_cut : Stmt := topS 25
abbrev s_law_asked : Stmt := topS 42
abbrev s_law : Stmt := topS 43
def dd_law_state : He.DefD := ⟨("_law_state", none), "_law_state", "_law_state", defArgs s_law_state, defBody s_law_state, defScope s_law_state, [], []⟩
def dd_law_next : He.DefD := ⟨("_law_next", none), "_law_next", "_law_next", defArgs s_law_next, defBody s_law_next, defScope s_law_next, [], []⟩
def dd_law_pick : He.DefD := ⟨("_law_pick", none), "_law_pick", "_law_pick", defArgs s_law_pick, defBody s_law_pick, defScope s_law_pick, [], []⟩
def dd_law_sections : He.DefD := ⟨("_law_sections", none), "_law_sections", "_law_sections", defArgs s_law_sections, defBody s_law_sections, defScope s_law_sections, [], []⟩
def dd_is_number : He.DefD := ⟨("is_number", none), "is_number", "is_number", defArgs s_is_number, defBody s_is_number, defScope s_is_number, [], []⟩
def dd_is_section : He.DefD := ⟨("is_section", none), "is_section", "is_section", defArgs s_is_section, defBody s_is_section, defScope s_is_section, [], []⟩
def dd_are_sections : He.DefD := ⟨("are_sections", none), "are_sections", "are_sections", defArgs s_are_sections, defBody s_are_sections, defScope s_are_sections, [], []⟩
def dd_Book_init : He.DefD := ⟨("Book", some "__init__"), "__init__", "Book.__init__", defArgs s_Book_init, defBody s_Book_init, defScope s_Book_init, [], []⟩
def dd_law_long : He.DefD := ⟨("_law_long", none), "_law_long", "_law_long", defArgs s_law_long, defBody s_law_long, defScope s_law_long, [], []⟩
def dd_law_blocks : He.DefD := ⟨("_law_blocks", none), "_law_blocks", "_law_blocks", defArgs s_law_blocks, defBody s_law_blocks, defScope s_law_blocks, [], []⟩
def dd_law_limit : He.DefD := ⟨("_law_limit", none), "_law_limit", "_law_limit", defArgs s_law_limit, defBody s_law_limit, defScope s_law_limit, [], []⟩
def dd_Book_sections : He.DefD := ⟨("Book", some "sections"), "sections", "Book.sections", defArgs s_Book_sections, defBody s_Book_sections, defScope s_Book_sections, [], []⟩
def dd_Book_blocks : He.DefD := ⟨("Book", some "blocks"), "blocks", "Book.blocks", defArgs s_Book_blocks, defBody s_Book_blocks, defScope s_Book_blocks, [], []⟩
def dd_law_lists : He.DefD := ⟨("_law_lists", none), "_law_lists", "_law_lists", defArgs s_law_lists, defBody s_law_lists, defScope s_law_lists, [], []⟩
def dd_Book_many : He.DefD := ⟨("Book", some "many"), "many", "Book.many", defArgs s_Book_many, defBody s_Book_many, defScope s_Book_many, [], []⟩
def dd_Book_long : He.DefD := ⟨("Book", some "long"), "long", "Book.long", defArgs s_Book_long, defBody s_Book_long, defScope s_Book_long, [], []⟩
def dd_longest_block : He.DefD := ⟨("longest_block", none), "longest_block", "longest_block", defArgs s_longest_block, defBody s_longest_block, defScope s_longest_block, [], []⟩
def dd_first_too_long : He.DefD := ⟨("first_too_long", none), "first_too_long", "first_too_long", defArgs s_first_too_long, defBody s_first_too_long, defScope s_first_too_long, [], []⟩
def dd_TooTight_init : He.DefD := ⟨("TooTight", some "__init__"), "__init__", "TooTight.__init__", defArgs s_TooTight_init, defBody s_TooTight_init, defScope s_TooTight_init, [], []⟩
def dd_fewest : He.DefD := ⟨("fewest", none), "fewest", "fewest", defArgs s_fewest, defBody s_fewest, defScope s_fewest, [], []⟩
def dd_least_limit : He.DefD := ⟨("least_limit", none), "least_limit", "least_limit", defArgs s_least_limit, defBody s_least_limit, defScope s_least_limit, [], []⟩
def dd_law_cut : He.DefD := ⟨("_law_cut", none), "_law_cut", "_law_cut", defArgs s_law_cut, defBody s_law_cut, defScope s_law_cut, [], []⟩
def dd_law_word : He.DefD := ⟨("_law_word", none), "_law_word", "_law_word", defArgs s_law_word, defBody s_law_word, defScope s_law_word, [], []⟩
def dd_law_tried : He.DefD := ⟨("_law_tried", none), "_law_tried", "_law_tried", defArgs s_law_tried, defBody s_law_tried, defScope s_law_tried, [], []⟩
def dd_is_cut : He.DefD := ⟨("is_cut", none), "is_cut", "is_cut", defArgs s_is_cut, defBody s_is_cut, defScope s_is_cut, [], []⟩
def dd_law_asked : He.DefD := ⟨("_law_asked", none), "_law_asked", "_law_asked", defArgs s_law_asked, defBody s_law_asked, defScope s_law_asked, [], []⟩
def dd_law : He.DefD := ⟨("law", none), "law", "law", defArgs s_law, defBody s_law, defScope s_law, [], []⟩
def fns : List He.DefD := [dd_law_state, dd_law_next, dd_law_pick, dd_law_sections, dd_is_number, dd_is_section, dd_are_sections, dd_Book_init, dd_law_long, dd_law_blocks, dd_law_limit, dd_Book_sections, dd_Book_blocks, dd_law_lists, dd_Book_many, dd_Book_long, dd_longest_block, dd_first_too_long, dd_TooTight_init, dd_fewest, dd_least_limit, dd_law_cut, dd_law_word, dd_law_tried, dd_is_cut, dd_law_asked, dd_law]
def fas : List He.Fa := [.free "len", .free "range", .glo "_law_next", .glo "_law_pick", .free "int", .free "isinstance", .free "bool", .glo "is_number", .free "tuple", .int "LONGEST" 1000000000000, .glo "is_section", .free "list", .int "MOST_SECTIONS" 60, .free "all", .glo "are_sections", .exc "BadBook", .glo "BadBook", .cls "Book", .noat "Book" "parts", .free "sum", .free "enumerate", .glo "_law_long", .glo "_law_blocks", .free "max", .meth "Book" "sections", .meth "Book" "blocks", .exc "BadNumber", .glo "BadNumber", .meth "Book" "long", .glo "ReadError", .glo "first_too_long", .glo "TooTight", .meth "TooTight" "__init__", .glo "longest_block", .glo "fewest", .meth "Book" "many", .glo "BadRow", .glo "BadFeast", .glo "BadCalendar", .glo "NoRow", .glo "NoDay", .glo "BadHouse", .glo "NeverDone", .glo "NoPiece", .glo "BadText", .glo "NoDeed", .glo "TooFar", .free "zip", .free "ValueError", .glo "_law_limit", .glo "_law_lists", .glo "least_limit", .glo "_law_cut", .glo "_law_word", .glo "_law_tried", .glo "is_cut", .glo "_law_state", .glo "_law_sections", .mkr "Book", .glo "_law_asked", .glo "Book", .glo "law"]
def loose : List PySem.Str := (["ReadError", "BadBook", "BadCalendar", "BadFeast", "BadRow", "BadHouse", "BadNumber", "NoDay", "NoRow", "NoPiece", "TooTight", "NeverDone", "TooFar", "NoDeed", "BadText", "is_number", "MOST_SECTIONS", "LONGEST", "is_section", "are_sections", "Book", "is_cut", "first_too_long", "longest_block", "fewest", "least_limit", "_law_state", "_law_next", "_law_pick", "_law_word"] : List PySem.Str) ++ (["_law_tried", "_law_sections", "_law_blocks", "_law_long", "_law_limit", "_law_cut", "_law_lists", "_law_asked"] : List PySem.Str)
def tq : List (He.Defn × Str) := [(("_law_asked", none), "_law_asked.<locals>.<lambda>")]
def tndB (K : PySem.W.Frag) : Bool := decide ((tq.map fun z => (He.cT K z.1).2).Nodup)
def adrs : List Addr := [3, 6, 4, 24, 37, 49, 61, 73, 85, 97, 109, 121, 133, 152, 171, 183, 195, 214, 223, 230, 235, 292, 301, 308, 313, 320, 327, 334, 341, 348, 353, 360, 367, 374, 379, 384, 391, 398, 405, 410, 0, 23, 36, 48, 60, 72, 84, 96, 108, 120, 132, 151, 170, 182, 194, 213, 222, 229, 234, 291, 300, 307, 312, 319, 326, 333, 340, 347, 352, 359, 366, 373, 378, 383, 390, 397, 404, 409, 22, 25, 35, 47, 59, 71, 83, 95, 107, 119, 131, 149, 150, 168, 169, 181, 193, 211, 212, 217, 218, 219, 220, 221, 224, 225, 226, 227, 228, 231, 232, 233, 249, 256, 263, 270, 277, 282, 289, 290, 293, 294, 297, 298, 299, 302, 303, 304, 305, 306, 309, 310, 311, 314, 315, 316, 317, 318, 321, 322, 323, 324, 325, 328, 329, 330, 331, 332, 335, 336, 337, 338, 339, 342, 343, 344, 345, 346, 349, 350, 351, 354, 355, 356, 357, 358, 361, 362, 363, 364, 365, 368, 369, 370, 371, 372, 375, 376, 377, 380, 381, 382, 385, 386, 387, 388, 389, 392, 393, 394, 395, 396, 399, 400, 401, 402, 403, 406, 407, 408, 148, 167, 210, 248, 255, 262, 269, 276, 281, 288, 143, 144, 145, 146, 147, 162, 163, 164, 165, 166, 205, 206, 207, 208, 209, 243, 244, 245, 246, 247, 250, 251, 252, 253, 254, 257, 258, 259, 260, 261, 264, 265, 266, 267, 268, 271, 272, 273, 274, 275, 278, 279, 280, 283, 284, 285, 286, 287, 2]
def exs : List (PySem.W.Frag → Bool) := [reiB "ReadError", kxfB "TooTight" ["block"], kexcB excNames, tndB]
abbrev hk : PySem.W.Hook := hookLY adrs fas fns exs (tq.map (·.1))
def ob (s : PySem.W.SharedT) : AlX := obsLY adrs fas fns exs (tq.map (·.1)) (HandSHeadRun.getT s)
theorem ob_eq (s : PySem.W.SharedT) : ob s = hk.obs s.abs := obsLY_eq (HandSHeadRun.getT_eq s)
set_option maxHeartbeats 0 in
open PySem.W PySem.Calls HandSHeadRun in
theorem look1 (w : World) (os : OsState) : HandSHeadRun.looksF R.prog (PySem.W.boot_heap w.params) (SE w os).abs = true := by kernel_rfl
set_option maxHeartbeats 0 in
open PySem.W PySem.Calls HandSHeadRun in
theorem look2 (w : World) (os : OsState) : HandSHeadRun.seenQ (PySem.W.view R.prog [43]) loose (importedModules R.prog.main.body) (fun s => PySem.W.xlAt (PySem.W.view R.prog [43]) [] s && PySem.W.recOk R.toRowW.records s) (SE w os).abs = PySem.W.openGood (PySem.W.view R.prog [43]) loose := by kernel_rfl
set_option maxHeartbeats 0 in
open PySem.W PySem.Calls HandSHeadRun in
theorem look3 (w : World) (os : OsState) : ob (SE w os) = hk.val w := by kernel_rfl
open PySem.W PySem.Calls HandSHeadRun in
theorem topEnd (w : World) (os : OsState) : ∃ s, TopEnd R (PySem.W.view R.prog [43]) loose hk ob 100000 w os s := ⟨SE w os, cpTop w os, look1 w os, look2 w os, look3 w os⟩
end Dl
section
open PySem PySem.W PySem.Calls PyProof.Rows
set_option maxRecDepth 100000
set_option maxHeartbeats 0
theorem Dl.law_name : (HandSHeadRun.topDef (OpenLaw.row PySem.Challenge.rw_readround_k09_again_and_shared).prog 43).name = ("law" : PySem.Str) := by kernel_rfl
theorem Dl.law_dflt : (HandSHeadRun.topDef (OpenLaw.row PySem.Challenge.rw_readround_k09_again_and_shared).prog 43).params.defaults = [] := by kernel_rfl
theorem Dl.lawOf (hc : WalkO (view (OpenLaw.row PySem.Challenge.rw_readround_k09_again_and_shared).prog [43]) Dl.loose (XL (view (OpenLaw.row PySem.Challenge.rw_readround_k09_again_and_shared).prog [43]) []) Dl.hk.says (OpenLaw.row PySem.Challenge.rw_readround_k09_again_and_shared).toRowW (HandSHeadRun.topDef (OpenLaw.row PySem.Challenge.rw_readround_k09_again_and_shared).prog 43) [] (fun f vs => PySem.call f vs)) : PySem.Challenge.rw_readround_k09_again_and_shared.Holds := by
  w_on; o_law
  refine Dl.head_cp (r := OpenLaw.row PySem.Challenge.rw_readround_k09_again_and_shared) (q := view (OpenLaw.row PySem.Challenge.rw_readround_k09_again_and_shared).prog [43]) (H := Dl.hk) (ob := Dl.ob) (M := 100000) (loose := Dl.loose) (d := HandSHeadRun.topDef (OpenLaw.row PySem.Challenge.rw_readround_k09_again_and_shared).prog 43) (kwd := []) Dl.ob_eq
    (by kernel_rfl) (fun s => by kernel_rfl) Dl.topEnd (by kernel_rfl) (by kernel_rfl) (by kernel_rfl) (by rfl) (by first | assumption | decide +kernel) (by decide +kernel) ⟨rfl, rfl, rfl, rfl, rfl, by decide +kernel⟩ ?hw ?hc
  case hw => w_witness2
  case hc => exact hc
end
namespace Dl
open PySem L2 PyProof.Rows
set_option Elab.async false
set_option linter.all false
set_option maxRecDepth 100000
open PySem L2 PyProof.Rows
/-! ### kinds, books: contracts -/
mutual
/-- data through and through -/
def D.dat : D → Bool
  | .non => true
  | .bl _ => true
  | .int _ => true
  | .str _ => true
  | .tup xs => datL xs
  | .lst xs => datL xs
  | .dct _ => true
  | _ => false
def datL : List D → Bool
  | [] => true
  | x :: xs => D.dat x && datL xs
end
theorem datL_iff {xs : List D} : datL xs = true ↔ ∀ x ∈ xs, x.dat = true := by
  induction xs with
  | nil => simp [datL]
  | cons x xs ih => simp [datL, ih]
/-- isinstance of data and a built-in type -/
def isTy : D → String → Bool
  | .bl _, n => n == "bool" || n == "int"
  | .int _, n => n == "int"
  | .str _, n => n == "str"
  | .tup _, n => n == "tuple"
  | .lst _, n => n == "list"
  | .dct _, n => n == "dict"
  | _, _ => false
theorem rc_isiD {K : PySem.W.Frag} {μ : Mu} {P : D → Mu → Prop} {x : D} {n : String} (hd : x.dat = true) (hn : n = "int" ∨ n = "bool" ∨ n = "str" ∨ n = "list" ∨ n = "tuple") (h : P (.bl (isTy x n)) μ) : RC K (rIsi K) [x, .ty n] μ P := by
  cases x <;> (try (simp [D.dat] at hd; done)) <;> rcases hn with rfl | rfl | rfl | rfl | rfl <;> exact rc_isiB rfl (by rfl) h
theorem isTy_int {x : D} (h : isTy x "int" = true) (h2 : isTy x "bool" = false) : ∃ i, x = .int i := by
  cases x <;> simp_all [isTy]
theorem isTy_bool {x : D} (h : isTy x "bool" = true) : ∃ i, x = .bl i := by
  cases x <;> simp_all [isTy]
theorem isTy_list {x : D} (h : isTy x "list" = true) : ∃ i, x = .lst i := by
  cases x <;> simp_all [isTy]
theorem isTy_tuple {x : D} (h : isTy x "tuple" = true) : ∃ i, x = .tup i := by
  cases x <;> simp_all [isTy]
def isNum : D → Int → Int → Bool
  | .int i, lo, hi => decide (lo ≤ i) && decide (i ≤ hi)
  | _, _, _ => false
def c_is_number (K : PySem.W.Frag) : CT := fun ds μ P PX => ∃ x lo hi, ds = [x, .int lo, .int hi] ∧ x.dat = true ∧ P (.bl (isNum x lo hi)) μ
def isSec : D → Bool
  | .tup [x, .bl _] => isNum x 1 1000000000000
  | _ => false
def c_is_section (K : PySem.W.Frag) : CT := fun ds μ P PX => ∃ x, ds = [x] ∧ x.dat = true ∧ P (.bl (isSec x)) μ
def secTied : D → Bool
  | .tup [_, .bl b] => b
  | _ => true
def areSecs : D → Bool
  | .lst xs => decide (1 ≤ xs.length) && decide (xs.length ≤ 60) && xs.all isSec && (match xs.getLast? with
    | some x => !secTied x
    | none => false)
  | _ => false
def c_are_sections (K : PySem.W.Frag) : CT := fun ds μ P PX => ∃ x d, ds = [x] ∧ Fz μ x d ∧ d.dat = true ∧ P (.bl (areSecs d)) μ
abbrev cBook (K : PySem.W.Frag) : Addr := He.ga K "Book"
def c_Book_init (K : PySem.W.Frag) : CT := fun ds μ P PX => ∃ k x d, ds = [.own k, x] ∧ μ[k]? = some (.ins (cBook K) []) ∧ Fz μ x d ∧ d.dat = true ∧
  (areSecs d = true → ∀ xs, d = .lst xs → P .non (μ.set k (.ins (cBook K) [("parts", .lst xs)]))) ∧ (areSecs d = false → PX (He.ga K "BadBook") [] μ)
/-- a section: how long, whether tied -/
abbrev Sec := Int × Bool
def secD (s : Sec) : D := .tup [.int s.1, .bl s.2]
def secsD (ss : List Sec) : D := .lst (ss.map secD)
def bookD (K : PySem.W.Frag) (ss : List Sec) : D := .obj (cBook K) [("parts", secsD ss)]
def pairD (p : Int × Int) : D := .tup [.int p.1, .int p.2]
def pairsD (ps : List (Int × Int)) : D := .lst (ps.map pairD)
structure Good (ss : List Sec) : Prop where
  pos : 0 < ss.length
  most : ss.length ≤ 60
  long : ∀ s ∈ ss, 1 ≤ s.1 ∧ s.1 ≤ 1000000000000
  last : ∀ s, ss.getLast? = some s → s.2 = false
structure KBook (K : PySem.W.Frag) : Prop where
  cl : Cls K (cBook K)
  parts : NoAttr K (cBook K) "parts"
def c_Book_sections (K : PySem.W.Frag) : CT := fun ds μ P PX => ∃ ss, ds = [bookD K ss] ∧ Fresh (ss.map secD) μ P
/-- the blocks: first, end -/
def blocksFrom : Int → Int → List Sec → List (Int × Int)
  | _, _, [] => []
  | first, at_, s :: r => if s.2 = true then blocksFrom first (at_ + 1) r else (first, at_ + 1) :: blocksFrom (at_ + 1) (at_ + 1) r
def blocks (ss : List Sec) : List (Int × Int) := blocksFrom 0 0 ss
def c_Book_blocks (K : PySem.W.Frag) : CT := fun ds μ P PX => ∃ ss, ds = [bookD K ss] ∧ ss.length ≤ 60 ∧ Fresh ((blocks ss).map pairD) μ P
def t_is_number (K : PySem.W.Frag) (E : XK) : TS :=
    (tRet (tAndV (tCB (rIsi K) (tCons (tVar 0) (tCons (tC (.ty "int")) tNil))) (tAndV (tNotV (tCB (rIsi K) (tCons (tVar 0) (tCons (tC (.ty "bool")) tNil)))) (tChain (rI0 fun i j => .bl (decide (i ≤ j))) (rI0 fun i j => .bl (decide (i ≤ j))) (tVar 1) (tVar 0) (tVar 2)))))
def t_is_section (K : PySem.W.Frag) (E : XK) : TS :=
    (tSeq (tIfS (tOr (tNot (tTruth K (tCB (rIsi K) (tCons (tVar 0) (tCons (tC (.ty "tuple")) tNil))))) (tOr (tTest (tOp (rNeD K) (tCB (rLen K) (tCons (tVar 0) tNil)) (tC (.int 2)))) (tNot (tTruth K (tCB (rIsi K) (tCons (tOp (rIx K) (tVar 0) (tC (.int 1))) (tCons (tC (.ty "bool")) tNil))))))) (tRet (tC (.bl false))) tNext)
      (tRet (tCall (spD K (c_is_number K)) [] E (tCons (tOp (rIx K) (tVar 0) (tC (.int 0))) (tCons (tC (.int 1)) (tCons (tC (.int 1000000000000)) tNil))))))
def t_are_sections (K : PySem.W.Frag) (E : XK) : TS :=
    (tSeq (tIfS (tOr (tNot (tTruth K (tCB (rIsi K) (tCons (tVar 0) (tCons (tC (.ty "list")) tNil))))) (tNot (tTest (tChain (rI0 fun i j => .bl (decide (i ≤ j))) (rI0 fun i j => .bl (decide (i ≤ j))) (tC (.int 1)) (tCB (rLen K) (tCons (tVar 0) tNil)) (tC (.int 60)))))) (tRet (tC (.bl false))) tNext)
      (tRet (tAndV (tCB (rAll K) (tCons (tLc (iAny K (tVar 0)) (gName 1) tYes (tCall (spD K (c_is_section K)) [] E0 (tCons (tVar 1) tNil)) [1]) tNil)) (tNotV (tOp (rIx K) (tOp (rIx K) (tVar 0) (tUn (rU fun i => .int (-i)) (tC (.int 1)))) (tC (.int 1)))))))
def t_Book_init (K : PySem.W.Frag) (E : XK) : TS :=
    (tSeq (tIfS (tNot (tTruth K (tCall (spD K (c_are_sections K)) [] E (tCons (tVar 1) tNil)))) (tRaise0 (He.ga K "BadBook") E) tNext)
      (sFld K (tVar 0) (tCB (rListOf K) (tCons (tVar 1) tNil)) "parts"))
def t_Book_sections (K : PySem.W.Frag) (E : XK) : TS :=
    (tRet (tCB (rListOf K) (tCons (tFld K (tVar 0) "parts") tNil)))
def t_Book_blocks (K : PySem.W.Frag) (E : XK) : TS :=
    (tSeq (tAsg (tLst tNil) (gName 1))
      (tSeq (tAsg (tC (.int 0)) (gName 2))
      (tSeq (tFor (iEnum K (tCons (tFld K (tVar 0) "parts") tNil)) (gTup K 2 (gCons (gName 3) (gCons (gName 4) gNil))) (tIfS (tNot (tTruth K (tOp (rIx K) (tVar 4) (tC (.int 1))))) (tSeq (tDrop (tBM K "list" rAppend (tVar 1) (tCons (tTup (tCons (tVar 2) (tCons (tOp (rAddA K) (tVar 3) (tC (.int 1))) tNil))) tNil)))
      (tAsg (tOp (rAddA K) (tVar 3) (tC (.int 1))) (gName 2))) tNext))
      (tRet (tVar 1)))))
local macro_rules | `(tactic| wtm_at "dS") => `(tactic| with_reducible (show DS _ _ _ _ _ _; first
  | refine q_set ?_
  | refine q_when ?_
  | refine ds_ret ?_
  | refine ds_set ?_
  | refine q_drop ?_
  | refine q_if ?_
  | refine q_asg ?_
  | refine q_par ?_
  | refine q_fld ?_
  | refine ds_drop ?_
  | refine s_when ?_
  | refine ds_if ?_
  | refine ds_asg ?_
  | refine ds_next ?_
  | refine ds_par ?_
  | refine ds_fld ?_
  | refine ds_retN ?_))
local macro_rules | `(tactic| wtm_at "dE") => `(tactic| with_reducible (show DE _ _ _ _ _ _; first
  | refine de_op ?_
  | refine de_int ?_
  | refine de_cb ?_
  | refine de_bl ?_
  | refine de_non ?_
  | refine de_str ?_
  | refine de_ty ?_
  | refine de_loc ?_
  | refine de_un ?_
  | refine de_andV ?_
  | refine de_orV ?_
  | refine de_notV ?_
  | refine de_if ?_
  | refine de_chain ?_
  | refine de_chain3 ?_
  | refine de_isN ?_
  | refine de_notN ?_
  | refine de_sl ?_
  | refine de_bm ?_
  | refine de_bm0 ?_))
local macro_rules | `(tactic| wtm_at "dT") => `(tactic| with_reducible (show DT _ _ _ _ _ _; first
  | refine dt_test ?_
  | refine dt_truth ?_
  | refine dt_and ?_
  | refine dt_or ?_
  | refine dt_not ?_
  | refine dt_B ?_
  | refine dt_yes ?_))
local macro_rules | `(tactic| wtm_at "dO") => `(tactic| with_reducible (first
  | refine da_cons ?_
  | refine da_nil ?_
  | refine ro_i ?_
  | refine ro_b ?_
  | refine ro_addI ?_
  | refine ro_eqI ?_
  | refine ro_neI ?_
  | refine ru_i ?_
  | refine ro_ip ?_
  | refine rc_max2' ?_
  | refine rc_min2' ?_
  | refine ro_eqB ?_
  | refine ro_neB ?_
  | refine ro_isB ?_
  | refine ro_notB ?_
  | refine do_no ?_
  | refine do_part ?_
  | refine dg_name ?_
  | refine dgs_cons ?_
  | refine dgs_nil ?_
  | refine dg_sub ?_
  | refine di_range1 ?_
  | refine di_range2 ?_
  | refine di_any ?_
  | refine di_enum' ?_))
local macro_rules | `(tactic| wtm_at "v") => `(tactic| ((with_reducible show DE _ _ (tVar _) _ _ _); refine de_var (by first | rfl | assumption) ?_))
local macro_rules | `(tactic| wtm_at "h") => `(tactic| with_reducible refine ⟨_, rfl, ?_⟩)
local macro_rules | `(tactic| wtm_at "b") => `(tactic| ((first | refine ⟨_, rfl, br ?_ ?_⟩ | refine ⟨_, rfl, br' ?_ ?_⟩ | refine br ?_ ?_ | refine br' ?_ ?_ | fail) <;> intro hb <;> (try contradiction) <;> (try (simp only [decide_eq_true_eq, decide_eq_false_iff_not, Bool.not_eq_true', Bool.not_eq_false', Bool.not_true, Bool.not_false, Bool.not_eq_eq_eq_not, reduceCtorEq, List.length_map] at hb)) <;> (try (exfalso; omega; done))))
local macro_rules | `(tactic| wtm_at "i") => `(tactic| first | refine rc_isiD (by assumption) (by decide) ?_ | refine rc_isiB rfl (by first | rfl | decide +kernel) ?_)
local macro_rules | `(tactic| wtm_at "r") => `(tactic| refine ret_same0 (Nat.le_refl _) (by assumption) (by first | rfl | simp [D.cl, clL]) ?_)
local macro_rules | `(tactic| wtm_at "g") => `(tactic| repeat' first | wtm_at "v" | wtm_at "dE" | wtm_at "dO" | wtm_at "dT" | wtm_at "dS" | fail)
local macro_rules | `(tactic| wtm_at "a") => `(tactic| repeat' first | wtm_at "v" | wtm_at "dE" | wtm_at "dO" | wtm_at "dT" | wtm_at "dS" | wtm_at "i" | wtm_at "l" | wtm_at "x" | wtm_at "h" | wtm_at "b" | fail)
local macro_rules | `(tactic| wtm_at "l") => `(tactic| ((with_reducible show RC _ (rLen _) _ _ _); first | refine rc_lenL (.lst _) ?_ | refine rc_lenT' (.tup _) ?_ | refine rc_lenL (.rdl _) ?_ | refine rc_lenL (.own (by first | assumption | with_reducible exact mu_last)) ?_))
local macro_rules | `(tactic| wtm_at "x") => `(tactic| refine ro_ixT (.tup _) rfl ?_)
local macro_rules | `(tactic| wtm_at "ow") => `(tactic| first | assumption | with_reducible exact mu_last | exact mu_old (by assumption) | (simp; done) | fail)
local macro_rules | `(tactic| wtm_at "m") => `(tactic| refine ⟨ty_list (.own (by wtm_at "ow")), ?_⟩)
local macro_rules | `(tactic| wtm_at "e") => `(tactic| repeat' first | wtm_at "v" | wtm_at "dE" | wtm_at "dO" | wtm_at "dT" | wtm_at "i" | wtm_at "l" | wtm_at "x" | wtm_at "h" | wtm_at "b" | fail)
section
variable {K : PySem.W.Frag}
theorem d_is_number : ∀ ds μ P PX, c_is_number K ds μ P PX → MuCl μ μ.length → clL ds μ.length = true → ∀ B E, XAg K B (RetX μ.length PX) E → DS K B (t_is_number K E) (startD ["thing", "least", "most"] ds) μ (fnE μ.length P) := by
  intro ds μ P PX h hm hc B E hE
  obtain ⟨x, lo, hi, rfl, hd, h⟩ := h
  show DS K B _ [some x, some (.int lo), some (.int hi)] μ _
  unfold t_is_number
  wtm_at "a"
  · obtain ⟨i, rfl⟩ := isTy_int ‹_› ‹_›
    wtm_at "a" <;> wtm_at "r" <;> simp_all [isNum]
  · wtm_at "r"
    cases x <;> simp_all [isNum, isTy]
  · wtm_at "r"
    cases x <;> simp_all [isNum, isTy]
theorem d_is_section : ∀ ds μ P PX, c_is_section K ds μ P PX → MuCl μ μ.length → clL ds μ.length = true → ∀ B E, XAg K B (RetX μ.length PX) E → DS K B (t_is_section K E) (startD ["thing"] ds) μ (fnE μ.length P) := by
  intro ds μ P PX h hm hc B E hE
  obtain ⟨x, rfl, hd, h⟩ := h
  show DS K B _ [some x] μ _
  unfold t_is_section
  wtm_at "a"
  · obtain ⟨xs, rfl⟩ := isTy_tuple ‹_›
    wtm_at "a"
    · match xs, ‹(xs.length : Int) = 2› with
      | [a, b], _ =>
        have hd' : a.dat = true ∧ b.dat = true := by simpa [D.dat, datL] using hd
        obtain ⟨hd1, hd2⟩ := hd'
        wtm_at "a"
        · wtm_at "r"
          have : isSec (.tup [a, b]) = false := by cases b <;> simp_all [isSec, isTy]
          rw [this] at h
          exact h
        · obtain ⟨b, rfl⟩ := isTy_bool ‹_›
          refine de_call (PX := RetX μ.length PX) hE ?_
          wtm_at "a"
          refine ⟨a, 1, 1000000000000, rfl, hd1, ?_⟩
          wtm_at "r"
          exact h
      | [], q => exact absurd q (by decide)
      | [_], q => exact absurd q (by simp)
      | _ :: _ :: _ :: _, q => exact absurd q (by simp only [List.length_cons]; omega)
    · -- of another length
      wtm_at "r"
      have : isSec (.tup xs) = false := by
        unfold isSec
        split
        · rename_i e
          cases e
          simp at *
        · rfl
      rw [this] at h
      exact h
  · wtm_at "r"
    have : isSec x = false := by cases x <;> simp_all [isSec, isTy]
    rw [this] at h
    exact h
theorem atI_neg1 {α : Type} {xs : List α} {z : α} (h : xs.getLast? = some z) : atI xs (-1) = some z := by
  obtain ⟨ys, rfl⟩ := List.getLast?_eq_some_iff.mp h
  exact atI_last ys z
theorem d_are_sections : ∀ ds μ P PX, c_are_sections K ds μ P PX → MuCl μ μ.length → clL ds μ.length = true → ∀ B E, XAg K B (RetX μ.length PX) E → DS K B (t_are_sections K E) (startD ["thing", "one"] ds) μ (fnE μ.length P) := by
  intro ds μ P PX h hm hc B E hE
  obtain ⟨x, d, rfl, fz, hd, h⟩ := h
  show DS K B _ [some x, none] μ _
  -- a list, frozen or not
  have key : ∀ xs, d = .lst xs → tyD μ x = some "list" → Ls μ x xs → DS K B (t_are_sections K E) [some x, none] μ (fnE μ.length P) := by
    rintro xs rfl ht hl
    have hdx : ∀ y ∈ xs, y.dat = true := by
      unfold D.dat at hd
      exact datL_iff.mp hd
    obtain ⟨S, wk⟩ := hl.wk
    unfold t_are_sections
    wtm_at "g"
    refine rc_isiB ht (by rfl) ?_
    wtm_at "a"
    refine rc_lenL hl ?_
    have hf : ¬ (1 ≤ xs.length ∧ xs.length ≤ 60) → Ret μ.length P (.bl false) μ := fun hn => by
      wtm_at "r"
      have : areSecs (.lst xs) = false := by
        simp [areSecs]
        omega
      rw [this] at h
      exact h
    wtm_at "a"
    · exact hf (by omega)
    · refine lc_map (fun d => .bl (isSec d)) (gw_name (by simp)) ?_
      wtm_at "g"
      refine ⟨xs, S, wk, wk.now, by omega, fun i d hd' => ?_, fun out ho => ?_⟩
      · wtm_at "g"
        refine ⟨rfl, de_call XAg.none ?_⟩
        wtm_at "g"
        exact ⟨d, rfl, hdx d (List.mem_of_getElem? hd'), rfl, rfl⟩
      · wtm_at "g"
        refine rc_all (bs := xs.map isSec) (by rw [← ho, List.map_map]; exact .lst _) ?_
        have hlen : 0 < xs.length := by omega
        obtain ⟨z, hz⟩ : ∃ z, xs.getLast? = some z := by
          cases q : xs.getLast? with
          | none => rw [List.getLast?_eq_none_iff] at q; subst q; simp at hlen
          | some z => exact ⟨z, rfl⟩
        have hz1 := atI_neg1 hz
        wtm_at "a"
        · rename_i hall
          have hsec : isSec z = true := by
            rw [List.all_eq_true] at hall
            have := hall (isSec z) (List.mem_map.mpr ⟨z, List.mem_of_getLast? hz, rfl⟩)
            simpa using this
          obtain ⟨n, b, rfl⟩ : ∃ n b, z = .tup [.int n, .bl b] := by
            unfold isSec at hsec
            split at hsec
            · rename_i y b
              cases y <;> simp [isNum] at hsec
              exact ⟨_, _, rfl⟩
            · cases hsec
          refine ro_ixL hl hz1 ?_
          wtm_at "a"
          wtm_at "r"
          have : areSecs (.lst xs) = !b := by
            have h1 : xs.all isSec = true := by
              rw [List.all_eq_true]
              intro y hy
              rw [List.all_eq_true] at hall
              have := hall (isSec y) (List.mem_map.mpr ⟨y, hy, rfl⟩)
              simpa using this
            simp [areSecs, h1, hz, secTied]
            omega
          rw [this] at h
          exact h
        · rename_i hall
          wtm_at "r"
          have : areSecs (.lst xs) = false := by
            have h1 : xs.all isSec = false := by
              rw [← hall, List.all_map]
              rfl
            simp only [areSecs, h1, Bool.and_false, Bool.false_and]
          rw [this] at h
          exact h
    · exact hf (by omega)
  cases fz with
  | id =>
    by_cases hl : isTy x "list" = true
    · obtain ⟨xs, rfl⟩ := isTy_list hl
      exact key xs rfl rfl (.lst xs)
    · unfold t_are_sections
      wtm_at "a"
      · exact absurd ‹_› hl
      · wtm_at "r"
        have : areSecs x = false := by cases x <;> simp_all [areSecs, isTy]
        rw [this] at h
        exact h
  | own hk => exact key _ rfl (by simp [tyD, hk]) (.own hk)
theorem d_Book_init (kb : KBook K) : ∀ ds μ P PX, c_Book_init K ds μ P PX → MuCl μ μ.length → clL ds μ.length = true → ∀ B E, XAg K B (RetX μ.length PX) E → DS K B (t_Book_init K E) (startD ["self", "sections"] ds) μ (fnE μ.length P) := by
  intro ds μ P PX h hm hc B E hE
  obtain ⟨k, x, d, rfl, hk, fz, hd, h1, h2⟩ := h
  show DS K B _ [some (.own k), some x] μ _
  unfold t_Book_init
  wtm_at "g"
  refine de_call (PX := RetX μ.length PX) hE ?_
  wtm_at "g"
  refine ⟨x, d, rfl, fz, hd, ?_⟩
  wtm_at "a"
  · -- raise
    exact ds_raise0 hE (retx_same0 hm rfl (h2 ‹_›))
  · rename_i hs
    obtain ⟨xs, rfl⟩ : ∃ xs, d = .lst xs := by
      cases d <;> simp [areSecs] at hs
      exact ⟨_, rfl⟩
    have hl : Ls μ x xs := by
      cases fz with
      | id => exact .lst xs
      | own h => exact .own h
    refine rc_list hl ?_
    wtm_at "g"
    refine ⟨k, cBook K, [], rfl, hk, kb.cl, kb.parts, by decide, ?_⟩
    have hcl : clL xs μ.length = true := by
      cases fz with
      | id => simp [clL, D.cl] at hc; exact hc.2
      | own h => exact hm.get h
    refine ⟨_, [], by rw [List.append_nil]; rfl, by simp, ?_, rfl, h1 hs xs rfl⟩
    rw [List.length_set]
    exact hm.set (by simp [MO.cl, clF, D.cl, hcl])
theorem d_Book_sections (kb : KBook K) : ∀ ds μ P PX, c_Book_sections K ds μ P PX → MuCl μ μ.length → clL ds μ.length = true → ∀ B E, XAg K B (RetX μ.length PX) E → DS K B (t_Book_sections K E) (startD ["self"] ds) μ (fnE μ.length P) := by
  intro ds μ P PX h hm hc B E hE
  obtain ⟨ss, rfl, h⟩ := h
  show DS K B _ [some (bookD K ss)] μ _
  unfold t_Book_sections
  have hcl : ∀ n, clL (ss.map secD) n = true := fun n => clL_map fun x _ => by simp [secD, D.cl, clL]
  wtm_at "g"
  refine de_fld ?_
  wtm_at "g"
  refine ⟨cBook K, _, _, .inl rfl, kb.cl, kb.parts, rfl, ?_⟩
  wtm_at "g"
  rcases h with h | h
  · refine rc_list (.lst _) ?_
    exact ret_same0 (Nat.le_refl _) hm (by simp [D.cl, hcl]) h
  · refine rc_listO (.lst _) ?_
    exact ret_same0 (by simp) (hm.app (by simp [MO.cl, hcl])) (by simp [D.cl]) h
theorem secs_get {ss : List Sec} {i : Nat} {d : D} (h : (ss.map secD)[i]? = some d) : ∃ s, ss[i]? = some s ∧ d = secD s := by
  rw [List.getElem?_map] at h
  cases q : ss[i]? with
  | none => rw [q] at h; cases h
  | some s => rw [q] at h; exact ⟨s, rfl, (Option.some.inj h).symm⟩
theorem clL_pairs (ps : List (Int × Int)) (n : Nat) : clL (ps.map pairD) n = true := clL_map fun x _ => by simp [pairD, D.cl, clL]
theorem blocksFrom_len : ∀ (ss : List Sec) (a b : Int), (blocksFrom a b ss).length ≤ ss.length
  | [], _, _ => by simp [blocksFrom]
  | s :: r, a, b => by
    unfold blocksFrom
    split
    · have := blocksFrom_len r a (b + 1); simp; omega
    · have := blocksFrom_len r (b + 1) (b + 1); simp; omega
theorem d_Book_blocks (kb : KBook K) : ∀ ds μ P PX, c_Book_blocks K ds μ P PX → MuCl μ μ.length → clL ds μ.length = true → ∀ B E, XAg K B (RetX μ.length PX) E → DS K B (t_Book_blocks K E) (startD ["self", "found", "first", "at", "one"] ds) μ (fnE μ.length P) := by
  intro ds μ P PX h hm hc B E hE
  obtain ⟨ss, rfl, hl, h⟩ := h
  show DS K B _ [some (bookD K ss), none, none, none, none] μ _
  unfold t_Book_blocks
  wtm_at "g"
  refine de_lstO ?_
  wtm_at "g"
  refine ⟨by simp, ?_⟩
  wtm_at "g"
  refine q_for ?_
  wtm_at "g"
  refine de_fld ?_
  wtm_at "g"
  refine ⟨cBook K, _, _, .inl rfl, kb.cl, kb.parts, rfl, ?_⟩
  wtm_at "g"
  refine ⟨_, _, _, rfl, .lst _, .lst _, fun i ρ μ' => ∃ fnd first y3 y4, ρ = [some (bookD K ss), some (.own μ.length), some (.int first), y3, y4] ∧ μ' = μ ++ [.lst (fnd.map pairD)] ∧ fnd ++ blocksFrom first i (ss.drop i) = blocks ss ∧ fnd.length ≤ i,
    ⟨[], 0, none, none, rfl, rfl, rfl, by simp⟩, fun _ _ _ _ _ => trivial, ?_, ?_⟩
  · rintro i d ρ μ' hd ⟨fnd, first, y3, y4, rfl, rfl, he, hfl⟩
    obtain ⟨x, hx, rfl⟩ := enumD_some hd
    obtain ⟨s, hs, rfl⟩ := secs_get hx
    have hi : i < ss.length := (List.getElem?_eq_some_iff.mp hs).1
    have hdrop : ss.drop i = s :: ss.drop (i + 1) := by
      rw [List.drop_eq_getElem_cons hi]
      rw [List.getElem?_eq_getElem hi] at hs
      rw [Option.some.inj hs]
    rw [hdrop] at he
    refine dg_tup rfl ?_
    unfold secD
    wtm_at "a"
    · rename_i hb
      simp only [hb, blocksFrom] at he
      wtm_at "m"
      wtm_at "g"
      refine de_tup ?_
      wtm_at "g"
      refine ⟨by simp, ?_⟩
      wtm_at "g"
      refine rm_app mu_last (by simp; omega) ?_
      rw [set_last]
      wtm_at "g"
      refine ⟨fnd ++ [(first, (i : Int) + 1)], (i : Int) + 1, _, _, rfl, by simp [pairD], ?_, by simp; omega⟩
      rw [List.append_assoc]
      simpa using he
    · rename_i hb
      simp only [hb, blocksFrom] at he
      exact ⟨fnd, first, _, _, rfl, rfl, by simpa using he, by omega⟩
  · rintro ρ μ' ⟨fnd, first, y3, y4, rfl, rfl, he, hfl⟩
    rw [enumD_length, List.length_map, List.drop_length] at he
    simp only [blocksFrom, List.append_nil] at he
    subst he
    rcases h with h | h
    · refine ds_ret (de_frz ?_)
      wtm_at "g"
      refine ⟨_, _, rfl, mu_last, ?_⟩
      rw [set_last]
      exact ret_same (Nat.le_refl _) hm (by simp [D.cl, clL_pairs]) h
    · wtm_at "g"
      exact ret_same0 (by simp) (hm.app (by simp [MO.cl, clL_pairs])) (by simp [D.cl]) h
end
/-! ### draws: contracts -/
/-- a frozen list -/
inductive Lf : D → List D → Prop
  | lst (ds : List D) : Lf (.lst ds) ds
  | rdl (ds : List D) : Lf (.rdl ds) ds
theorem Lf.ls {x : D} {ds : List D} (h : Lf x ds) (μ : Mu) : Ls μ x ds := by
  cases h with
  | lst => exact .lst _
  | rdl => exact .rdl _
def c_law_state (K : PySem.W.Frag) : CT := fun ds μ P PX => ∃ (ns : List Int) (k : Int), ds = [.rdl (ns.map D.int), .int k] ∧ 0 ≤ k ∧ k < 100000 ∧ ∀ n : Int, P (.own μ.length) (μ ++ [.lst [.int n]])
def c_law_next (K : PySem.W.Frag) : CT := fun ds μ P PX => ∃ k n m, ds = [.own k, .int m] ∧ μ[k]? = some (.lst [.int n]) ∧ 0 < m ∧ m < 2 ^ 200 ∧ ∀ r n' : Int, 0 ≤ r → r < m → P (.int r) (μ.set k (.lst [.int n']))
def c_law_pick (K : PySem.W.Frag) : CT := fun ds μ P PX => ∃ k n x xs, ds = [.own k, x] ∧ μ[k]? = some (.lst [.int n]) ∧ Lf x xs ∧ 0 < xs.length ∧ xs.length ≤ 100000 ∧ ∀ d n', d ∈ xs → P d (μ.set k (.lst [.int n']))
def c_law_sections (K : PySem.W.Frag) : CT := fun ds μ P PX => ∃ k n most, ds = [.own k, .int most] ∧ μ[k]? = some (.lst [.int n]) ∧ 1 ≤ most ∧ most ≤ 60 ∧ ∀ ss n', Good ss → (ss.length : Int) ≤ max 9 most → Fresh (ss.map secD) (μ.set k (.lst [.int n'])) P
def t_law_state (K : PySem.W.Frag) (E : XK) : TS :=
    (tSeq (tAsg (tIf (tTest (tOp (rI0 fun i j => .bl (decide (i < j))) (tVar 1) (tCB (rLen K) (tCons (tVar 0) tNil)))) (tOp (rIx K) (tVar 0) (tVar 1)) (tOp rMulA (tC (.int 7)) (tVar 1))) (gName 2))
      (tSeq (tIfS (tTest (tOp (rI0 fun i j => .bl (decide (j ≤ i))) (tVar 2) (tOp (rI CPow fun i j => .int (i ^ j.toNat)) (tC (.int 10)) (tC (.int 18))))) (tRet (tLst (tCons (tOp (rI0 fun i j => .int (i - j)) (tVar 2) (tOp (rI CPow fun i j => .int (i ^ j.toNat)) (tC (.int 10)) (tC (.int 18)))) tNil))) tNext)
      (tSeq (tAsg (tC (.int 0)) (gName 3))
      (tSeq (tFor (iRng1 (tCons (tC (.int 90)) tNil)) (gName 4) (tSeq (tAsg (tOp rModA (tOp rMulA (tOp (rAddA K) (tVar 2) (tOp rMulA (tC (.int 7919)) (tOp (rAddA K) (tOp (rAddA K) (tOp rMulA (tC (.int 90)) (tVar 1)) (tVar 4)) (tC (.int 1))))) (tC (.int 48271))) (tC (.int 2147483647))) (gName 5))
      (tAsg (tOp (rAddA K) (tOp rMulA (tVar 3) (tC (.int 2147483629))) (tOp rModA (tOp rMulA (tVar 5) (tOp (rAddA K) (tOp (rAddA K) (tVar 5) (tOp rMulA (tC (.int 2)) (tVar 4))) (tC (.int 1)))) (tC (.int 2147483629)))) (gName 3))))
      (tRet (tLst (tCons (tVar 3) tNil)))))))
def t_law_next (K : PySem.W.Frag) (E : XK) : TS :=
    (tSeq (tAsg (tOp rModA (tOp (rIx K) (tVar 0) (tC (.int 0))) (tVar 1)) (gName 2))
      (tSeq (tAsg (tOp rFdivA (tOp (rIx K) (tVar 0) (tC (.int 0))) (tVar 1)) (gSub (tVar 0) (tC (.int 0)) rSetL))
      (tRet (tVar 2))))
def t_law_pick (K : PySem.W.Frag) (E : XK) : TS :=
    (tRet (tOp (rIx K) (tVar 1) (tCall (spD K (c_law_next K)) [] E (tCons (tVar 0) (tCons (tCB (rLen K) (tCons (tVar 1) tNil)) tNil)))))
def t_law_sections (K : PySem.W.Frag) (E : XK) : TS :=
    (tSeq (tAsg (tCall (spD K (c_law_pick K)) [] E (tCons (tVar 0) (tCons (tLst (tCons (tC (.int 4)) (tCons (tC (.int 4)) (tCons (tC (.int 9)) (tCons (tVar 1) (tCons (tVar 1) tNil)))))) tNil))) (gName 2))
      (tSeq (tAsg (tCall (spD K (c_law_pick K)) [] E (tCons (tVar 0) (tCons (tLst (tCons (tC (.int 1)) (tCons (tC (.int 3)) (tCons (tC (.int 9)) (tCons (tC (.int 100)) (tCons (tOp (rI CPow fun i j => .int (i ^ j.toNat)) (tC (.int 10)) (tC (.int 12))) tNil)))))) tNil))) (gName 3))
      (tSeq (tAsg (tCall (spD K (c_law_pick K)) [] E (tCons (tVar 0) (tCons (tLst (tCons (tC (.int 0)) (tCons (tC (.int 1)) (tCons (tC (.int 2)) (tCons (tC (.int 4)) tNil))))) tNil))) (gName 4))
      (tSeq (tAsg (tOp (rAddA K) (tC (.int 1)) (tCall (spD K (c_law_next K)) [] E (tCons (tVar 0) (tCons (tVar 2) tNil)))) (gName 5))
      (tSeq (tIfS (tAnd (tTest (tOp (rEqD K) (tVar 2) (tVar 1))) (tTest (tOp (rEqD K) (tOp rModA (tVar 5) (tC (.int 4))) (tC (.int 0))))) (tAsg (tVar 1) (gName 5)) tNext)
      (tSeq (tAsg (tLst tNil) (gName 6))
      (tSeq (tFor (iRng1 (tCons (tVar 5) tNil)) (gName 7) (tDrop (tBM K "list" rAppend (tVar 6) (tCons (tTup (tCons (tOp (rAddA K) (tC (.int 1)) (tCall (spD K (c_law_next K)) [] E (tCons (tVar 0) (tCons (tVar 3) tNil)))) (tCons (tOp (rI0 fun i j => .bl (decide (i < j))) (tCall (spD K (c_law_next K)) [] E (tCons (tVar 0) (tCons (tC (.int 5)) tNil))) (tVar 4)) tNil))) tNil))))
      (tSeq (tIfS (tAnd (tTest (tOp (rEqD K) (tVar 3) (tOp (rI CPow fun i j => .int (i ^ j.toNat)) (tC (.int 10)) (tC (.int 12))))) (tTest (tOp (rEqD K) (tCall (spD K (c_law_next K)) [] E (tCons (tVar 0) (tCons (tC (.int 2)) tNil))) (tC (.int 0))))) (tSeq (tAsg (tCall (spD K (c_law_next K)) [] E (tCons (tVar 0) (tCons (tVar 5) tNil))) (gName 8))
      (tAsg (tTup (tCons (tVar 3) (tCons (tOp (rIx K) (tOp (rIx K) (tVar 6) (tVar 8)) (tC (.int 1))) tNil))) (gSub (tVar 6) (tVar 8) rSetL))) tNext)
      (tSeq (tAsg (tTup (tCons (tOp (rIx K) (tOp (rIx K) (tVar 6) (tUn (rU fun i => .int (-i)) (tC (.int 1)))) (tC (.int 0))) (tCons (tC (.bl false)) tNil))) (gSub (tVar 6) (tUn (rU fun i => .int (-i)) (tC (.int 1))) rSetL))
      (tRet (tVar 6)))))))))))
section
variable {K : PySem.W.Frag}
theorem at_of' {α : Type} {xs : List α} {z : Int} {j : Nat} {v : α} (e : z = (j : Int)) (h : xs[j]? = some v) : atI xs z = some v := by
  rw [e]
  exact atI_nat h
theorem atI_nn {α : Type} {xs : List α} {i : Int} (h0 : 0 ≤ i) (h1 : i < xs.length) : ∃ x, atI xs i = some x ∧ xs[i.toNat]? = some x := by
  have h : i.toNat < xs.length := by omega
  refine ⟨xs[i.toNat], ?_, List.getElem?_eq_getElem h⟩
  exact at_of' (by omega) (List.getElem?_eq_getElem h)
theorem log2_small {m : Int} (h0 : 0 < m) (h : m < 2 ^ 200) : m.natAbs.log2 < 9000 := by
  have h1 : m.natAbs < 2 ^ 200 := by omega
  have : m.natAbs.log2 < 200 := (Nat.log2_lt (by omega)).mpr h1
  omega
theorem d_law_state : ∀ ds μ P PX, c_law_state K ds μ P PX → MuCl μ μ.length → clL ds μ.length = true → ∀ B E, XAg K B (RetX μ.length PX) E → DS K B (t_law_state K E) (startD ["_law_script", "_law_k", "_law_cell", "_law_found", "_law_j", "_law_one"] ds) μ (fnE μ.length P) := by
  intro ds μ P PX h hm hc B E hE
  obtain ⟨ns, k, rfl, hk0, hk1, h⟩ := h
  show DS K B _ [some (.rdl (ns.map D.int)), some (.int k), none, none, none, none] μ _
  unfold t_law_state
  -- the cell
  have cell : DE K B (tIf (tTest (tOp (rI0 fun i j => .bl (decide (i < j))) (tVar 1) (tCB (rLen K) (tCons (tVar 0) tNil)))) (tOp (rIx K) (tVar 0) (tVar 1)) (tOp rMulA (tC (.int 7)) (tVar 1))) [some (.rdl (ns.map D.int)), some (.int k), none, none, none, none] μ (fun d μ' => ∃ c, d = .int c ∧ μ = μ') := by
    wtm_at "a"
    · rename_i hb
      try rw [List.length_map] at hb
      obtain ⟨x, hx, _⟩ := atI_nn (xs := ns) hk0 hb
      refine ro_ixL (.rdl _) (d := .int x) ?_ ⟨x, rfl, rfl⟩
      unfold atI at hx ⊢
      rw [List.length_map]
      cases q : ixN ns.length k with
      | none => rw [q] at hx; cases hx
      | some j =>
        rw [q] at hx
        have hx' : ns[j]? = some x := hx
        show (ns.map D.int)[j]? = some (D.int x)
        rw [List.getElem?_map, hx']
        rfl
    · exact ro_mulI (.inl ⟨by decide, by decide⟩) ⟨_, rfl, rfl⟩
  refine q_set (cell.imp ?_)
  rintro d μ' ⟨c, rfl, rfl⟩
  wtm_at "a"
  · refine ro_pow ⟨by decide, by decide, by decide⟩ ?_
    wtm_at "a"
    · refine de_lstO ?_
      wtm_at "a"
      refine ro_pow ⟨by decide, by decide, by decide⟩ ?_
      wtm_at "a"
      refine ⟨by simp, ?_⟩
      exact ret_same0 (by simp) (hm.app (by simp [MO.cl, clL, D.cl])) (by simp [D.cl]) (h _)
    · refine q_for ?_
      wtm_at "a"
      refine ⟨by decide, by decide, fun i ρ μ' => ∃ f y4 y5, ρ = [some (.rdl (ns.map D.int)), some (.int k), some (.int c), some (.int f), y4, y5] ∧ μ = μ', ⟨0, none, none, rfl, rfl⟩, fun _ _ _ _ _ => trivial, ?_, ?_⟩
      · rintro i d ρ μ' hd ⟨f, y4, y5, rfl, rfl⟩
        obtain ⟨hi, rfl⟩ := rangeD_some hd
        wtm_at "a"
        refine ro_mulI (.inl ⟨by decide, by decide⟩) ?_
        wtm_at "a"
        refine ro_mulI (.inl ⟨by decide, by decide⟩) ?_
        wtm_at "a"
        refine ro_mulI (.inr ⟨by decide, by decide⟩) ?_
        wtm_at "a"
        refine ro_mod (by decide) ?_
        wtm_at "a"
        refine ro_mulI (.inr ⟨by decide, by decide⟩) ?_
        wtm_at "a"
        refine ro_mulI (.inl ⟨by decide, by decide⟩) ?_
        wtm_at "a"
        refine ro_mulI (.inl ⟨?_, ?_⟩) ?_
        · have := Int.emod_nonneg ((c + 7919 * (90 * k + (0 + (i : Int)) + 1)) * 48271) (b := 2147483647) (by decide)
          omega
        · have := Int.emod_lt_of_pos ((c + 7919 * (90 * k + (0 + (i : Int)) + 1)) * 48271) (b := 2147483647) (by decide)
          omega
        wtm_at "a"
        refine ro_mod (by decide) ?_
        wtm_at "a"
        exact ⟨_, _, _, rfl, rfl⟩
      · rintro ρ μ' ⟨f, y4, y5, rfl, rfl⟩
        wtm_at "a"
        refine de_lstO ?_
        wtm_at "a"
        refine ⟨by simp, ?_⟩
        exact ret_same0 (by simp) (hm.app (by simp [MO.cl, clL, D.cl])) (by simp [D.cl]) (h _)
theorem d_law_next : ∀ ds μ P PX, c_law_next K ds μ P PX → MuCl μ μ.length → clL ds μ.length = true → ∀ B E, XAg K B (RetX μ.length PX) E → DS K B (t_law_next K E) (startD ["_law_draw", "_law_amount", "_law_found"] ds) μ (fnE μ.length P) := by
  intro ds μ P PX h hm hc B E hE
  obtain ⟨k, n, m, rfl, hk, h0, h1, h⟩ := h
  show DS K B _ [some (.own k), some (.int m), none] μ _
  unfold t_law_next
  wtm_at "a"
  refine ro_ixL (.own hk) (d := .int n) rfl ?_
  wtm_at "a"
  refine ro_mod h0 ?_
  wtm_at "a"
  refine ro_ixL (.own hk) (d := .int n) rfl ?_
  wtm_at "a"
  refine ro_fdiv h0 (log2_small h0 h1) ?_
  wtm_at "a"
  refine rset_lst hk (j := 0) rfl ?_
  wtm_at "a"
  refine ret_same0 (by simp) ?_ (by simp [D.cl]) (h _ (n / m) (Int.emod_nonneg _ (by omega)) (Int.emod_lt_of_pos _ h0))
  rw [List.length_set]
  exact hm.set (by simp [MO.cl, clL, D.cl])
theorem d_law_pick : ∀ ds μ P PX, c_law_pick K ds μ P PX → MuCl μ μ.length → clL ds μ.length = true → ∀ B E, XAg K B (RetX μ.length PX) E → DS K B (t_law_pick K E) (startD ["_law_draw", "_law_some"] ds) μ (fnE μ.length P) := by
  intro ds μ P PX h hm hc B E hE
  obtain ⟨k, n, x, xs, rfl, hk, lf, h0, h1, h⟩ := h
  show DS K B _ [some (.own k), some x] μ _
  unfold t_law_pick
  have hcx : clL xs μ.length = true := by
    cases lf <;> simp [clL, D.cl] at hc <;> exact hc.2
  wtm_at "a"
  refine de_call (PX := RetX μ.length PX) hE ?_
  wtm_at "a"
  refine rc_lenL (lf.ls _) ?_
  wtm_at "a"
  refine ⟨k, n, _, rfl, hk, by omega, by omega, fun r n' hr0 hr1 => ?_⟩
  obtain ⟨d, hd, hd2⟩ := atI_nn hr0 hr1
  have hmem := List.mem_of_getElem? hd2
  refine ro_ixL (lf.ls _) hd ?_
  refine ret_same0 (by simp) ?_ ?_ (h d n' hmem)
  · rw [List.length_set]
    exact hm.set (by simp [MO.cl, clL, D.cl])
  · rw [List.length_set]
    exact clL_iff.mp hcx d hmem
theorem d_law_sections : ∀ ds μ P PX, c_law_sections K ds μ P PX → MuCl μ μ.length → clL ds μ.length = true → ∀ B E, XAg K B (RetX μ.length PX) E → DS K B (t_law_sections K E) (startD ["_law_draw", "_law_most", "_law_size", "_law_top", "_law_share", "_law_many", "_law_found", "_law_k", "_law_at"] ds) μ (fnE μ.length P) := by
  intro ds μ P PX h hm hc B E hE
  obtain ⟨k, n, most, rfl, hk, hm1, hm2, h⟩ := h
  show DS K B _ [some (.own k), some (.int most), none, none, none, none, none, none, none] μ _
  unfold t_law_sections
  have hset : ∀ z : Int, (μ.set k (.lst [.int z]))[k]? = some (.lst [.int z]) := fun z => set_get hk
  have hlen : ∀ z : MO, (List.set μ k z).length = μ.length := fun z => by simp
  have hcl : ∀ z : Int, MuCl (μ.set k (.lst [.int z])) μ.length := fun z => hm.set (by simp [MO.cl, clL, D.cl])
  -- size
  wtm_at "a"
  refine de_call (PX := RetX μ.length PX) hE ?_
  wtm_at "a"
  refine de_lst ?_
  wtm_at "a"
  refine ⟨by simp, ?_⟩
  wtm_at "a"
  refine ⟨k, n, _, _, rfl, hk, .lst _, by simp, by simp, fun d n1 hd => ?_⟩
  obtain ⟨size, rfl, hs1, hs2⟩ : ∃ size, d = .int size ∧ 1 ≤ size ∧ size ≤ max 9 most := by
    simp at hd
    rcases hd with rfl | rfl | rfl | rfl | rfl <;> exact ⟨_, rfl, by omega, by omega⟩
  clear hd
  -- top
  wtm_at "a"
  refine de_call (PX := RetX μ.length PX) hE ?_
  wtm_at "a"
  refine de_lst ?_
  wtm_at "a"
  refine ro_pow ⟨by decide, by decide, by decide⟩ ?_
  wtm_at "a"
  refine ⟨by simp, ?_⟩
  wtm_at "a"
  refine ⟨k, n1, _, _, rfl, hset n1, .lst _, by simp, by simp, fun d n2 hd => ?_⟩
  obtain ⟨top, rfl, ht1, ht2⟩ : ∃ top, d = .int top ∧ 1 ≤ top ∧ top ≤ 1000000000000 := by
    simp at hd
    rcases hd with rfl | rfl | rfl | rfl | rfl <;> exact ⟨_, rfl, by decide, by decide⟩
  clear hd
  rw [set_set']
  -- share
  wtm_at "a"
  refine de_call (PX := RetX μ.length PX) hE ?_
  wtm_at "a"
  refine de_lst ?_
  wtm_at "a"
  refine ⟨by simp, ?_⟩
  wtm_at "a"
  refine ⟨k, n2, _, _, rfl, hset n2, .lst _, by simp, by simp, fun d n3 hd => ?_⟩
  obtain ⟨share, rfl⟩ : ∃ share, d = .int share := by
    simp at hd
    rcases hd with rfl | rfl | rfl | rfl <;> exact ⟨_, rfl⟩
  clear hd
  rw [set_set']
  -- many
  wtm_at "a"
  refine de_call (PX := RetX μ.length PX) hE ?_
  wtm_at "a"
  refine ⟨k, n3, size, rfl, hset n3, by omega, by omega, fun r n4 hr0 hr1 => ?_⟩
  rw [set_set']
  wtm_at "e"
  refine ds_cut (M := fun ρ' μ' => ∃ many, 1 ≤ many ∧ many ≤ max 9 most ∧ ρ' = [some (.own k), some (.int most), some (.int size), some (.int top), some (.int share), some (.int many), none, none, none] ∧ μ' = μ.set k (.lst [.int n4])) ?_ ?_
  · wtm_at "a"
    · refine ro_mod (by decide) ?_
      wtm_at "a"
      · exact ⟨most, hm1, by omega, rfl, rfl⟩
      · exact ⟨1 + r, by omega, by omega, rfl, rfl⟩
    · exact ⟨1 + r, by omega, by omega, rfl, rfl⟩
  rintro ρ' μ' ⟨many, hy1, hy2, rfl, rfl⟩
  wtm_at "a"
  refine de_lstO ?_
  wtm_at "a"
  refine ⟨by simp, ?_⟩
  rw [hlen]
  wtm_at "a"
  refine q_for ?_
  wtm_at "a"
  refine ⟨by omega, by omega, fun i ρ μ' => ∃ (z : Int) (fnd : List Sec) (y7 : Option D), ρ = [some (.own k), some (.int most), some (.int size), some (.int top), some (.int share), some (.int many), some (.own μ.length), y7, none] ∧ μ' = μ.set k (.lst [.int z]) ++ [.lst (fnd.map secD)] ∧ fnd.length = i ∧ ∀ s ∈ fnd, 1 ≤ s.1 ∧ s.1 ≤ 1000000000000,
    ⟨n4, [], none, rfl, rfl, rfl, by simp⟩, fun _ _ _ _ _ => trivial, ?_, ?_⟩
  · rintro i d ρ μ' hd ⟨z, fnd, y7, rfl, rfl, hfl, hfs⟩
    obtain ⟨hi, rfl⟩ := rangeD_some hd
    wtm_at "a"
    have hlast : ∀ z : Int, ∀ o : MO, (μ.set k (.lst [.int z]) ++ [o])[μ.length]? = some o := fun z o => by rw [← hlen (.lst [.int z])]; exact mu_last
    refine ⟨ty_list (.own (hlast _ _)), ?_⟩
    wtm_at "a"
    refine de_tup ?_
    wtm_at "a"
    refine de_call (PX := RetX μ.length PX) hE ?_
    wtm_at "a"
    refine ⟨k, z, top, rfl, mu_old (hset z), by omega, by omega, fun r1 z1 h10 h11 => ?_⟩
    rw [set_old (hset z), set_set']
    wtm_at "a"
    refine de_call (PX := RetX μ.length PX) hE ?_
    wtm_at "a"
    refine ⟨k, z1, 5, rfl, mu_old (hset z1), by omega, by omega, fun r2 z2 h20 h21 => ?_⟩
    rw [set_old (hset z1), set_set']
    wtm_at "a"
    refine ⟨by simp, ?_⟩
    wtm_at "a"
    refine rm_app (hlast _ _) (by simp; omega) ?_
    rw [← hlen (.lst [.int z2]), set_last]
    refine ⟨z2, fnd ++ [(1 + r1, decide (r2 < share))], _, by rw [hlen]; rfl, by simp [secD], by simp [hfl], fun s hs => ?_⟩
    rcases List.mem_append.mp hs with m | m
    · exact hfs s m
    · simp at m; subst m; exact ⟨by show 1 ≤ 1 + r1; omega, by show 1 + r1 ≤ _; omega⟩
  · rintro ρ μ' ⟨z, fnd, y7, rfl, rfl, hfl, hfs⟩
    rw [rangeD_length] at hfl
    have hlast : ∀ z : Int, ∀ o : MO, (μ.set k (.lst [.int z]) ++ [o])[μ.length]? = some o := fun z o => by rw [← hlen (.lst [.int z])]; exact mu_last
    have hsetl : ∀ z : Int, ∀ o o' : MO, (μ.set k (.lst [.int z]) ++ [o]).set μ.length o' = μ.set k (.lst [.int z]) ++ [o'] := fun z o o' => by rw [← hlen (.lst [.int z])]; exact set_last
    -- if top == 10 ** 12 and ..
    refine ds_cut (M := fun ρ' μ' => ∃ (z : Int) (fnd : List Sec) (y7 y8 : Option D), ρ' = [some (.own k), some (.int most), some (.int size), some (.int top), some (.int share), some (.int many), some (.own μ.length), y7, y8] ∧ μ' = μ.set k (.lst [.int z]) ++ [.lst (fnd.map secD)] ∧ fnd.length = many.toNat ∧ ∀ s ∈ fnd, 1 ≤ s.1 ∧ s.1 ≤ 1000000000000) ?_ ?_
    · wtm_at "a"
      refine ro_pow ⟨by decide, by decide, by decide⟩ ?_
      wtm_at "a"
      · refine de_call (PX := RetX μ.length PX) hE ?_
        wtm_at "a"
        refine ⟨k, z, 2, rfl, mu_old (hset z), by omega, by omega, fun r1 z1 h10 h11 => ?_⟩
        rw [set_old (hset z), set_set']
        wtm_at "a"
        · refine de_call (PX := RetX μ.length PX) hE ?_
          wtm_at "a"
          refine ⟨k, z1, many, rfl, mu_old (hset z1), by omega, by omega, fun r2 z2 h20 h21 => ?_⟩
          rw [set_old (hset z1), set_set']
          obtain ⟨s, hs, hs'⟩ := atI_nn (xs := fnd) (i := r2) h20 (by omega)
          have hsD : atI (fnd.map secD) r2 = some (secD s) := at_of' (j := r2.toNat) (by omega) (by rw [List.getElem?_map, hs']; rfl)
          wtm_at "a"
          refine de_tup ?_
          wtm_at "a"
          refine ro_ixL (.own (hlast _ _)) hsD ?_
          wtm_at "a"
          refine ⟨by simp, ?_⟩
          wtm_at "a"
          refine rset_lst (hlast _ _) (j := r2.toNat) (by unfold ixN; rw [if_pos h20, if_pos (by rw [List.length_map]; omega)]) ?_
          rw [hsetl]
          refine ⟨z2, fnd.set r2.toNat (top, s.2), _, _, rfl, ?_, by simp [hfl], fun y hy => ?_⟩
          · rw [List.map_set]; rfl
          · rcases List.mem_or_eq_of_mem_set hy with m | m
            · exact hfs y m
            · subst m; exact ⟨ht1, ht2⟩
        · exact ⟨z1, fnd, _, _, rfl, rfl, hfl, hfs⟩
      · exact ⟨z, fnd, _, _, rfl, rfl, hfl, hfs⟩
    rintro ρ' μ' ⟨z, fnd, y7, y8, rfl, rfl, hfl, hfs⟩
    -- the last one is not tied
    obtain ⟨ini, s, rfl⟩ : ∃ ini s, fnd = ini ++ [s] := by
      rcases List.eq_nil_or_concat fnd with e | ⟨ini, s, e⟩
      · subst e; simp at hfl; omega
      · exact ⟨ini, s, by simpa using e⟩
    have hat : atI ((ini ++ [s]).map secD) (-1) = some (secD s) := by
      rw [List.map_append]
      exact atI_last _ _
    wtm_at "a"
    refine de_tup ?_
    wtm_at "a"
    refine ro_ixL (.own (hlast _ _)) hat ?_
    wtm_at "a"
    refine ⟨by simp, ?_⟩
    wtm_at "a"
    refine rset_lst (hlast _ _) (j := ini.length) (by unfold ixN; simp; omega) ?_
    rw [hsetl]
    have hnew' : (((ini ++ [s]).map secD).set ini.length (.tup [.int s.1, .bl false])) = (ini ++ [(s.1, false)]).map secD := by
      rw [List.map_append, List.set_append_right _ _ (by simp)]
      simp [secD]
    rw [hnew']
    have hgood : Good (ini ++ [(s.1, false)]) := by
      have hl2 : (ini ++ [(s.1, false)]).length = many.toNat := by rw [← hfl]; simp
      refine ⟨by omega, by omega, fun y hy => ?_, fun y hy => ?_⟩
      · rcases List.mem_append.mp hy with m | m
        · exact hfs y (List.mem_append_left _ m)
        · simp at m; subst m; exact hfs s (List.mem_append_right _ (by simp))
      · rw [List.getLast?_append] at hy
        simp at hy
        subst hy
        rfl
    have hres := h _ z hgood (by have : (ini ++ [(s.1, false)]).length = many.toNat := by (rw [← hfl]; simp)
                                 omega)
    have hclS : ∀ n, clL ((ini ++ [(s.1, false)]).map secD) n = true := fun n => clL_map fun x _ => by simp [secD, D.cl, clL]
    rcases hres with hres | hres
    · refine ds_ret (de_frz ?_)
      wtm_at "a"
      refine ⟨_, _, rfl, hlast _ _, ?_⟩
      rw [hsetl]
      exact ret_same (by simp) (by rw [hlen]; exact hcl z) (by unfold D.cl; exact hclS _) hres
    · rw [hlen] at hres
      wtm_at "a"
      refine ret_same0 (by simp) ?_ (by simp [D.cl]) hres
      refine MuCl.app (by rw [hlen]; exact hcl z) (by simp only [MO.cl]; exact hclS _)
end
def c_Book_many (K : PySem.W.Frag) : CT := fun ds μ P PX => ∃ ss : List Sec, ds = [bookD K ss] ∧ P (.int ss.length) μ
/-- how long the sections from f up to e are -/
def longOf (ss : List Sec) (f e : Int) : Int := (((ss.drop f.toNat).take (e - f).toNat).map (·.1)).sum
def c_Book_long (K : PySem.W.Frag) : CT := fun ds μ P PX => ∃ (ss : List Sec) (f e : Int), ds = [bookD K ss, .int f, .int e] ∧ ss.length ≤ 60 ∧ (0 ≤ f ∧ f ≤ e ∧ e ≤ ss.length → P (.int (longOf ss f e)) μ) ∧ (¬ (0 ≤ f ∧ f ≤ e ∧ e ≤ ss.length) → PX (He.ga K "BadNumber") [] μ)
def endsOf (ss : List Sec) : List Int := (blocks ss).map (·.2)
/-- a cut of whole blocks through the book, from a on -/
def cutFrom (ss : List Sec) : Int → List (Int × Int) → Bool
  | a, [] => decide (a = ss.length)
  | a, p :: r => if p.1 ≠ a ∨ p.2 ≤ a ∨ p.2 ∉ endsOf ss then false else cutFrom ss p.2 r
def c_is_cut (K : PySem.W.Frag) : CT := fun ds μ P PX => ∃ (ss : List Sec) (x : D) (ps : List (Int × Int)), ds = [bookD K ss, x] ∧ Ls μ x (ps.map pairD) ∧ ss.length ≤ 60 ∧ P (.bl (cutFrom ss 0 ps)) μ
def t_Book_many (K : PySem.W.Frag) (E : XK) : TS :=
    (tRet (tCB (rLen K) (tCons (tFld K (tVar 0) "parts") tNil)))
def t_Book_long (K : PySem.W.Frag) (E : XK) : TS :=
    (tSeq (tIfS (tNot (tTest (tChain3 (rI0 fun i j => .bl (decide (i ≤ j))) (rI0 fun i j => .bl (decide (i ≤ j))) (rI0 fun i j => .bl (decide (i ≤ j))) (tC (.int 0)) (tVar 1) (tVar 2) (tCB (rLen K) (tCons (tFld K (tVar 0) "parts") tNil))))) (tRaise0 (He.ga K "BadNumber") E) tNext)
      (tRet (tCB (rSum K) (tCons (tLc (iAny K (tSl (rSlA K) (tFld K (tVar 0) "parts") (tPart (tVar 1)) (tPart (tVar 2)))) (gName 3) tYes (tOp (rIx K) (tVar 3) (tC (.int 0))) [3]) tNil))))
def t_is_cut (K : PySem.W.Frag) (E : XK) : TS :=
    (tSeq (tAsg (tLc (iAny K (tMeth (He.ga K "Book") "blocks" (spD K (c_Book_blocks K)) [] E (tVar 0) tNil)) (gTup K 2 (gCons (gName 3) (gCons (gName 4) gNil))) tYes (tVar 4) [3, 4]) (gName 2))
      (tSeq (tAsg (tC (.int 0)) (gName 5))
      (tSeq (tFor (iAny K (tVar 1)) (gTup K 2 (gCons (gName 3) (gCons (gName 4) gNil))) (tSeq (tIfS (tOr (tTest (tOp (rNeD K) (tVar 3) (tVar 5))) (tOr (tTest (tOp (rI0 fun i j => .bl (decide (i ≤ j))) (tVar 4) (tVar 5))) (tTest (tOp (rNotInA K) (tVar 4) (tVar 2))))) (tRet (tC (.bl false))) tNext)
      (tAsg (tVar 4) (gName 5))))
      (tRet (tOp (rEqD K) (tVar 5) (tMeth (He.ga K "Book") "many" (spD K (c_Book_many K)) [] E (tVar 0) tNil))))))
local macro_rules | `(tactic| wtm_at "sz") => `(tactic| ((with_reducible show Sz _ ∧ _); refine And.intro (by unfold Sz; first | decide | (simp; done) | (simp; omega) | omega) ?_))
local macro_rules | `(tactic| wtm_at "d2") => `(tactic| with_reducible (first
  | refine de_tupZ ?_
  | refine de_revL ?_
  | refine de_call (by assumption) ?_))
local macro_rules | `(tactic| wtm_at "o2") => `(tactic| first
  | refine ro_mod (by first | decide | omega) ?_
  | refine ro_pow ⟨by decide, by decide, by decide⟩ ?_
  | refine rs_anyL (.lst _) ?_
  | refine ro_mulI (by first | exact .inl ⟨by omega, by omega⟩ | exact .inr ⟨by omega, by omega⟩) ?_
  | refine rc_list (.lst _) ?_
  | refine dg_tup rfl ?_
  | fail)
local macro_rules | `(tactic| wtm_at "h2") => `(tactic| with_reducible (first | refine two_i ?_ | refine ⟨_, Ls.lst _, ?_⟩))
local macro_rules | `(tactic| wtm_at "sP") => `(tactic| with_reducible (first | refine q_parZ ?_ | refine ds_parZ ?_))
local macro_rules | `(tactic| wtm_at "A") => `(tactic| repeat' first | wtm_at "v" | wtm_at "dE" | wtm_at "dO" | wtm_at "dT" | wtm_at "sP" | wtm_at "dS" | wtm_at "d2" | wtm_at "i" | wtm_at "l" | wtm_at "x" | wtm_at "o2" | wtm_at "h" | wtm_at "h2" | wtm_at "sz" | wtm_at "b" | fail)
local macro_rules | `(tactic| wtm_at "E") => `(tactic| repeat' first | wtm_at "v" | wtm_at "dE" | wtm_at "dO" | wtm_at "dT" | wtm_at "d2" | wtm_at "i" | wtm_at "l" | wtm_at "x" | wtm_at "o2" | wtm_at "h" | wtm_at "h2" | wtm_at "sz" | wtm_at "b" | fail)
section
variable {K : PySem.W.Frag}
theorem d_Book_many (kb : KBook K) : ∀ ds μ P PX, c_Book_many K ds μ P PX → MuCl μ μ.length → clL ds μ.length = true → ∀ B E, XAg K B (RetX μ.length PX) E → DS K B (t_Book_many K E) (startD ["self"] ds) μ (fnE μ.length P) := by
  intro ds μ P PX h hm hc B E hE
  obtain ⟨ss, rfl, h⟩ := h
  show DS K B _ [some (bookD K ss)] μ _
  unfold t_Book_many
  wtm_at "A"
  refine de_fld ?_
  wtm_at "A"
  refine ⟨cBook K, _, _, .inl rfl, kb.cl, kb.parts, rfl, ?_⟩
  wtm_at "A"
  wtm_at "r"
  simpa using h
def secN : D → D
  | .tup [n, _] => n
  | _ => .non
theorem d_Book_long (kb : KBook K) : ∀ ds μ P PX, c_Book_long K ds μ P PX → MuCl μ μ.length → clL ds μ.length = true → ∀ B E, XAg K B (RetX μ.length PX) E → DS K B (t_Book_long K E) (startD ["self", "first", "end", "one"] ds) μ (fnE μ.length P) := by
  intro ds μ P PX h hm hc B E hE
  obtain ⟨ss, f, e, rfl, hlen, h, hx⟩ := h
  show DS K B _ [some (bookD K ss), some (.int f), some (.int e), none] μ _
  unfold t_Book_long
  have raise : ¬ (0 ≤ f ∧ f ≤ e ∧ e ≤ ss.length) → DS K B (tRaise0 (He.ga K "BadNumber") E) [some (bookD K ss), some (.int f), some (.int e), none] μ { fnE μ.length P with nx := fun ρ1 μ1 => DS K B (tRet (tCB (rSum K) (tCons (tLc (iAny K (tSl (rSlA K) (tFld K (tVar 0) "parts") (tPart (tVar 1)) (tPart (tVar 2)))) (gName 3) tYes (tOp (rIx K) (tVar 3) (tC (.int 0))) [3]) tNil))) ρ1 μ1 (fnE μ.length P) } := fun hn => ds_raise0 hE (retx_same0 hm rfl (hx hn))
  wtm_at "A"
  · refine de_fld ?_
    wtm_at "A"
    refine ⟨cBook K, _, _, .inl rfl, kb.cl, kb.parts, rfl, ?_⟩
    wtm_at "A"
    · exact raise (by simp at *; omega)
    · refine lc_map secN (gw_name (by simp)) ?_
      wtm_at "A"
      refine de_fld ?_
      wtm_at "A"
      refine ⟨cBook K, _, _, .inl rfl, kb.cl, kb.parts, rfl, ?_⟩
      wtm_at "A"
      have hcut : cutD (ss.map secD) (some f) (some e) = ((ss.drop f.toNat).take (e - f).toNat).map secD := by
        rw [cut_nat (by omega) (by omega) (by rw [List.length_map]; omega), List.map_take, List.map_drop]
      rw [hcut]
      refine ⟨_, _, .lst _, trivial, by simp; omega, fun j d hj => ?_, fun out ho => ?_⟩
      · obtain ⟨s, _, rfl⟩ := secs_get hj
        wtm_at "A"
        refine ⟨rfl, ?_⟩
        unfold secD
        wtm_at "A"
        exact ⟨rfl, rfl⟩
      wtm_at "A"
      refine rc_sum (ns := ((ss.drop f.toNat).take (e - f).toNat).map (·.1)) ?_ ?_
      · rw [← ho, List.map_map, List.map_map]
        exact .lst _
      wtm_at "r"
      exact h (by omega)
  · exact raise (by omega)
  · exact raise (by omega)
theorem pairs_get {ss : List (Int × Int)} {i : Nat} {d : D} (h : (ss.map pairD)[i]? = some d) : ∃ s, ss[i]? = some s ∧ d = pairD s := by
  rw [List.getElem?_map] at h
  cases q : ss[i]? with
  | none => rw [q] at h; cases h
  | some s => rw [q] at h; exact ⟨s, rfl, (Option.some.inj h).symm⟩
def pairE : D → D
  | .tup [_, n] => n
  | _ => .non
theorem drop_cons' {α : Type} {xs : List α} {i : Nat} {x : α} (h : xs[i]? = some x) : xs.drop i = x :: xs.drop (i + 1) := by
  have hi : i < xs.length := (List.getElem?_eq_some_iff.mp h).1
  rw [List.drop_eq_getElem_cons hi]
  rw [List.getElem?_eq_getElem hi] at h
  rw [Option.some.inj h]
theorem d_is_cut : ∀ ds μ P PX, c_is_cut K ds μ P PX → MuCl μ μ.length → clL ds μ.length = true → ∀ B E, XAg K B (RetX μ.length PX) E → DS K B (t_is_cut K E) (startD ["book", "pieces", "ends", "first", "end", "at"] ds) μ (fnE μ.length P) := by
  intro ds μ P PX h hm hc B E hE
  obtain ⟨ss, x, ps, rfl, hl, hlen, h⟩ := h
  show DS K B _ [some (bookD K ss), some x, none, none, none, none] μ _
  unfold t_is_cut
  have hbl : (blocks ss).length ≤ ss.length := blocksFrom_len ss 0 0
  wtm_at "A"
  refine lc_map pairE (gw_tup (gws_cons (i := 3) (vs := [3, 4]) (by simp) (gws_cons (i := 4) (by simp) gws_nil))) ?_
  wtm_at "A"
  refine de_meth (PX := RetX μ.length PX) hE ?_
  wtm_at "A"
  refine ⟨_, .inl rfl, by rfl, ?_⟩
  wtm_at "A"
  refine ⟨ss, rfl, hlen, .inl ?_⟩
  refine ⟨_, _, .lst _, trivial, by simp; omega, fun j d hj => ?_, fun out ho => ?_⟩
  · obtain ⟨p, _, rfl⟩ := pairs_get hj
    unfold pairD
    wtm_at "A"
    refine ⟨rfl, ?_⟩
    wtm_at "A"
    exact ⟨rfl, rfl⟩
  have ho' : out = (endsOf ss).map D.int := by
    rw [← ho, endsOf, List.map_map, List.map_map]
    rfl
  subst ho'
  clear ho
  wtm_at "A"
  refine q_for ?_
  obtain ⟨S, wk⟩ := hl.wk
  wtm_at "A"
  refine ⟨_, _, wk, fun i ρ μ' => ∃ at_ y3 y4, ρ = [some (bookD K ss), some x, some (.lst ((endsOf ss).map D.int)), y3, y4, some (.int at_)] ∧ μ = μ' ∧ cutFrom ss at_ (ps.drop i) = cutFrom ss 0 ps,
    ⟨0, none, none, rfl, rfl, rfl⟩, fun i ρ μ' _ hI => ?_, ?_, ?_⟩
  · obtain ⟨_, _, _, _, rfl, _⟩ := hI; exact wk.now
  · rintro i d ρ μ' hd ⟨at_, y3, y4, rfl, rfl, he⟩
    obtain ⟨⟨f, e⟩, hp, rfl⟩ := pairs_get hd
    rw [drop_cons' hp, cutFrom] at he
    unfold pairD
    have no : ¬ (f = at_ ∧ at_ < e ∧ e ∈ endsOf ss) → cutFrom ss 0 ps = false := fun hn => by
      rw [if_pos] at he
      · exact he.symm
      · by_cases h1 : f = at_ <;> by_cases h2 : e ≤ at_ <;> simp_all
    wtm_at "A"
    · refine ro_notInI (.lst _) ?_
      wtm_at "A"
      · rename_i hb
        wtm_at "r"
        rw [no (by simp_all)] at h; exact h
      · rename_i h1 h2 hb
        refine ⟨_, _, _, rfl, rfl, ?_⟩
        rw [if_neg] at he
        · exact he
        · simp_all
    · wtm_at "r"
      rw [no (by omega)] at h; exact h
    · wtm_at "r"
      rw [no (by omega)] at h; exact h
  · rintro ρ μ' ⟨at_, y3, y4, rfl, rfl, he⟩
    rw [List.length_map, List.drop_length, cutFrom] at he
    wtm_at "A"
    refine de_meth (PX := RetX μ.length PX) hE ?_
    wtm_at "A"
    refine ⟨_, .inl rfl, by rfl, ?_⟩
    wtm_at "A"
    refine ⟨ss, rfl, ?_⟩
    wtm_at "A"
    wtm_at "r"
    rw [← he] at h
    exact h
theorem good_dat (ss : List Sec) : (D.lst (ss.map secD)).dat = true := by
  unfold D.dat
  rw [datL_iff]
  intro x hx
  obtain ⟨s, _, rfl⟩ := List.mem_map.mp hx
  simp [secD, D.dat, datL]
theorem good_secs {ss : List Sec} (h : Good ss) : areSecs (.lst (ss.map secD)) = true := by
  have h1 : (ss.map secD).all isSec = true := by
    rw [List.all_eq_true]
    intro x hx
    obtain ⟨s, hs, rfl⟩ := List.mem_map.mp hx
    have := h.long s hs
    simp [isSec, secD, isNum]
    omega
  have := h.pos
  have := h.most
  cases q : ss.getLast? with
  | none => rw [List.getLast?_eq_none_iff] at q; have := h.pos; rw [q] at this; simp at this
  | some s =>
    have h2 := h.last s q
    have h3 : (ss.map secD).getLast? = some (secD s) := by rw [List.getLast?_map, q]; rfl
    simp only [areSecs, h1, h3, List.length_map]
    simp [secD, secTied, h2]
    omega
theorem shp_secs (ss : List Sec) : shpL (ss.map secD) 1 = true := shpL_map fun x _ => by simp [secD, D.shp, shpL]
end
/-! ### cuts: contracts and their plain law -/
/-- the first block that is longer -/
def tooLong (ss : List Sec) (limit : Int) : Option Int := ((blocks ss).find? fun p => decide (limit < longOf ss p.1 p.2)).map (·.1)
def optI : Option Int → D
  | some i => .int i
  | none => .non
def c_first_too_long (K : PySem.W.Frag) : CT := fun ds μ P PX => ∃ (ss : List Sec) (limit : Int), ds = [bookD K ss, .int limit] ∧ Good ss ∧ P (optI (tooLong ss limit)) μ
/-- the greedy pieces -/
def fewFrom (ss : List Sec) (limit : Int) : Int → Int → List (Int × Int) → List (Int × Int)
  | a, b, [] => [(a, b)]
  | a, b, (f, e) :: r => if limit < longOf ss a e then (a, b) :: fewFrom ss limit f e r else fewFrom ss limit a e r
def fewestOf (ss : List Sec) (limit : Int) : List (Int × Int) := fewFrom ss limit 0 0 (blocks ss)
def c_fewest (K : PySem.W.Frag) : CT := fun ds μ P PX => ∃ (ss : List Sec) (limit : Int), ds = [bookD K ss, .int limit] ∧ Good ss ∧ (limit < 0 → PX (He.ga K "BadNumber") [] μ) ∧ (0 ≤ limit → ∀ f, tooLong ss limit = some f → PX (He.ga K "TooTight") [("block", .int f)] μ) ∧
  (0 ≤ limit → tooLong ss limit = none → Fresh ((fewestOf ss limit).map pairD) μ P)
/-- how long the blocks are -/
def sizesOf (ss : List Sec) : List Int := (blocks ss).map fun p => longOf ss p.1 p.2
def c_longest_block (K : PySem.W.Frag) : CT := fun ds μ P PX => ∃ ss : List Sec, ds = [bookD K ss] ∧ Good ss ∧ ∀ m, m ∈ sizesOf ss → (∀ y ∈ sizesOf ss, y ≤ m) → P (.int m) μ
def fewOk (ss : List Sec) (many m : Int) : Prop := tooLong ss m = none ∧ ((fewestOf ss m).length : Int) ≤ many
def c_least_limit (K : PySem.W.Frag) : CT := fun ds μ P PX => ∃ (ss : List Sec) (many : Int), ds = [bookD K ss, .int many] ∧ Good ss ∧ (many < 1 → PX (He.ga K "BadNumber") [] μ) ∧ (1 ≤ many → ∀ m, 0 ≤ m → fewOk ss many m → (∀ m', m' < m → ¬ fewOk ss many m') → P (.int m) μ)
def c_law_word (K : PySem.W.Frag) : CT := fun ds μ P PX => ∃ x gs, ds = [.exc (He.ga K x) gs] ∧ x ∈ excNames ∧ P (.str x) μ
def c_law_blocks (K : PySem.W.Frag) : CT := fun ds μ P PX => ∃ ss : List Sec, ds = [secsD ss] ∧ ss.length ≤ 60 ∧ P (pairsD (blocks ss)) μ
def c_law_long (K : PySem.W.Frag) : CT := fun ds μ P PX => ∃ (ss : List Sec) (f e : Int), ds = [secsD ss, .int f, .int e] ∧ ss.length ≤ 60 ∧ 0 ≤ f ∧ f ≤ e ∧ e ≤ ss.length ∧ P (.int (longOf ss f e)) μ
/-! the blocks of a book lie side by side -/
def BlkCh (n : Int) : Int → List (Int × Int) → Prop
  | a, [] => a = n
  | a, (f, e) :: r => f = a ∧ a < e ∧ BlkCh n e r
theorem blkCh_from : ∀ (ss : List Sec) (f a : Int), f ≤ a → (∀ s, ss.getLast? = some s → s.2 = false) → (ss = [] → f = a) → BlkCh (a + ss.length) f (blocksFrom f a ss)
  | [], f, a, _, _, h => by simp [blocksFrom, BlkCh, h rfl]
  | [s], f, a, hf, hl, _ => by
    have := hl s (by simp)
    simp [blocksFrom, this, BlkCh]
    omega
  | s :: t :: r, f, a, hf, hl, _ => by
    unfold blocksFrom
    have hl' : ∀ s, (t :: r).getLast? = some s → s.2 = false := fun x hx => hl x (by simpa using hx)
    have e : a + ((s :: t :: r).length : Int) = (a + 1) + ((t :: r).length : Int) := by simp; omega
    split
    · rw [e]; exact blkCh_from (t :: r) f (a + 1) (by omega) hl' (by simp)
    · refine ⟨rfl, by omega, ?_⟩
      rw [e]; exact blkCh_from (t :: r) (a + 1) (a + 1) (by omega) hl' (by simp)
theorem blkCh {ss : List Sec} (h : Good ss) : BlkCh ss.length 0 (blocks ss) := by
  have := blkCh_from ss 0 0 (by omega) h.last (fun e => rfl)
  simpa [blocks] using this
theorem BlkCh.le {n : Int} : ∀ {bs : List (Int × Int)} {a : Int}, BlkCh n a bs → a ≤ n
  | [], a, h => by simp [BlkCh] at h; omega
  | (f, e) :: r, a, h => by
    have := h.2.2.le
    have := h.2.1
    omega
theorem BlkCh.mem {n : Int} : ∀ {bs : List (Int × Int)} {a : Int}, BlkCh n a bs → ∀ p ∈ bs, a ≤ p.1 ∧ p.1 < p.2 ∧ p.2 ≤ n
  | [], a, h, p, hp => by simp at hp
  | (f, e) :: r, a, h, p, hp => by
    obtain ⟨h1, h2, h3⟩ := h
    rcases List.mem_cons.mp hp with m | m
    · subst m; exact ⟨by show a ≤ f; omega, by show f < e; omega, h3.le⟩
    · have := h3.mem p m; omega
theorem longOf_add {ss : List Sec} {a b c : Int} (h0 : 0 ≤ a) (h1 : a ≤ b) (h2 : b ≤ c) : longOf ss a c = longOf ss a b + longOf ss b c := by
  unfold longOf
  have e : (c - a).toNat = (b - a).toNat + (c - b).toNat := by omega
  rw [e, List.take_add, List.map_append, List.sum_append, List.drop_drop]
  have : a.toNat + (b - a).toNat = b.toNat := by omega
  rw [this]
theorem longOf_nn {ss : List Sec} (hg : Good ss) (a b : Int) : 0 ≤ longOf ss a b := by
  unfold longOf
  have : ∀ l : List Sec, (∀ s ∈ l, 1 ≤ s.1 ∧ s.1 ≤ 1000000000000) → 0 ≤ (l.map (·.1)).sum := by
    intro l
    induction l with
    | nil => intro _; simp
    | cons x xs ih =>
      intro h
      have := ih fun s hs => h s (by simp [hs])
      have := h x (by simp)
      simp; omega
  exact this _ fun s hs => hg.long s (List.mem_of_mem_drop (List.mem_of_mem_take hs))
theorem longOf_self {ss : List Sec} (a : Int) : longOf ss a a = 0 := by simp [longOf]
theorem longOf_le {ss : List Sec} (hg : Good ss) {a b : Int} : longOf ss a b ≤ 60 * 1000000000000 := by
  unfold longOf
  have : ∀ l : List Sec, (∀ s ∈ l, 1 ≤ s.1 ∧ s.1 ≤ 1000000000000) → (l.map (·.1)).sum ≤ l.length * 1000000000000 := by
    intro l
    induction l with
    | nil => intro _; simp
    | cons x xs ih =>
      intro h
      have := ih fun s hs => h s (by simp [hs])
      have := h x (by simp)
      simp; omega
  have q := this ((ss.drop a.toNat).take (b - a).toNat) fun s hs => hg.long s (List.mem_of_mem_drop (List.mem_of_mem_take hs))
  have := hg.most
  refine Int.le_trans q ?_
  have : ((ss.drop a.toNat).take (b - a).toNat).length ≤ 60 := by rw [List.length_take, List.length_drop]; omega
  omega
theorem blocks_ne {ss : List Sec} (hg : Good ss) : blocks ss ≠ [] := fun e => by
  have := blkCh hg
  rw [e] at this
  have hp := hg.pos
  simp [BlkCh] at this
  omega
theorem tooLong_none {ss : List Sec} {m : Int} : tooLong ss m = none ↔ ∀ p ∈ blocks ss, longOf ss p.1 p.2 ≤ m := by
  unfold tooLong
  rw [Option.map_eq_none_iff, List.find?_eq_none]
  simp
theorem tooLong_none_sizes {ss : List Sec} {m : Int} : tooLong ss m = none ↔ ∀ y ∈ sizesOf ss, y ≤ m := by
  rw [tooLong_none]
  unfold sizesOf
  constructor
  · intro h y hy
    obtain ⟨p, hp, rfl⟩ := List.mem_map.mp hy
    exact h p hp
  · intro h p hp
    exact h _ (List.mem_map.mpr ⟨p, hp, rfl⟩)
def t_first_too_long (K : PySem.W.Frag) (E : XK) : TS :=
    (tSeq (tFor (iAny K (tMeth (He.ga K "Book") "blocks" (spD K (c_Book_blocks K)) [] E (tVar 0) tNil)) (gTup K 2 (gCons (gName 2) (gCons (gName 3) gNil))) (tIfS (tTest (tOp (rI0 fun i j => .bl (decide (j < i))) (tMeth (He.ga K "Book") "long" (spD K (c_Book_long K)) [] E (tVar 0) (tCons (tVar 2) (tCons (tVar 3) tNil))) (tVar 1))) (tRet (tVar 2)) tNext))
      (tRet (tC .non)))
def t_longest_block (K : PySem.W.Frag) (E : XK) : TS :=
    (tRet (tCB (rMaxA K) (tCons (tLc (iAny K (tMeth (He.ga K "Book") "blocks" (spD K (c_Book_blocks K)) [] E (tVar 0) tNil)) (gTup K 2 (gCons (gName 1) (gCons (gName 2) gNil))) tYes (tMeth (He.ga K "Book") "long" (spD K (c_Book_long K)) [] E0 (tVar 0) (tCons (tVar 1) (tCons (tVar 2) tNil))) [1, 2]) tNil)))
def t_fewest (K : PySem.W.Frag) (E : XK) : TS :=
    (tSeq (tIfS (tTest (tOp (rI0 fun i j => .bl (decide (i < j))) (tVar 1) (tC (.int 0)))) (tRaise0 (He.ga K "BadNumber") E) tNext)
      (tSeq (tAsg (tCall (spD K (c_first_too_long K)) [] E (tCons (tVar 0) (tCons (tVar 1) tNil))) (gName 2))
      (tSeq (tIfS (tB (tNotN (tVar 2))) (tRaiseO (He.ga K "TooTight") (spX (He.ga K "TooTight") ["block"]) (tCons (tVar 2) tNil) E) tNext)
      (tSeq (tAsg (tLst tNil) (gName 3))
      (tSeq (tAsg (tC (.int 0)) (gName 4))
      (tSeq (tAsg (tC (.int 0)) (gName 5))
      (tSeq (tFor (iAny K (tMeth (He.ga K "Book") "blocks" (spD K (c_Book_blocks K)) [] E (tVar 0) tNil)) (gTup K 2 (gCons (gName 6) (gCons (gName 7) gNil))) (tSeq (tIfS (tTest (tOp (rI0 fun i j => .bl (decide (j < i))) (tMeth (He.ga K "Book") "long" (spD K (c_Book_long K)) [] E (tVar 0) (tCons (tVar 4) (tCons (tVar 7) tNil))) (tVar 1))) (tSeq (tDrop (tBM K "list" rAppend (tVar 3) (tCons (tTup (tCons (tVar 4) (tCons (tVar 5) tNil))) tNil)))
      (tAsg (tVar 6) (gName 4))) tNext)
      (tAsg (tVar 7) (gName 5))))
      (tSeq (tDrop (tBM K "list" rAppend (tVar 3) (tCons (tTup (tCons (tVar 4) (tCons (tVar 5) tNil))) tNil)))
      (tRet (tVar 3))))))))))
def t_least_limit (K : PySem.W.Frag) (E : XK) : TS :=
    (tSeq (tIfS (tTest (tOp (rI0 fun i j => .bl (decide (i < j))) (tVar 1) (tC (.int 1)))) (tRaise0 (He.ga K "BadNumber") E) tNext)
      (tSeq (tAsg (tCall (spD K (c_longest_block K)) [] E (tCons (tVar 0) tNil)) (gName 2))
      (tSeq (tAsg (tMeth (He.ga K "Book") "long" (spD K (c_Book_long K)) [] E (tVar 0) (tCons (tC (.int 0)) (tCons (tMeth (He.ga K "Book") "many" (spD K (c_Book_many K)) [] E (tVar 0) tNil) tNil))) (gName 3))
      (tSeq (tWhile (tTest (tOp (rI0 fun i j => .bl (decide (i < j))) (tVar 2) (tVar 3))) (tSeq (tAsg (tOp rFdivA (tOp (rAddA K) (tVar 2) (tVar 3)) (tC (.int 2))) (gName 4))
      (tIfS (tTest (tOp (rI0 fun i j => .bl (decide (i ≤ j))) (tCB (rLen K) (tCons (tCall (spD K (c_fewest K)) [] E (tCons (tVar 0) (tCons (tVar 4) tNil))) tNil)) (tVar 1))) (tAsg (tVar 4) (gName 3)) (tAsg (tOp (rAddA K) (tVar 4) (tC (.int 1))) (gName 2)))))
      (tRet (tVar 2))))))
def t_law_word (K : PySem.W.Frag) (E : XK) : TS :=
    (tSeq (tAsg (tLst (tCons (tCB (rIsX K) (tCons (tVar 0) (tCons (tC (.ref (He.ga K "BadBook"))) tNil))) (tCons (tCB (rIsX K) (tCons (tVar 0) (tCons (tC (.ref (He.ga K "BadCalendar"))) tNil))) (tCons (tCB (rIsX K) (tCons (tVar 0) (tCons (tC (.ref (He.ga K "BadFeast"))) tNil))) (tCons (tCB (rIsX K) (tCons (tVar 0) (tCons (tC (.ref (He.ga K "BadRow"))) tNil))) tNil))))) (gName 1))
      (tSeq (tAsg (tOp (rAddA K) (tVar 1) (tLst (tCons (tCB (rIsX K) (tCons (tVar 0) (tCons (tC (.ref (He.ga K "BadHouse"))) tNil))) (tCons (tCB (rIsX K) (tCons (tVar 0) (tCons (tC (.ref (He.ga K "BadNumber"))) tNil))) (tCons (tCB (rIsX K) (tCons (tVar 0) (tCons (tC (.ref (He.ga K "NoDay"))) tNil))) (tCons (tCB (rIsX K) (tCons (tVar 0) (tCons (tC (.ref (He.ga K "NoRow"))) tNil))) tNil)))))) (gName 1))
      (tSeq (tAsg (tOp (rAddA K) (tVar 1) (tLst (tCons (tCB (rIsX K) (tCons (tVar 0) (tCons (tC (.ref (He.ga K "NoPiece"))) tNil))) (tCons (tCB (rIsX K) (tCons (tVar 0) (tCons (tC (.ref (He.ga K "TooTight"))) tNil))) (tCons (tCB (rIsX K) (tCons (tVar 0) (tCons (tC (.ref (He.ga K "NeverDone"))) tNil))) tNil))))) (gName 1))
      (tSeq (tAsg (tOp (rAddA K) (tVar 1) (tLst (tCons (tCB (rIsX K) (tCons (tVar 0) (tCons (tC (.ref (He.ga K "TooFar"))) tNil))) (tCons (tCB (rIsX K) (tCons (tVar 0) (tCons (tC (.ref (He.ga K "NoDeed"))) tNil))) (tCons (tCB (rIsX K) (tCons (tVar 0) (tCons (tC (.ref (He.ga K "BadText"))) tNil))) tNil))))) (gName 1))
      (tSeq (tAsg (tLst (tCons (tC (.str "BadBook")) (tCons (tC (.str "BadCalendar")) (tCons (tC (.str "BadFeast")) (tCons (tC (.str "BadRow")) (tCons (tC (.str "BadHouse")) (tCons (tC (.str "BadNumber")) (tCons (tC (.str "NoDay")) (tCons (tC (.str "NoRow")) (tCons (tC (.str "NoPiece")) tNil)))))))))) (gName 2))
      (tSeq (tAsg (tOp (rAddA K) (tVar 2) (tLst (tCons (tC (.str "TooTight")) (tCons (tC (.str "NeverDone")) (tCons (tC (.str "TooFar")) (tCons (tC (.str "NoDeed")) (tCons (tC (.str "BadText")) tNil))))))) (gName 2))
      (tSeq (tAsg (tLc (iZip K (tCons (tVar 2) (tCons (tVar 1) tNil))) (gTup K 2 (gCons (gName 4) (gCons (gName 5) gNil))) (tTruth K (tVar 5)) (tVar 4) [4, 5]) (gName 3))
      (tRet (tIf (tAnd (tTest (tOp (rEqD K) (tCB (rLen K) (tCons (tVar 3) tNil)) (tC (.int 1)))) (tTruth K (tCB (rIsX K) (tCons (tVar 0) (tCons (tC (.ty "ValueError")) tNil))))) (tOp (rIx K) (tVar 3) (tC (.int 0))) (tC (.str "other")))))))))))
def t_law_blocks (K : PySem.W.Frag) (E : XK) : TS :=
    (tSeq (tAsg (tLst tNil) (gName 1))
      (tSeq (tAsg (tC (.int 0)) (gName 2))
      (tSeq (tFor (iEnum K (tCons (tVar 0) tNil)) (gTup K 2 (gCons (gName 3) (gCons (gName 4) gNil))) (tIfS (tNot (tTruth K (tOp (rIx K) (tVar 4) (tC (.int 1))))) (tSeq (tDrop (tBM K "list" rAppend (tVar 1) (tCons (tTup (tCons (tVar 2) (tCons (tOp (rAddA K) (tVar 3) (tC (.int 1))) tNil))) tNil)))
      (tAsg (tOp (rAddA K) (tVar 3) (tC (.int 1))) (gName 2))) tNext))
      (tRet (tVar 1)))))
def t_law_long (K : PySem.W.Frag) (E : XK) : TS :=
    (tRet (tCB (rSum K) (tCons (tLc (iAny K (tSl (rSlA K) (tVar 0) (tPart (tVar 1)) (tPart (tVar 2)))) (gName 3) tYes (tOp (rIx K) (tVar 3) (tC (.int 0))) [3]) tNil)))
local macro_rules | `(tactic| wtm_at "f3") => `(tactic| with_reducible (first
  | refine de_fldZ ?_
  | refine de_methZ (by assumption) ?_))
local macro_rules | `(tactic| wtm_at "p3") => `(tactic| first
  | refine fp_obj (by assumption) (by assumption) (by rfl) ?_
  | refine fp_own (by assumption) (by assumption) (by assumption) (by rfl) ?_
  | refine mp_obj (by rfl) ?_
  | refine mp_own (by assumption) (by rfl) ?_)
local macro_rules | `(tactic| wtm_at "s3") => `(tactic| with_reducible (first | refine q_fldZ ?_ | refine ds_fldZ ?_))
local macro_rules | `(tactic| wtm_at "A") => `(tactic| repeat' first | wtm_at "v" | wtm_at "dE" | wtm_at "dO" | wtm_at "dT" | wtm_at "sP" | wtm_at "s3" | wtm_at "dS" | wtm_at "d2" | wtm_at "f3" | wtm_at "i" | wtm_at "l" | wtm_at "x" | wtm_at "o2" | wtm_at "h" | wtm_at "h2" | wtm_at "sz" | wtm_at "p3" | wtm_at "b" | fail)
local macro_rules | `(tactic| wtm_at "E") => `(tactic| repeat' first | wtm_at "v" | wtm_at "dE" | wtm_at "dO" | wtm_at "dT" | wtm_at "d2" | wtm_at "f3" | wtm_at "i" | wtm_at "l" | wtm_at "x" | wtm_at "o2" | wtm_at "h" | wtm_at "h2" | wtm_at "sz" | wtm_at "p3" | wtm_at "b" | fail)
local macro_rules | `(tactic| wtm_at "f4") => `(tactic| with_reducible (first | refine de_isNZ ?_ | refine de_notNZ ?_ | refine np_t ?_))
local macro_rules | `(tactic| wtm_at "g4") => `(tactic| first | refine np_int ?_ | refine np_lst ?_ | refine np_tup ?_ | refine np_obj ?_ | refine np_own ?_ | refine np_str ?_ | refine np_bl ?_)
local macro_rules | `(tactic| wtm_at "A") => `(tactic| repeat' first | wtm_at "v" | wtm_at "f4" | wtm_at "dE" | wtm_at "dO" | wtm_at "dT" | wtm_at "sP" | wtm_at "s3" | wtm_at "dS" | wtm_at "d2" | wtm_at "f3" | wtm_at "i" | wtm_at "l" | wtm_at "x" | wtm_at "o2" | wtm_at "h" | wtm_at "h2" | wtm_at "sz" | wtm_at "p3" | wtm_at "g4" | wtm_at "b" | fail)
local macro_rules | `(tactic| wtm_at "E") => `(tactic| repeat' first | wtm_at "v" | wtm_at "f4" | wtm_at "dE" | wtm_at "dO" | wtm_at "dT" | wtm_at "d2" | wtm_at "f3" | wtm_at "i" | wtm_at "l" | wtm_at "x" | wtm_at "o2" | wtm_at "h" | wtm_at "h2" | wtm_at "sz" | wtm_at "p3" | wtm_at "g4" | wtm_at "b" | fail)
local macro_rules | `(tactic| wtm_at "s5") => `(tactic| with_reducible (first | refine q_par3 ?_ | refine ds_par3 ?_ | refine three_i ?_ | refine di_range2W ?_))
local macro_rules | `(tactic| wtm_at "o5") => `(tactic| first | refine ro_eqNI ?_ | fail)
local macro_rules | `(tactic| wtm_at "A") => `(tactic| repeat' first | wtm_at "v" | wtm_at "f4" | wtm_at "dE" | wtm_at "dO" | wtm_at "dT" | wtm_at "s5" | wtm_at "sP" | wtm_at "s3" | wtm_at "dS" | wtm_at "d2" | wtm_at "f3" | wtm_at "i" | wtm_at "l" | wtm_at "x" | wtm_at "o2" | wtm_at "o5" | wtm_at "h" | wtm_at "h2" | wtm_at "sz" | wtm_at "p3" | wtm_at "g4" | wtm_at "b" | fail)
local macro_rules | `(tactic| wtm_at "E") => `(tactic| repeat' first | wtm_at "v" | wtm_at "f4" | wtm_at "dE" | wtm_at "dO" | wtm_at "dT" | wtm_at "d2" | wtm_at "f3" | wtm_at "i" | wtm_at "l" | wtm_at "x" | wtm_at "o2" | wtm_at "o5" | wtm_at "h" | wtm_at "h2" | wtm_at "sz" | wtm_at "p3" | wtm_at "g4" | wtm_at "b" | fail)
local macro_rules | `(tactic| wtm_at "d6") => `(tactic| with_reducible (first | refine de_dget ?_ | refine de_din ?_ | refine de_dnin ?_ | refine rc_abs ?_))
local macro_rules | `(tactic| wtm_at "g6") => `(tactic| first | refine dgp_s (.own (by assumption)) (by rfl) ?_ | refine dgp_s (.dct _) (by rfl) ?_)
local macro_rules | `(tactic| wtm_at "A") => `(tactic| repeat' first | wtm_at "v" | wtm_at "f4" | wtm_at "dE" | wtm_at "d6" | wtm_at "dO" | wtm_at "dT" | wtm_at "s5" | wtm_at "sP" | wtm_at "s3" | wtm_at "dS" | wtm_at "d2" | wtm_at "f3" | wtm_at "i" | wtm_at "l" | wtm_at "x" | wtm_at "o2" | wtm_at "o5" | wtm_at "h" | wtm_at "h2" | wtm_at "sz" | wtm_at "g6" | wtm_at "p3" | wtm_at "g4" | wtm_at "b" | fail)
local macro_rules | `(tactic| wtm_at "E") => `(tactic| repeat' first | wtm_at "v" | wtm_at "f4" | wtm_at "dE" | wtm_at "d6" | wtm_at "dO" | wtm_at "dT" | wtm_at "d2" | wtm_at "f3" | wtm_at "i" | wtm_at "l" | wtm_at "x" | wtm_at "o2" | wtm_at "o5" | wtm_at "h" | wtm_at "h2" | wtm_at "sz" | wtm_at "g6" | wtm_at "p3" | wtm_at "g4" | wtm_at "b" | fail)
section
variable {K : PySem.W.Frag}
theorem d_law_long : ∀ ds μ P PX, c_law_long K ds μ P PX → MuCl μ μ.length → clL ds μ.length = true → ∀ B E, XAg K B (RetX μ.length PX) E → DS K B (t_law_long K E) (startD ["_law_sections_here", "_law_first", "_law_end", "_law_one"] ds) μ (fnE μ.length P) := by
  intro ds μ P PX h hm hc B E hE
  obtain ⟨ss, f, e, rfl, hl, h0, h1, h2, h⟩ := h
  show DS K B _ [some (secsD ss), some (.int f), some (.int e), none] μ _
  unfold t_law_long
  wtm_at "A"
  refine lc_map secN (gw_name (by simp)) ?_
  wtm_at "A"
  have hcut : cutD (ss.map secD) (some f) (some e) = ((ss.drop f.toNat).take (e - f).toNat).map secD := by
    rw [cut_nat (by omega) (by omega) (by rw [List.length_map]; omega), List.map_take, List.map_drop]
  rw [hcut]
  refine ⟨_, _, .lst _, trivial, by simp; omega, fun j d hj => ?_, fun out ho => ?_⟩
  · obtain ⟨s, _, rfl⟩ := secs_get hj
    wtm_at "A"
    refine ⟨rfl, ?_⟩
    unfold secD
    wtm_at "A"
    exact ⟨rfl, rfl⟩
  wtm_at "A"
  refine rc_sum (ns := ((ss.drop f.toNat).take (e - f).toNat).map (·.1)) ?_ ?_
  · rw [← ho, List.map_map, List.map_map]
    exact .lst _
  wtm_at "r"
  exact h
theorem find_drop {α : Type} {p : α → Bool} {xs : List α} {i : Nat} {x : α} (h : xs[i]? = some x) : (xs.drop i).find? p = if p x then some x else (xs.drop (i + 1)).find? p := by
  rw [drop_cons' h, List.find?_cons]
  cases p x <;> simp
theorem d_first_too_long : ∀ ds μ P PX, c_first_too_long K ds μ P PX → MuCl μ μ.length → clL ds μ.length = true → ∀ B E, XAg K B (RetX μ.length PX) E → DS K B (t_first_too_long K E) (startD ["book", "limit", "first", "end"] ds) μ (fnE μ.length P) := by
  intro ds μ P PX h hm hc B E hE
  obtain ⟨ss, limit, rfl, hg, h⟩ := h
  show DS K B _ [some (bookD K ss), some (.int limit), none, none] μ _
  unfold t_first_too_long
  have hmost := hg.most
  have hch := blkCh hg
  refine q_for ?_
  wtm_at "A"
  refine ⟨ss, rfl, hmost, .inl ?_⟩
  refine ⟨_, _, .lst _, fun i ρ μ' => ∃ y2 y3, ρ = [some (bookD K ss), some (.int limit), y2, y3] ∧ μ = μ' ∧ (((blocks ss).drop i).find? fun p => decide (limit < longOf ss p.1 p.2)).map (·.1) = tooLong ss limit,
    ⟨none, none, rfl, rfl, rfl⟩, fun _ _ _ _ _ => trivial, ?_, ?_⟩
  · rintro i d ρ μ' hd ⟨y2, y3, rfl, rfl, he⟩
    obtain ⟨⟨f, e⟩, hp, rfl⟩ := pairs_get hd
    have hb := hch.mem _ (List.mem_of_getElem? hp)
    have hb1 : 0 ≤ f ∧ f < e ∧ e ≤ ss.length := hb
    rw [find_drop hp] at he
    unfold pairD
    wtm_at "A"
    refine ⟨ss, f, e, rfl, hmost, fun _ => ?_, fun hn => absurd (by omega) hn⟩
    wtm_at "A"
    · rename_i hlt
      rw [if_pos (by simpa using hlt)] at he
      wtm_at "r"
      rw [← he] at h
      exact h
    · rename_i hlt
      rw [if_neg (by simpa using hlt)] at he
      exact ⟨_, _, rfl, rfl, he⟩
  · rintro ρ μ' ⟨y2, y3, rfl, rfl, he⟩
    rw [List.length_map, List.drop_length] at he
    wtm_at "A"
    wtm_at "r"
    rw [← he] at h
    exact h
theorem fewFrom_len (ss : List Sec) (limit : Int) : ∀ (bs : List (Int × Int)) (a b : Int), (fewFrom ss limit a b bs).length ≤ bs.length + 1
  | [], a, b => by simp [fewFrom]
  | (f, e) :: r, a, b => by
    unfold fewFrom
    split
    · have := fewFrom_len ss limit r f e; simp; omega
    · have := fewFrom_len ss limit r a e; simp; omega
theorem d_fewest : ∀ ds μ P PX, c_fewest K ds μ P PX → MuCl μ μ.length → clL ds μ.length = true → ∀ B E, XAg K B (RetX μ.length PX) E → DS K B (t_fewest K E) (startD ["book", "limit", "tight", "pieces", "at", "behind", "first", "end"] ds) μ (fnE μ.length P) := by
  intro ds μ P PX h hm hc B E hE
  obtain ⟨ss, limit, rfl, hg, hx1, hx2, h⟩ := h
  show DS K B _ [some (bookD K ss), some (.int limit), none, none, none, none, none, none] μ _
  unfold t_fewest
  have hmost := hg.most
  have hch := blkCh hg
  have hbl : (blocks ss).length ≤ ss.length := blocksFrom_len ss 0 0
  wtm_at "A"
  · exact ds_raise0 hE (retx_same0 hm rfl (hx1 ‹_›))
  rename_i hl0
  refine ⟨ss, limit, rfl, hg, ?_⟩
  cases ht : tooLong ss limit with
  | some f =>
    unfold optI
    wtm_at "A"
    refine ds_raiseO hE ?_
    wtm_at "A"
    exact ⟨rfl, by decide, retx_same0 hm (by simp [fsOf, clF, D.cl]) (hx2 (by omega) f ht)⟩
  | none =>
    unfold optI
    wtm_at "A"
    refine de_lstOZ ?_
    wtm_at "A"
    refine q_for ?_
    wtm_at "A"
    refine ⟨ss, rfl, hmost, .inl ?_⟩
    refine ⟨_, _, .lst _, fun i ρ μ' => ∃ (a b : Int) (fnd : List (Int × Int)) (y6 y7 : Option D), ρ = [some (bookD K ss), some (.int limit), some .non, some (.own μ.length), some (.int a), some (.int b), y6, y7] ∧ μ' = μ ++ [.lst (fnd.map pairD)] ∧
        fnd ++ fewFrom ss limit a b ((blocks ss).drop i) = fewestOf ss limit ∧ fnd.length ≤ i ∧ 0 ≤ a ∧ a ≤ b ∧ BlkCh ss.length b ((blocks ss).drop i),
      ⟨0, 0, [], none, none, rfl, rfl, rfl, by simp, by omega, by omega, hch⟩, fun _ _ _ _ _ => trivial, ?_, ?_⟩
    · rintro i d ρ μ' hd ⟨a, b, fnd, y6, y7, rfl, rfl, he, hfl, ha0, hab, hb⟩
      obtain ⟨⟨f, e⟩, hp, rfl⟩ := pairs_get hd
      have hi : i < (blocks ss).length := (List.getElem?_eq_some_iff.mp hp).1
      rw [drop_cons' hp] at he hb
      obtain ⟨h1, h2, h3⟩ := hb
      have h4 := h3.le
      unfold fewFrom at he
      unfold pairD
      wtm_at "A"
      refine ⟨ss, a, e, rfl, hmost, fun _ => ?_, fun hn => absurd (by omega) hn⟩
      wtm_at "A"
      · rename_i hlt
        rw [if_pos hlt] at he
        wtm_at "m"
        wtm_at "A"
        refine rm_app mu_last (by simp; omega) ?_
        rw [set_last]
        wtm_at "A"
        refine ⟨f, e, fnd ++ [(a, b)], _, _, rfl, by simp [pairD], by simpa using he, by simp; omega, by omega, by omega, h3⟩
      · rename_i hlt
        rw [if_neg (by omega)] at he
        exact ⟨a, e, fnd, _, _, rfl, rfl, he, by omega, by omega, by omega, h3⟩
    · rintro ρ μ' ⟨a, b, fnd, y6, y7, rfl, rfl, he, hfl, ha0, hab, hb⟩
      rw [List.length_map, List.drop_length] at he
      rw [List.length_map] at hfl
      unfold fewFrom at he
      wtm_at "A"
      wtm_at "m"
      wtm_at "A"
      refine rm_app mu_last (by simp; omega) ?_
      rw [set_last, show fnd.map pairD ++ [.tup [.int a, .int b]] = (fewestOf ss limit).map pairD by rw [← he]; simp [pairD]]
      rcases h (by omega) ht with h | h
      · refine ds_ret (de_frz ?_)
        wtm_at "v"
        refine ⟨_, _, rfl, mu_last, ?_⟩
        rw [set_last]
        exact ret_same (Nat.le_refl _) hm (by simp [D.cl, clL_pairs]) h
      · wtm_at "A"
        exact ret_same0 (by simp) (hm.app (by simp [MO.cl, clL_pairs])) (by simp [D.cl]) h
end
/-! ### the greedy way, plainly: marks 0..k, L i j how long it is from mark i to mark j -/
def grS (L : Nat → Nat → Int) (m : Int) : Nat → Nat × Nat
  | 0 => (0, 0)
  | j + 1 => if j = 0 ∨ m < L (grS L m j).1 (j + 1) then (j, (grS L m j).2 + 1) else grS L m j
def grC (L : Nat → Nat → Int) (m : Int) (j : Nat) : Nat := (grS L m j).2
structure GrL (L : Nat → Nat → Int) (k : Nat) : Prop where
  mono : ∀ i i' j j', i ≤ i' → i' ≤ j → j ≤ j' → j' ≤ k → L i' j ≤ L i j'
section
variable {L : Nat → Nat → Int} {m : Int} {k : Nat}
theorem grS_inv (h : GrL L k) (hb : ∀ j, j < k → L j (j + 1) ≤ m) : ∀ j, 1 ≤ j → j ≤ k → (grS L m j).1 < j ∧ L (grS L m j).1 j ≤ m ∧ grC L m j = grC L m (grS L m j).1 + 1 ∧ (∀ i, (grS L m j).1 < i → i ≤ j → grC L m i = grC L m j) ∧ ∀ i, i < j → L i j ≤ m → grC L m j ≤ grC L m i + 1
  | 0, h1, _ => by omega
  | j + 1, _, hk => by
    by_cases hj : j = 0
    · subst hj
      have e : grS L m 1 = (0, 1) := by simp [grS]
      have e0 : grC L m 0 = 0 := rfl
      have e1 : grC L m 1 = 1 := by unfold grC; rw [e]
      rw [e]
      refine ⟨by simp, hb 0 (by omega), by simp [e0, e1], fun i h1 h2 => ?_, fun i h1 h2 => ?_⟩
      · have : i = 1 := by simp at h1; omega
        rw [this]
      · have : i = 0 := by omega
        rw [this, e0, e1]
        omega
    · obtain ⟨a1, a2, a3, a4, a5⟩ := grS_inv h hb j (by omega) (by omega)
      by_cases hlt : m < L (grS L m j).1 (j + 1)
      · have e : grS L m (j + 1) = (j, (grS L m j).2 + 1) := by
          rw [grS, if_pos (.inr hlt)]
        have ec : grC L m (j + 1) = grC L m j + 1 := by unfold grC; rw [e]
        rw [e]
        refine ⟨by simp, hb j (by omega), ec, fun i h1 h2 => ?_, fun i h1 h2 => ?_⟩
        · have : i = j + 1 := by simp at h1; omega
          rw [this]
        · have hi : (grS L m j).1 < i := by
            refine Nat.lt_of_not_le fun hle => ?_
            have := h.mono i (grS L m j).1 (j + 1) (j + 1) hle (by omega) (by omega) hk
            omega
          have := a4 i hi (by omega)
          omega
      · have e : grS L m (j + 1) = grS L m j := by
          rw [grS, if_neg (by omega)]
        have ec : grC L m (j + 1) = grC L m j := by unfold grC; rw [e]
        rw [e, ec]
        refine ⟨by omega, by omega, a3, fun i h1 h2 => ?_, fun i h1 h2 => ?_⟩
        · by_cases hi : i = j + 1
          · rw [hi, ec]
          · exact a4 i h1 (by omega)
        · by_cases hi : i = j
          · subst hi; omega
          · refine a5 i (by omega) ?_
            have := h.mono i i j (j + 1) (by omega) (by omega) (by omega) hk
            omega
/-- no way to the mark j is better -/
theorem gr_min (h : GrL L k) (hb : ∀ j, j < k → L j (j + 1) ≤ m) {i j : Nat} (hj : j ≤ k) (hi : i < j) (hl : L i j ≤ m) : grC L m j ≤ grC L m i + 1 := (grS_inv h hb j (by omega) hj).2.2.2.2 i hi hl
theorem gr_ex (h : GrL L k) (hb : ∀ j, j < k → L j (j + 1) ≤ m) {j : Nat} (hj : j ≤ k) (h1 : 1 ≤ j) : ∃ i, i < j ∧ L i j ≤ m ∧ grC L m j = grC L m i + 1 :=
  have q := grS_inv h hb j h1 hj
  ⟨_, q.1, q.2.1, q.2.2.1⟩
/-- a greater limit needs no more pieces -/
theorem gr_anti (h : GrL L k) {m' : Int} (hm : m ≤ m') (hb : ∀ j, j < k → L j (j + 1) ≤ m) : ∀ j, j ≤ k → grC L m' j ≤ grC L m j := by
  intro j
  induction j using Nat.strongRecOn with
  | _ j ih =>
    intro hj
    by_cases h1 : 1 ≤ j
    · obtain ⟨i, hi, hl, e⟩ := gr_ex h hb hj h1
      have q := ih i hi (by omega)
      have := gr_min (m := m') h (fun j hj => Int.le_trans (hb j hj) hm) hj hi (Int.le_trans hl hm)
      omega
    · have : j = 0 := by omega
      subst this
      simp [grC, grS]
end
/-! the marks of a book -/
def marksOf (ss : List Sec) : List Int := 0 :: endsOf ss
def markAt (ss : List Sec) (i : Nat) : Int := (marksOf ss).getD i 0
def LB (ss : List Sec) (i j : Nat) : Int := longOf ss (markAt ss i) (markAt ss j)
theorem BlkCh.marks {n : Int} : ∀ {bs : List (Int × Int)} {a : Int}, BlkCh n a bs → ∀ i p, bs[i]? = some p → p.1 = (a :: bs.map (·.2)).getD i 0 ∧ p.2 = (a :: bs.map (·.2)).getD (i + 1) 0
  | [], _, _, i, p, h => by simp at h
  | (f, e) :: r, a, ⟨h1, h2, h3⟩, 0, p, h => by
    simp at h; subst h
    simp [h1]
  | (f, e) :: r, a, ⟨h1, h2, h3⟩, i + 1, p, h => by
    simp at h
    have := h3.marks i p h
    simpa using this
theorem BlkCh.mono {n : Int} : ∀ {bs : List (Int × Int)} {a : Int}, BlkCh n a bs → ∀ i j, i ≤ j → j ≤ bs.length → a ≤ (a :: bs.map (·.2)).getD i 0 ∧ (a :: bs.map (·.2)).getD i 0 ≤ (a :: bs.map (·.2)).getD j 0 ∧ (a :: bs.map (·.2)).getD j 0 ≤ n
  | [], a, h, i, j, h1, h2 => by
    have : i = 0 ∧ j = 0 := by simp at h2; omega
    obtain ⟨rfl, rfl⟩ := this
    have : a = n := h
    simp; omega
  | (f, e) :: r, a, ⟨h1, h2, h3⟩, i, j, hi, hj => by
    have q0 := h3.le
    cases j with
    | zero =>
      have : i = 0 := by omega
      subst this
      simp; omega
    | succ j =>
      simp at hj
      cases i with
      | zero =>
        have := h3.mono 0 j (by omega) hj
        simp at this ⊢
        omega
      | succ i =>
        have := h3.mono i j (by omega) hj
        simp at this ⊢
        omega
theorem marks_block {ss : List Sec} (hg : Good ss) {i : Nat} {p : Int × Int} (h : (blocks ss)[i]? = some p) : p.1 = markAt ss i ∧ p.2 = markAt ss (i + 1) := (blkCh hg).marks i p h
theorem marks_mono {ss : List Sec} (hg : Good ss) {i j : Nat} (h : i ≤ j) (hj : j ≤ (blocks ss).length) : 0 ≤ markAt ss i ∧ markAt ss i ≤ markAt ss j ∧ markAt ss j ≤ ss.length := (blkCh hg).mono i j h hj
theorem grL_book {ss : List Sec} (hg : Good ss) : GrL (LB ss) (blocks ss).length := ⟨fun i i' j j' h1 h2 h3 h4 => by
  have a := marks_mono hg h1 (by omega)
  have b := marks_mono hg h2 (by omega)
  have c := marks_mono hg h3 (by omega)
  unfold LB
  rw [longOf_add (a := markAt ss i) (b := markAt ss i') (c := markAt ss j') (by omega) (by omega) (by omega), longOf_add (a := markAt ss i') (b := markAt ss j) (c := markAt ss j') (by omega) (by omega) (by omega)]
  have := longOf_nn hg (markAt ss i) (markAt ss i')
  have := longOf_nn hg (markAt ss j) (markAt ss j')
  omega⟩
theorem fits_book {ss : List Sec} (hg : Good ss) {m : Int} (ht : tooLong ss m = none) : ∀ j, j < (blocks ss).length → LB ss j (j + 1) ≤ m := fun j hj => by
  have e := List.getElem?_eq_getElem hj
  have q := marks_block hg e
  unfold LB
  rw [← q.1, ← q.2]
  exact tooLong_none.mp ht _ (List.mem_of_getElem? e)
theorem few_gr {ss : List Sec} (hg : Good ss) {m : Int} (ht : tooLong ss m = none) : ∀ n j, (blocks ss).length = j + n → 1 ≤ j → (fewFrom ss m (markAt ss (grS (LB ss) m j).1) (markAt ss j) ((blocks ss).drop j)).length + grC (LB ss) m j = grC (LB ss) m (blocks ss).length + 1
  | 0, j, hn, h1 => by
    rw [List.drop_of_length_le (by omega), show (blocks ss).length = j by omega]
    simp [fewFrom]
    omega
  | n + 1, j, hn, h1 => by
    have hj : j < (blocks ss).length := by omega
    have e := List.getElem?_eq_getElem hj
    obtain ⟨q1, q2⟩ := marks_block hg e
    have ih := few_gr hg ht n (j + 1) (by omega) (by omega)
    rw [drop_cons' e]
    obtain ⟨f, g, hp⟩ : ∃ f g, (blocks ss)[j] = (f, g) := ⟨_, _, rfl⟩
    rw [hp] at q1 q2 ⊢
    simp only at q1 q2
    subst q1 q2
    unfold fewFrom
    have hs : grS (LB ss) m (j + 1) = if j = 0 ∨ m < LB ss (grS (LB ss) m j).1 (j + 1) then (j, (grS (LB ss) m j).2 + 1) else grS (LB ss) m j := by rw [grS]
    by_cases hlt : m < longOf ss (markAt ss (grS (LB ss) m j).1) (markAt ss (j + 1))
    · rw [if_pos hlt]
      have e2 : grS (LB ss) m (j + 1) = (j, (grS (LB ss) m j).2 + 1) := by rw [hs, if_pos (.inr hlt)]
      have ec : grC (LB ss) m (j + 1) = grC (LB ss) m j + 1 := by unfold grC; rw [e2]
      rw [e2] at ih
      dsimp only at ih
      simp only [List.length_cons]
      omega
    · rw [if_neg hlt]
      have e2 : grS (LB ss) m (j + 1) = grS (LB ss) m j := by rw [hs, if_neg]; intro z; rcases z with z | z; omega; exact hlt z
      have ec : grC (LB ss) m (j + 1) = grC (LB ss) m j := by unfold grC; rw [e2]
      rw [e2] at ih
      omega
theorem few_len {ss : List Sec} (hg : Good ss) {m : Int} (ht : tooLong ss m = none) : (fewestOf ss m).length = grC (LB ss) m (blocks ss).length := by
  have hne := blocks_ne hg
  have hp : 0 < (blocks ss).length := List.length_pos_iff.mpr hne
  have q := few_gr hg ht ((blocks ss).length - 1) 1 (by omega) (by omega)
  have e := List.getElem?_eq_getElem hp
  obtain ⟨q1, q2⟩ := marks_block hg e
  have hf := fits_book hg ht 0 hp
  unfold fewestOf
  have hd := drop_cons' e
  rw [List.drop_zero] at hd
  rw [show fewFrom ss m 0 0 (blocks ss) = fewFrom ss m 0 0 ((blocks ss)[0] :: List.drop (0 + 1) (blocks ss)) from congrArg (fewFrom ss m 0 0) hd]
  obtain ⟨f, g, hpp⟩ : ∃ f g, (blocks ss)[0] = (f, g) := ⟨_, _, rfl⟩
  rw [hpp] at q1 q2 ⊢
  simp only at q1 q2
  subst q1 q2
  unfold fewFrom
  have m0 : markAt ss 0 = 0 := rfl
  unfold LB at hf
  rw [m0] at hf
  rw [if_neg (by simpa using hf)]
  have e1 : grS (LB ss) m 1 = (0, 1) := by simp [grS]
  have e2 : grC (LB ss) m 1 = 1 := by unfold grC; rw [e1]
  rw [e1, e2] at q
  simp only [m0] at q
  simp only [Nat.zero_add] at q ⊢
  omega
/-- by a greater limit there are no more pieces -/
theorem few_anti {ss : List Sec} (hg : Good ss) {m m' : Int} (hm : m ≤ m') (ht : tooLong ss m = none) : tooLong ss m' = none ∧ (fewestOf ss m').length ≤ (fewestOf ss m).length := by
  have ht' : tooLong ss m' = none := tooLong_none.mpr fun p hp => Int.le_trans (tooLong_none.mp ht p hp) hm
  refine ⟨ht', ?_⟩
  rw [few_len hg ht, few_len hg ht']
  exact gr_anti (grL_book hg) hm (fits_book hg ht) _ (Nat.le_refl _)
theorem tooLong_total {ss : List Sec} (hg : Good ss) : tooLong ss (longOf ss 0 ss.length) = none := tooLong_none.mpr fun p hp => by
  have := (blkCh hg).mem p hp
  rw [longOf_add (a := 0) (b := p.1) (c := ss.length) (by omega) (by omega) (by omega), longOf_add (a := p.1) (b := p.2) (c := ss.length) (by omega) (by omega) (by omega)]
  have := longOf_nn hg 0 p.1
  have := longOf_nn hg p.2 ss.length
  omega
theorem few_total {ss : List Sec} (hg : Good ss) {m : Int} (hm : longOf ss 0 ss.length ≤ m) : fewestOf ss m = [(0, (ss.length : Int))] := by
  have key : ∀ (bs : List (Int × Int)) (b : Int), BlkCh ss.length b bs → 0 ≤ b → fewFrom ss m 0 b bs = [(0, (ss.length : Int))] := by
    intro bs
    induction bs with
    | nil => intro b h _; have : b = ss.length := h; subst this; simp [fewFrom]
    | cons p r ih =>
      intro b h hb
      obtain ⟨f, e⟩ := p
      obtain ⟨h1, h2, h3⟩ := h
      unfold fewFrom
      have h4 := h3.le
      have := longOf_add (ss := ss) (a := 0) (b := e) (c := ss.length) (by omega) (by omega) (by omega)
      have := longOf_nn hg e ss.length
      rw [if_neg (by omega)]
      exact ih e h3 (by omega)
  exact key _ 0 (blkCh hg) (by omega)
theorem shp_pairs (ps : List (Int × Int)) : shpL (ps.map pairD) 1 = true := shpL_map fun x _ => by simp [pairD, D.shp, shpL]
section
variable {K : PySem.W.Frag}
theorem d_longest_block : ∀ ds μ P PX, c_longest_block K ds μ P PX → MuCl μ μ.length → clL ds μ.length = true → ∀ B E, XAg K B (RetX μ.length PX) E → DS K B (t_longest_block K E) (startD ["book", "first", "end"] ds) μ (fnE μ.length P) := by
  intro ds μ P PX h hm hc B E hE
  obtain ⟨ss, rfl, hg, h⟩ := h
  show DS K B _ [some (bookD K ss), none, none] μ _
  unfold t_longest_block
  have hmost := hg.most
  have hch := blkCh hg
  have hbl : (blocks ss).length ≤ ss.length := blocksFrom_len ss 0 0
  wtm_at "A"
  refine lc_map (fun d => match d with | .tup [.int f, .int e] => .int (longOf ss f e) | _ => .non) (gw_tup (gws_cons (i := 1) (vs := [1, 2]) (by simp) (gws_cons (i := 2) (by simp) gws_nil))) ?_
  wtm_at "A"
  refine ⟨ss, rfl, hmost, .inl ?_⟩
  refine ⟨_, _, .lst _, trivial, by simp; omega, fun j d hj => ?_, fun out ho => ?_⟩
  · obtain ⟨⟨f, e⟩, hp, rfl⟩ := pairs_get hj
    have hb := hch.mem _ (List.mem_of_getElem? hp)
    have hb1 : 0 ≤ f ∧ f < e ∧ e ≤ ss.length := hb
    unfold pairD
    wtm_at "A"
    refine ⟨rfl, ?_⟩
    refine de_methZ XAg.none ?_
    wtm_at "A"
    exact ⟨ss, f, e, rfl, hmost, fun _ => ⟨rfl, rfl⟩, fun hn => absurd (by omega) hn⟩
  have ho' : out = (sizesOf ss).map D.int := by
    rw [← ho, sizesOf, List.map_map, List.map_map]
    rfl
  subst ho'
  wtm_at "A"
  refine rc_max' (.lst _) ?_ fun m h1 h2 => ?_
  · have := List.length_pos_iff.mpr (blocks_ne hg)
    simpa [sizesOf] using this
  · wtm_at "r"
    exact h m h1 h2
theorem d_least_limit : ∀ ds μ P PX, c_least_limit K ds μ P PX → MuCl μ μ.length → clL ds μ.length = true → ∀ B E, XAg K B (RetX μ.length PX) E → DS K B (t_least_limit K E) (startD ["book", "many", "low", "high", "middle"] ds) μ (fnE μ.length P) := by
  intro ds μ P PX h hm hc B E hE
  obtain ⟨ss, many, rfl, hg, hx, h⟩ := h
  show DS K B _ [some (bookD K ss), some (.int many), none, none, none] μ _
  unfold t_least_limit
  have hmost := hg.most
  have hpos := hg.pos
  wtm_at "A"
  · exact ds_raise0 hE (retx_same0 hm rfl (hx ‹_›))
  rename_i hm1
  refine ⟨ss, rfl, hg, fun lo hlo1 hlo2 => ?_⟩
  have lo0 : 0 ≤ lo := by
    obtain ⟨p, _, rfl⟩ := List.mem_map.mp hlo1
    exact longOf_nn hg _ _
  have lot : ∀ m', lo ≤ m' → tooLong ss m' = none := fun m' hm' => tooLong_none_sizes.mpr fun y hy => Int.le_trans (hlo2 y hy) hm'
  have lon : ∀ m', m' < lo → ¬ fewOk ss many m' := fun m' hm' q => by
    have := tooLong_none_sizes.mp q.1 lo hlo1
    omega
  wtm_at "A"
  refine ⟨ss, rfl, ?_⟩
  wtm_at "A"
  refine ⟨ss, 0, ss.length, rfl, hmost, fun _ => ?_, fun hn => absurd (by omega) hn⟩
  have htot : tooLong ss (longOf ss 0 ss.length) = none := tooLong_total hg
  have lotot : lo ≤ longOf ss 0 ss.length := tooLong_none_sizes.mp htot lo hlo1
  have ftot : fewOk ss many (longOf ss 0 ss.length) := ⟨htot, by rw [few_total hg (by omega)]; simp; omega⟩
  wtm_at "A"
  refine q_while (fun n ρ μ' => ∃ (l hh : Int) (y4 : Option D), ρ = [some (bookD K ss), some (.int many), some (.int l), some (.int hh), y4] ∧ μ = μ' ∧ lo ≤ l ∧ l ≤ hh ∧ (∀ m', m' < l → ¬ fewOk ss many m') ∧ fewOk ss many hh ∧ n = (hh - l).toNat)
    ⟨lo, longOf ss 0 ss.length, none, rfl, rfl, by omega, by omega, lon, ftot, rfl⟩ ?_
  rintro n ρ μ' ⟨l, hh, y4, rfl, rfl, h1, h2, h3, h4, rfl⟩
  wtm_at "A"
  · rename_i hlt
    refine ro_fdiv (i := l + hh) (j := 2) (by decide) (by decide) ?_
    have hmid : l ≤ (l + hh) / 2 ∧ (l + hh) / 2 < hh := by omega
    wtm_at "A"
    refine ⟨ss, (l + hh) / 2, rfl, hg, fun hn => absurd hn (by omega), fun _ f hf => absurd hf (by rw [lot _ (by omega)]; simp), fun _ _ => .inl ?_⟩
    wtm_at "A"
    · rename_i hle
      refine ⟨_, ?_, l, (l + hh) / 2, _, rfl, rfl, h1, by omega, h3, ⟨lot _ (by omega), by simpa using hle⟩, rfl⟩
      omega
    · rename_i hle
      refine ⟨_, ?_, (l + hh) / 2 + 1, hh, _, rfl, rfl, by omega, by omega, fun m' hm' q => ?_, h4, rfl⟩
      · omega
      · have q2 := (few_anti hg (m := m') (m' := (l + hh) / 2) (by omega) q.1).2
        have q3 := q.2
        omega
  · rename_i hlt
    have e : l = hh := by omega
    subst e
    wtm_at "r"
    exact h (by omega) l (by omega) h4 h3
theorem d_law_blocks : ∀ ds μ P PX, c_law_blocks K ds μ P PX → MuCl μ μ.length → clL ds μ.length = true → ∀ B E, XAg K B (RetX μ.length PX) E → DS K B (t_law_blocks K E) (startD ["_law_sections_here", "_law_found", "_law_first", "_law_at", "_law_one"] ds) μ (fnE μ.length P) := by
  intro ds μ P PX h hm hc B E hE
  obtain ⟨ss, rfl, hl, h⟩ := h
  show DS K B _ [some (secsD ss), none, none, none, none] μ _
  unfold t_law_blocks
  wtm_at "A"
  refine de_lstOZ ?_
  wtm_at "A"
  refine q_for ?_
  wtm_at "A"
  refine ⟨_, _, _, rfl, .lst _, .lst _, fun i ρ μ' => ∃ fnd first y3 y4, ρ = [some (secsD ss), some (.own μ.length), some (.int first), y3, y4] ∧ μ' = μ ++ [.lst (fnd.map pairD)] ∧ fnd ++ blocksFrom first i (ss.drop i) = blocks ss ∧ fnd.length ≤ i,
    ⟨[], 0, none, none, rfl, rfl, rfl, by simp⟩, fun _ _ _ _ _ => trivial, ?_, ?_⟩
  · rintro i d ρ μ' hd ⟨fnd, first, y3, y4, rfl, rfl, he, hfl⟩
    obtain ⟨x, hx, rfl⟩ := enumD_some hd
    obtain ⟨s, hs, rfl⟩ := secs_get hx
    have hi : i < ss.length := (List.getElem?_eq_some_iff.mp hs).1
    rw [drop_cons' hs] at he
    wtm_at "A"
    · rename_i hb
      simp only [hb, blocksFrom] at he
      wtm_at "m"
      wtm_at "A"
      refine rm_app mu_last (by simp; omega) ?_
      rw [set_last]
      wtm_at "A"
      refine ⟨fnd ++ [(first, (i : Int) + 1)], (i : Int) + 1, _, _, rfl, by simp [pairD], ?_, by simp; omega⟩
      rw [List.append_assoc]
      simpa using he
    · rename_i hb
      simp only [hb, blocksFrom] at he
      exact ⟨fnd, first, _, _, rfl, rfl, by simpa using he, by omega⟩
  · rintro ρ μ' ⟨fnd, first, y3, y4, rfl, rfl, he, hfl⟩
    rw [enumD_length, List.length_map, List.drop_length] at he
    simp only [blocksFrom, List.append_nil] at he
    subst he
    refine ds_ret (de_frz ?_)
    wtm_at "v"
    refine ⟨_, _, rfl, mu_last, ?_⟩
    rw [set_last]
    exact ret_same (by simp) hm (by simp [D.cl, clL_pairs]) h
theorem d_law_word (kx : KExc K excNames) : ∀ ds μ P PX, c_law_word K ds μ P PX → MuCl μ μ.length → clL ds μ.length = true → ∀ B E, XAg K B (RetX μ.length PX) E → DS K B (t_law_word K E) (startD ["_law_e", "_law_found", "_law_words", "_law_some", "_law_word_here", "_law_good"] ds) μ (fnE μ.length P) := by
  intro ds μ P PX h hm hc B E hE
  obtain ⟨x, gs, rfl, hx, h⟩ := h
  show DS K B _ [some (.exc (He.ga K x) gs), none, none, none, none, none] μ _
  unfold t_law_word
  have is : ∀ {y : Str} {Q : D → Mu → Prop}, y ∈ excNames → Q (.bl (decide (x = y))) μ → RC K (rIsX K) [.exc (He.ga K x) gs, .loc (He.ga K y)] μ Q := fun hy q => rc_isX (kx.ec x hx) (.loc _) (kx.is x hx _ hy) q
  have L4 : ∀ {a b c d : Str} {ρ : En} {Q : D → Mu → Prop}, ρ[0]? = some (some (.exc (He.ga K x) gs)) → a ∈ excNames → b ∈ excNames → c ∈ excNames → d ∈ excNames → Q (.lst [.bl (decide (x = a)), .bl (decide (x = b)), .bl (decide (x = c)), .bl (decide (x = d))]) μ →
      DE K B (tLst (tCons (tCB (rIsX K) (tCons (tVar 0) (tCons (tC (.ref (He.ga K a))) tNil))) (tCons (tCB (rIsX K) (tCons (tVar 0) (tCons (tC (.ref (He.ga K b))) tNil))) (tCons (tCB (rIsX K) (tCons (tVar 0) (tCons (tC (.ref (He.ga K c))) tNil))) (tCons (tCB (rIsX K) (tCons (tVar 0) (tCons (tC (.ref (He.ga K d))) tNil))) tNil))))) ρ μ Q := by
    intro a b c d ρ Q hρ ha hb hc hd q
    refine de_lstZ ?_
    wtm_at "A"
    refine is ha ?_
    wtm_at "A"
    refine is hb ?_
    wtm_at "A"
    refine is hc ?_
    wtm_at "A"
    refine is hd ?_
    wtm_at "A"
    exact q
  have L3 : ∀ {a b c : Str} {ρ : En} {Q : D → Mu → Prop}, ρ[0]? = some (some (.exc (He.ga K x) gs)) → a ∈ excNames → b ∈ excNames → c ∈ excNames → Q (.lst [.bl (decide (x = a)), .bl (decide (x = b)), .bl (decide (x = c))]) μ →
      DE K B (tLst (tCons (tCB (rIsX K) (tCons (tVar 0) (tCons (tC (.ref (He.ga K a))) tNil))) (tCons (tCB (rIsX K) (tCons (tVar 0) (tCons (tC (.ref (He.ga K b))) tNil))) (tCons (tCB (rIsX K) (tCons (tVar 0) (tCons (tC (.ref (He.ga K c))) tNil))) tNil)))) ρ μ Q := by
    intro a b c ρ Q hρ ha hb hc q
    refine de_lstZ ?_
    wtm_at "A"
    refine is ha ?_
    wtm_at "A"
    refine is hb ?_
    wtm_at "A"
    refine is hc ?_
    wtm_at "A"
    exact q
  wtm_at "A"
  refine L4 rfl (by simp [excNames]) (by simp [excNames]) (by simp [excNames]) (by simp [excNames]) ?_
  wtm_at "A"
  refine L4 rfl (by simp [excNames]) (by simp [excNames]) (by simp [excNames]) (by simp [excNames]) ?_
  wtm_at "A"
  refine ro_addL (.lst _) (.lst _) (by simp) ?_
  wtm_at "A"
  refine L3 rfl (by simp [excNames]) (by simp [excNames]) (by simp [excNames]) ?_
  wtm_at "A"
  refine ro_addL (.lst _) (.lst _) (by simp) ?_
  wtm_at "A"
  refine L3 rfl (by simp [excNames]) (by simp [excNames]) (by simp [excNames]) ?_
  wtm_at "A"
  refine ro_addL (.lst _) (.lst _) (by simp) ?_
  wtm_at "A"
  refine de_lstZ ?_
  wtm_at "A"
  refine de_lstZ ?_
  wtm_at "A"
  refine ro_addL (.lst _) (.lst _) (by simp) ?_
  wtm_at "A"
  refine lc_filt (fun d => match d with | .tup [_, .bl b] => b | _ => false) (fun d => match d with | .tup [.str s, _] => .str s | _ => .non) (gw_tup (gws_cons (i := 4) (vs := [4, 5]) (by simp) (gws_cons (i := 5) (by simp) gws_nil))) ?_
  refine di_zip ?_
  wtm_at "A"
  refine ⟨_, _, rfl, trivial, by simp [zipD], fun j d hj => ?_, fun out ho => ?_⟩
  · obtain ⟨a, b, ha, hb, rfl⟩ := zipD_some hj
    have hb' : ∃ v, b = .bl v := by
      have := List.mem_of_getElem? hb
      simp at this
      rcases this with h | h | h | h | h | h | h | h | h | h | h | h | h | h <;> exact ⟨_, h⟩
    have ha' : ∃ v, a = .str v := by
      have := List.mem_of_getElem? ha
      simp at this
      rcases this with h | h | h | h | h | h | h | h | h | h | h | h | h | h <;> exact ⟨_, h⟩
    obtain ⟨v, rfl⟩ := hb'
    obtain ⟨u, rfl⟩ := ha'
    wtm_at "A"
    refine ⟨rfl, ?_⟩
    wtm_at "A"
    refine ⟨rfl, rfl, fun hv => ?_⟩
    wtm_at "A"
    exact ⟨rfl, rfl⟩
  have ho' : out = [.str x] := by
    rw [← ho]
    simp only [excNames, List.mem_cons, List.not_mem_nil, or_false] at hx
    rcases hx with h | h | h | h | h | h | h | h | h | h | h | h | h | h <;> subst h <;> kernel_rfl
  subst ho'
  wtm_at "A"
  refine rc_isX (kx.ec x hx) (.ty _) (kx.ve x hx) ?_
  wtm_at "A"
  refine ro_ixL (.lst _) rfl ?_
  wtm_at "r"
  exact h
end
def t_law_tried (K : PySem.W.Frag) (E : XK) (td : WX → TE) : TS :=
    (tSeq (tAsg (tC .non) (gName 1))
      (tSeq (tTry K (.ref (He.ga K "ReadError")) 2 (fun W => (tDrop (td W))) (tAsg (tVar 2) (gName 1)) (fun _ _ _ _ => False))
      (tRet (tIf (tB (tIsN (tVar 1))) (tC (.str "")) (tCall (spD K (c_law_word K)) [] E (tCons (tVar 1) tNil))))))
local macro_rules | `(tactic| wtm_at "d7") => `(tactic| with_reducible (first | refine de_xfZ ?_ | refine np_exc ?_))
local macro_rules | `(tactic| wtm_at "g7") => `(tactic| first | refine xf_i (by assumption) (by simp) (by rfl) ?_ | refine ro_eqSS (by decide +kernel) ?_ | refine ro_neSS (by decide +kernel) ?_ | refine ro_eqSd (by decide +kernel) (by decide +kernel) (by decide +kernel) ?_ | refine ro_neSd (by decide +kernel) (by decide +kernel) (by decide +kernel) ?_)
local macro_rules | `(tactic| wtm_at "A") => `(tactic| repeat' first | wtm_at "v" | wtm_at "f4" | wtm_at "d7" | wtm_at "dE" | wtm_at "d6" | wtm_at "dO" | wtm_at "dT" | wtm_at "s5" | wtm_at "sP" | wtm_at "s3" | wtm_at "dS" | wtm_at "d2" | wtm_at "f3" | wtm_at "i" | wtm_at "l" | wtm_at "x" | wtm_at "o2" | wtm_at "o5" | wtm_at "h" | wtm_at "h2" | wtm_at "sz" | wtm_at "g6" | wtm_at "p3" | wtm_at "g4" | wtm_at "g7" | wtm_at "b" | fail)
local macro_rules | `(tactic| wtm_at "E") => `(tactic| repeat' first | wtm_at "v" | wtm_at "f4" | wtm_at "d7" | wtm_at "dE" | wtm_at "d6" | wtm_at "dO" | wtm_at "dT" | wtm_at "d2" | wtm_at "f3" | wtm_at "i" | wtm_at "l" | wtm_at "x" | wtm_at "o2" | wtm_at "o5" | wtm_at "h" | wtm_at "h2" | wtm_at "sz" | wtm_at "g6" | wtm_at "p3" | wtm_at "g4" | wtm_at "g7" | wtm_at "b" | fail)
section
variable {K : PySem.W.Frag} {B : Bs} {ρ : En} {μ : Mu} {P : D → Mu → Prop}
theorem xag_imp {PX PX' : PXT} {E : XK} (h : XAg K B PX E) (i : ∀ C fs μ', PX' C fs μ' → PX C fs μ') : XAg K B PX' E := fun C fs dd μ' G' H' al' n A xr p => h C fs dd μ' G' H' al' n A xr (i C fs μ' p)
theorem de_tried {k : Nat} {p : Addr} {q : Str} {t : XK → TE} (kx : KExc K excNames) (hk : μ[k]? = some (.tab p q))
    (h : ∀ B' : Bs, ∀ E', XAg K B' (fun C _ μ' => ∃ x ∈ excNames, C = He.ga K x ∧ P (.str x) μ') E' → DE K B' (t E') ρ μ (fun _ μ' => P (.str "") μ')) : DE K B (tLm p q (TTd ["_law_deed", "_law_caught", "_law_e"] q (t_law_tried K NoX)) t) ρ μ P := by
  refine de_lm hk (by simp) fun B' hB f td hd => ?_
  show DS K B' _ [some (.loc f), none, none] μ _
  unfold t_law_tried
  wtm_at "A"
  refine ds_cut (M := fun ρ1 μ1 => (∃ y, ρ1 = [y, some .non, none] ∧ P (.str "") μ1) ∨ ∃ x gs, x ∈ excNames ∧ ρ1 = [none, some (.exc (He.ga K x) gs), none] ∧ P (.str x) μ1) ?_ ?_
  · refine ds_try fun B2 hB2 W hW => ?_
    refine ds_drop (hd B2 W _ _ μ _ hB2 hW rfl fun E' hE' => ?_)
    refine (h B2 E' (xag_imp hE' ?_)).imp fun d μ' hp => .inl ⟨_, rfl, hp⟩
    rintro C fs μ' ⟨x, hx, rfl, hp⟩
    refine ⟨kx.re x hx, ?_⟩
    show DS K B2 _ [none, none, some (.exc (He.ga K x) fs)] μ' _
    wtm_at "A"
    exact .inr ⟨x, fs, hx, rfl, hp⟩
  · rintro ρ1 μ1 (⟨y, rfl, hp⟩ | ⟨x, gs, hx, rfl, hp⟩)
    · wtm_at "A"
      exact hp
    · have hE : XAg K B' (fun _ _ _ => False) NoX := fun _ _ _ _ _ _ _ _ _ _ p => p
      wtm_at "A"
      exact ⟨x, gs, rfl, hx, hp⟩
end
def tabA (K : PySem.W.Frag) : MO := .tab (He.cT K ("_law_asked", none)).2 "_law_asked.<locals>.<lambda>"
/-- the cut by a limit, none where a block is longer -/
def cutOf (ss : List Sec) (lim : Int) : Option (List (Int × Int)) := if tooLong ss lim = none then some (fewestOf ss lim) else none
def optL : Option (List (Int × Int)) → D
  | some ps => .lst (ps.map pairD)
  | none => .non
def heldD (ps : List (Int × Int)) : D := .tup [.lst (ps.map pairD), .lst (ps.map pairD)]
def c_law_limit (K : PySem.W.Frag) : CT := fun ds μ P PX => ∃ (k : Nat) (n : Int) (ss : List Sec), ds = [.own k, secsD ss] ∧ μ[k]? = some (.lst [.int n]) ∧ Good ss ∧ ∀ lim n' : Int, 0 ≤ lim → P (.int lim) (μ.set k (.lst [.int n']))
def c_law_cut (K : PySem.W.Frag) : CT := fun ds μ P PX => ∃ (ss : List Sec) (lim : Int), ds = [secsD ss, .int lim] ∧ Good ss ∧ P (optL (cutOf ss lim)) μ
def c_law_lists (K : PySem.W.Frag) : CT := fun ds μ P PX => ∃ (k : Nat) (n : Int) (ss : List Sec) (way : Int), ds = [.own k, bookD K ss, secsD ss, .int way] ∧ μ[k]? = some (.lst [.int n]) ∧ Good ss ∧ (way = 0 ∨ way = 1) ∧ ∀ n' : Int, P (.bl true) (μ.set k (.lst [.int n']))
def c_law_asked (K : PySem.W.Frag) : CT := fun ds μ P PX => ∃ (k : Nat) (n : Int) (ss : List Sec) (h : Nat) (hs : List (List (Int × Int))), ds = [.own k, bookD K ss, secsD ss, .own h] ∧ μ[k]? = some (.lst [.int n]) ∧ Good ss ∧ μ[h]? = some (.lst (hs.map heldD)) ∧ k ≠ h ∧ hs.length ≤ 1000 ∧ (∃ t : Nat, μ[t]? = some (tabA K)) ∧
  ∀ (n' : Int) (hs' : List (List (Int × Int))), hs'.length ≤ hs.length + 1 → P (.bl true) ((μ.set k (.lst [.int n'])).set h (.lst (hs'.map heldD)))
def c_law (K : PySem.W.Frag) : CT := fun ds μ P PX => ∃ ns : List Int, ds = [.rdl (ns.map D.int)] ∧ ns.length ≤ 63 ∧ (∃ k : Nat, μ[k]? = some (tabA K)) ∧ ∀ μ', P (.bl true) μ'
theorem few_pos9 (ss : List Sec) (lim : Int) : ∀ (bs : List (Int × Int)) (a b : Int), 0 < (fewFrom ss lim a b bs).length
  | [], _, _ => by simp [fewFrom]
  | (f, e) :: r, a, b => by
    unfold fewFrom
    split
    · simp
    · exact few_pos9 ss lim r a e
theorem few_next {ss : List Sec} {lim a b f e : Int} {r : List (Int × Int)} : fewFrom ss lim a b ((f, e) :: r) = if lim < longOf ss a e then (a, b) :: fewFrom ss lim f e r else fewFrom ss lim a e r := by
  rw [fewFrom]
def t_law_limit (K : PySem.W.Frag) (E : XK) : TS :=
    (tSeq (tAsg (tCall (spD K (c_law_next K)) [] E (tCons (tVar 0) (tCons (tC (.int 8)) tNil))) (gName 2))
      (tSeq (tAsg (tCB (rLen K) (tCons (tVar 1) tNil)) (gName 3))
      (tSeq (tAsg (tCall (spD K (c_law_next K)) [] E (tCons (tVar 0) (tCons (tVar 3) tNil))) (gName 4))
      (tSeq (tAsg (tOp (rAddA K) (tOp (rAddA K) (tVar 4) (tC (.int 1))) (tCall (spD K (c_law_next K)) [] E (tCons (tVar 0) (tCons (tOp (rI0 fun i j => .int (i - j)) (tVar 3) (tVar 4)) tNil)))) (gName 5))
      (tSeq (tAsg (tCall (spD K (c_law_next K)) [] E (tCons (tVar 0) (tCons (tOp (rI CPow fun i j => .int (i ^ j.toNat)) (tC (.int 10)) (tC (.int 13))) tNil))) (gName 6))
      (tSeq (tAsg (tCall (spD K (c_law_long K)) [] E (tCons (tVar 1) (tCons (tVar 4) (tCons (tVar 5) tNil)))) (gName 7))
      (tSeq (tAsg (tCB (rMaxA K) (tCons (tLc (iAny K (tCall (spD K (c_law_blocks K)) [] E (tCons (tVar 1) tNil))) (gTup K 2 (gCons (gName 9) (gCons (gName 10) gNil))) tYes (tCall (spD K (c_law_long K)) [] E0 (tCons (tVar 1) (tCons (tVar 9) (tCons (tVar 10) tNil)))) [9, 10]) tNil)) (gName 8))
      (tSeq (tAsg (tLst (tCons (tVar 7) (tCons (tVar 7) (tCons (tCB (rMaxA K) (tCons (tC (.int 0)) (tCons (tOp (rI0 fun i j => .int (i - j)) (tVar 7) (tC (.int 1))) tNil))) (tCons (tOp (rAddA K) (tVar 7) (tC (.int 1))) (tCons (tVar 8) (tCons (tOp (rAddA K) (tVar 8) (tOp rModA (tVar 6) (tOp (rAddA K) (tVar 7) (tC (.int 1))))) (tCons (tOp rModA (tVar 6) (tC (.int 9))) tNil)))))))) (gName 11))
      (tRet (tOp (rIx K) (tOp (rAddA K) (tVar 11) (tLst (tCons (tOp (rAddA K) (tVar 7) (tOp rMulA (tVar 6) (tOp (rI CPow fun i j => .int (i ^ j.toNat)) (tC (.int 10)) (tC (.int 9))))) tNil))) (tVar 2)))))))))))
def t_law_cut (K : PySem.W.Frag) (E : XK) : TS :=
    (tSeq (tAsg (tLst tNil) (gName 2))
      (tSeq (tAsg (tC (.int 0)) (gName 3))
      (tSeq (tFor (iAny K (tCall (spD K (c_law_blocks K)) [] E (tCons (tVar 0) tNil))) (gTup K 2 (gCons (gName 4) (gCons (gName 5) gNil))) (tSeq (tIfS (tTest (tOp (rI0 fun i j => .bl (decide (j < i))) (tCall (spD K (c_law_long K)) [] E (tCons (tVar 0) (tCons (tVar 4) (tCons (tVar 5) tNil)))) (tVar 1))) (tRet (tC .non)) tNext)
      (tIfS (tTest (tOp (rI0 fun i j => .bl (decide (j < i))) (tCall (spD K (c_law_long K)) [] E (tCons (tVar 0) (tCons (tVar 3) (tCons (tVar 5) tNil)))) (tVar 1))) (tSeq (tDrop (tBM K "list" rAppend (tVar 2) (tCons (tTup (tCons (tVar 3) (tCons (tVar 4) tNil))) tNil)))
      (tAsg (tVar 4) (gName 3))) tNext)))
      (tRet (tOp (rAddA K) (tVar 2) (tLst (tCons (tTup (tCons (tVar 3) (tCons (tCB (rLen K) (tCons (tVar 0) tNil)) tNil))) tNil)))))))
def t_law_lists (K : PySem.W.Frag) (E : XK) : TS :=
    (tSeq (tAsg (tOp (rIx K) (tLst (tCons (tCB (rListOf K) (tCons (tVar 2) tNil)) (tCons (tCall (spD K (c_law_blocks K)) [] E (tCons (tVar 2) tNil)) tNil))) (tVar 3)) (gName 4))
      (tSeq (tFor (iRng1 (tCons (tC (.int 2)) tNil)) (gName 5) (tSeq (tAsg (tIf (tTest (tOp (rEqD K) (tVar 3) (tC (.int 0)))) (tMeth (He.ga K "Book") "sections" (spD K (c_Book_sections K)) [] E (tVar 1) tNil) (tMeth (He.ga K "Book") "blocks" (spD K (c_Book_blocks K)) [] E (tVar 1) tNil)) (gName 6))
      (tSeq (tIfS (tTest (tOp (rNeD K) (tVar 6) (tVar 4))) (tRet (tC (.bl false))) tNext)
      (tSeq (tDrop (tBM K "list" rInsert (tVar 6) (tCons (tCall (spD K (c_law_next K)) [] E (tCons (tVar 0) (tCons (tOp (rAddA K) (tCB (rLen K) (tCons (tVar 6) tNil)) (tC (.int 1))) tNil))) (tCons (tTup (tCons (tC (.int 1)) (tCons (tC (.int 1)) tNil))) tNil))))
      (tDrop (tBM0 K "list" rPop (tVar 6)))))))
      (tRet (tC (.bl true)))))
section
variable {K : PySem.W.Frag}
theorem d_law_limit : ∀ ds μ P PX, c_law_limit K ds μ P PX → MuCl μ μ.length → clL ds μ.length = true → ∀ B E, XAg K B (RetX μ.length PX) E → DS K B (t_law_limit K E) (startD ["_law_draw", "_law_sections_here", "_law_way", "_law_many", "_law_first", "_law_end", "_law_more", "_law_long_here", "_law_least", "_law_one", "_law_other", "_law_some"] ds) μ (fnE μ.length P) := by
  intro ds μ P PX h hm hc B E hE
  obtain ⟨k, n, ss, rfl, hk, hg, h⟩ := h
  show DS K B _ [some (.own k), some (secsD ss), none, none, none, none, none, none, none, none, none, none] μ _
  unfold t_law_limit
  have hmost := hg.most
  have hpos := hg.pos
  have hch := blkCh hg
  have hbl : (blocks ss).length ≤ ss.length := blocksFrom_len ss 0 0
  have hset : ∀ z : Int, (μ.set k (.lst [.int z]))[k]? = some (.lst [.int z]) := fun z => set_get hk
  have hcl : ∀ z : Int, MuCl (μ.set k (.lst [.int z])) (μ.set k (.lst [.int z])).length := fun z => by rw [List.length_set]; exact hm.set (by simp [MO.cl, clL, D.cl])
  wtm_at "A"
  refine ⟨k, n, 8, rfl, hk, by omega, by omega, fun way n1 hw0 hw1 => ?_⟩
  wtm_at "A"
  refine ⟨k, n1, _, rfl, hset _, by simp; omega, by simp; omega, fun f n2 hf0 hf1 => ?_⟩
  rw [set_set']
  rw [List.length_map] at hf1
  wtm_at "A"
  refine ⟨k, n2, _, rfl, hset _, by simp; omega, by simp; omega, fun g n3 hg0 hg1 => ?_⟩
  rw [set_set']
  rw [List.length_map] at hg1
  wtm_at "A"
  refine ⟨k, n3, _, rfl, hset _, by decide, by decide, fun more n4 hm0 hm1 => ?_⟩
  have hm1' : more < 10000000000000 := hm1
  rw [set_set']
  wtm_at "A"
  refine ⟨ss, f, f + 1 + g, rfl, hmost, by omega, by omega, by omega, ?_⟩
  have hL0 := longOf_nn hg f (f + 1 + g)
  have hL1 := longOf_le hg (a := f) (b := f + 1 + g)
  wtm_at "A"
  refine lc_map (fun d => match d with | .tup [.int f, .int e] => .int (longOf ss f e) | _ => .non) (gw_tup (gws_cons (i := 9) (vs := [9, 10]) (by simp) (gws_cons (i := 10) (by simp) gws_nil))) ?_
  wtm_at "A"
  refine ⟨ss, rfl, hmost, ?_⟩
  refine ⟨_, _, .lst _, trivial, by simp; omega, fun j d hj => ?_, fun out ho => ?_⟩
  · obtain ⟨⟨f, e⟩, hp, rfl⟩ := pairs_get hj
    have hb := hch.mem _ (List.mem_of_getElem? hp)
    have hb1 : 0 ≤ f ∧ f < e ∧ e ≤ ss.length := hb
    unfold pairD
    wtm_at "A"
    refine ⟨rfl, ?_⟩
    refine de_call XAg.none ?_
    wtm_at "A"
    exact ⟨ss, f, e, rfl, hmost, by omega, by omega, by omega, rfl, rfl⟩
  have ho' : out = (sizesOf ss).map D.int := by
    rw [← ho, sizesOf, List.map_map, List.map_map]
    rfl
  subst ho'
  clear ho
  wtm_at "A"
  refine rc_max' (.lst _) ?_ fun m h1 h2 => ?_
  · have := List.length_pos_iff.mpr (blocks_ne hg)
    simpa [sizesOf] using this
  have hm00 : 0 ≤ m ∧ m ≤ 60000000000000 := by
    obtain ⟨p, _, rfl⟩ := List.mem_map.mp h1
    exact ⟨longOf_nn hg _ _, longOf_le hg⟩
  wtm_at "A"
  refine de_lstZ ?_
  wtm_at "A"
  refine de_lstZ ?_
  wtm_at "A"
  refine ro_addL (.lst _) (.lst _) (by simp) ?_
  have hmod := Int.emod_nonneg more (show longOf ss f (f + 1 + g) + 1 ≠ 0 by omega)
  have h9 := Int.emod_nonneg more (show (9 : Int) ≠ 0 by omega)
  have ex : ∃ v : Int, atI ([.int (longOf ss f (f + 1 + g)), .int (longOf ss f (f + 1 + g)), .int (max 0 (longOf ss f (f + 1 + g) - 1)), .int (longOf ss f (f + 1 + g) + 1), .int m, .int (m + more % (longOf ss f (f + 1 + g) + 1)), .int (more % 9)] ++ [.int (longOf ss f (f + 1 + g) + more * 10 ^ Int.toNat 9)] : List D) way = some (.int v) ∧ 0 ≤ v := by
    have : way = 0 ∨ way = 1 ∨ way = 2 ∨ way = 3 ∨ way = 4 ∨ way = 5 ∨ way = 6 ∨ way = 7 := by omega
    have hmul : 0 ≤ more * 10 ^ Int.toNat 9 := Int.mul_nonneg hm0 (by decide)
    rcases this with h | h | h | h | h | h | h | h <;> subst h <;> refine ⟨_, rfl, ?_⟩ <;> omega
  obtain ⟨v, hv, hv0⟩ := ex
  wtm_at "v"
  refine ro_ixL (.lst _) hv ?_
  exact ret_same0 (by simp) (hcl _) (by simp [D.cl]) (h v n4 hv0)
theorem optL_cl (o : Option (List (Int × Int))) (n : Nat) : (optL o).cl n = true := by
  cases o with
  | none => rfl
  | some ps => rw [optL, D.cl]; exact clL_map fun x _ => by simp [pairD, D.cl, clL]
theorem d_law_cut : ∀ ds μ P PX, c_law_cut K ds μ P PX → MuCl μ μ.length → clL ds μ.length = true → ∀ B E, XAg K B (RetX μ.length PX) E → DS K B (t_law_cut K E) (startD ["_law_sections_here", "_law_limit_here", "_law_found", "_law_at", "_law_first", "_law_end"] ds) μ (fnE μ.length P) := by
  intro ds μ P PX h hm hc B E hE
  obtain ⟨ss, lim, rfl, hg, h⟩ := h
  have hmost := hg.most
  have hch := blkCh hg
  have hbl : (blocks ss).length ≤ ss.length := blocksFrom_len ss 0 0
  show DS K B _ [some (secsD ss), some (.int lim), none, none, none, none] μ _
  unfold t_law_cut
  refine q_set (de_lstOZ ?_)
  wtm_at "E"
  refine q_set ?_
  wtm_at "E"
  refine q_for ?_
  wtm_at "E"
  refine ⟨ss, rfl, hmost, ?_⟩
  unfold pairsD
  refine ⟨_, _, .lst _, fun i ρ' μ' => ∃ (found : List (Int × Int)) (at_ b : Int) (y4 y5 : Option D), (∀ p ∈ (blocks ss).take i, longOf ss p.1 p.2 ≤ lim) ∧ found ++ fewFrom ss lim at_ b ((blocks ss).drop i) = fewestOf ss lim ∧ BlkCh ss.length b ((blocks ss).drop i) ∧ 0 ≤ at_ ∧ at_ ≤ b ∧ found.length ≤ i ∧ ρ' = [some (secsD ss), some (.int lim), some (.own μ.length), some (.int at_), y4, y5] ∧ μ' = μ ++ [.lst (found.map pairD)], ⟨[], 0, 0, _, _, by simp, rfl, hch, by omega, by omega, by simp, rfl, rfl⟩, fun _ _ _ _ _ => trivial, ?_, ?_⟩
  · rintro i d ρ' μ' hi ⟨found, at_, b, y4, y5, hfit, hfew, hbc, ha0, hab, hfl, rfl, rfl⟩
    obtain ⟨⟨f, e⟩, hp, rfl⟩ := pairs_get hi
    have hil := (List.getElem?_eq_some_iff.mp hp).1
    have hdr : (blocks ss).drop i = (f, e) :: (blocks ss).drop (i + 1) := by
      rw [List.drop_eq_getElem_cons hil]
      congr 1
      exact (List.getElem?_eq_some_iff.mp hp).2
    rw [hdr] at hfew hbc
    obtain ⟨rfl, hbe, hbc⟩ := hbc
    have hen : e ≤ ss.length := hbc.le
    rw [few_next] at hfew
    unfold pairD
    wtm_at "E"
    refine q_when (dt_test ?_)
    wtm_at "E"
    refine ⟨ss, f, e, rfl, hmost, by omega, by omega, by omega, ?_⟩
    wtm_at "E"
    · rename_i hlong
      refine ds_ret ?_
      wtm_at "E"
      have hc0 : cutOf ss lim = none := by
        unfold cutOf
        rw [if_neg]
        intro q
        have := tooLong_none.mp q (f, e) (List.mem_of_getElem? hp)
        have : longOf ss f e ≤ lim := this
        omega
      rw [hc0] at h
      exact ret_same (Nat.le_refl _) hm rfl h
    rename_i hlong
    have hfit' : ∀ p ∈ (blocks ss).take (i + 1), longOf ss p.1 p.2 ≤ lim := fun p hp' => by
      rw [show (blocks ss).take (i + 1) = (blocks ss).take i ++ [(f, e)] by rw [List.take_add_one, hp]; rfl] at hp'
      rcases List.mem_append.mp hp' with q | q
      · exact hfit p q
      · rw [List.mem_singleton.mp q]; show longOf ss f e ≤ lim; omega
    refine ds_if (dt_test ?_)
    wtm_at "E"
    refine ⟨ss, at_, e, rfl, hmost, by omega, by omega, by omega, ?_⟩
    wtm_at "E"
    · rename_i hl2
      rw [if_pos (by omega)] at hfew
      refine q_drop (de_bm ?_)
      wtm_at "v"
      refine ⟨ty_list (.own mu_last), da_cons ?_⟩
      wtm_at "E"
      refine rm_app mu_last (by rw [List.length_map]; omega) ?_
      rw [set_last]
      refine ds_set ?_
      wtm_at "v"
      exact ⟨found ++ [(at_, f)], f, e, _, _, hfit', by rw [List.append_assoc]; exact hfew, hbc, by omega, by omega, by simp; omega, rfl, by rw [List.map_append]; rfl⟩
    · rename_i hl2
      rw [if_neg (by omega)] at hfew
      refine ds_next ?_
      exact ⟨found, at_, e, _, _, hfit', hfew, hbc, by omega, by omega, by omega, rfl, rfl⟩
  rintro ρ' μ' ⟨found, at_, b, y4, y5, hfit, hfew, hbc, ha0, hab, hfl, rfl, rfl⟩
  rw [List.length_map, List.take_length] at hfit
  rw [List.length_map] at hfl
  rw [List.length_map, List.drop_length] at hfew hbc
  have hbn : b = ss.length := hbc
  subst hbn
  have hc0 : cutOf ss lim = some (found ++ [(at_, (ss.length : Int))]) := by
    unfold cutOf
    rw [if_pos (tooLong_none.mpr hfit), ← hfew]
    rfl
  rw [hc0] at h
  refine ds_ret ?_
  wtm_at "E"
  unfold secsD
  wtm_at "E"
  refine de_lstZ ?_
  wtm_at "E"
  rw [List.length_map]
  refine ro_addL (.own mu_last) (.lst _) (by simp; omega) ?_
  have e9 : found.map pairD ++ [D.tup [.int at_, .int (ss.length : Int)]] = (found ++ [(at_, (ss.length : Int))]).map pairD := by rw [List.map_append]; rfl
  rw [e9]
  exact ret_same (Nat.le_refl _) hm (optL_cl (some _) _) h
theorem d_law_lists : ∀ ds μ P PX, c_law_lists K ds μ P PX → MuCl μ μ.length → clL ds μ.length = true → ∀ B E, XAg K B (RetX μ.length PX) E → DS K B (t_law_lists K E) (startD ["_law_draw", "_law_book", "_law_sections_here", "_law_way", "_law_due", "_law_turn", "_law_found"] ds) μ (fnE μ.length P) := by
  intro ds μ P PX h hm hc B E hE
  obtain ⟨k, n, ss, way, rfl, hk, hg, hw, h⟩ := h
  have hmost := hg.most
  have hbl : (blocks ss).length ≤ ss.length := blocksFrom_len ss 0 0
  have hset : ∀ z : Int, (μ.set k (.lst [.int z]))[k]? = some (.lst [.int z]) := fun z => set_get hk
  have hself : μ.set k (.lst [.int n]) = μ := set_same hk
  have hcl : ∀ z : Int, MuCl (μ.set k (.lst [.int z])) (μ.set k (.lst [.int z])).length := fun z => by rw [List.length_set]; exact hm.set (by simp [MO.cl, clL, D.cl])
  show DS K B _ [some (.own k), some (bookD K ss), some (secsD ss), some (.int way), none, none, none] μ _
  unfold t_law_lists
  obtain ⟨xs, hxs, hxsh, hxl, hat⟩ : ∃ xs : List D, xs.length ≤ 60 ∧ shpL xs 1 = true ∧ clL xs μ.length = true ∧ atI [D.lst (ss.map secD), .lst ((blocks ss).map pairD)] way = some (.lst xs) ∧ (way = 0 → xs = ss.map secD) ∧ (way = 1 → xs = (blocks ss).map pairD) := by
    rcases hw with rfl | rfl
    · exact ⟨ss.map secD, by rw [List.length_map]; omega, shp_secs ss, clL_map fun x _ => by simp [secD, D.cl, clL], rfl, fun _ => rfl, fun z => absurd z (by decide)⟩
    · exact ⟨(blocks ss).map pairD, by rw [List.length_map]; omega, shp_pairs _, clL_map fun x _ => by simp [pairD, D.cl, clL], rfl, fun z => absurd z (by decide), fun _ => rfl⟩
  obtain ⟨hat, hx0, hx1⟩ := hat
  refine q_set ?_
  wtm_at "E"
  refine de_lstZ (da_cons (de_cb (da_cons ?_)))
  wtm_at "v"
  refine da_nil (rc_list (.lst _) ?_)
  wtm_at "E"
  refine ⟨ss, rfl, hmost, ?_⟩
  wtm_at "E"
  unfold pairsD
  refine ro_ixL (.lst _) hat ?_
  refine q_for ?_
  wtm_at "E"
  refine ⟨by omega, by omega, fun i ρ' μ' => ∃ (n' : Int) (ext : Mu) (y5 y6 : Option D), ρ' = [some (.own k), some (bookD K ss), some (secsD ss), some (.int way), some (.lst xs), y5, y6] ∧ μ' = μ.set k (.lst [.int n']) ++ ext, ⟨n, [], _, _, rfl, by rw [hself, List.append_nil]⟩, fun _ _ _ _ _ => trivial, ?_, ?_⟩
  · rintro i d ρ' μ' hi ⟨n', ext, y5, y6, rfl, rfl⟩
    obtain ⟨_, rfl⟩ := rangeD_some hi
    refine dg_name ?_
    have hJ : ∀ z : Int, (μ.set k (.lst [.int z]) ++ ext).length = μ.length + ext.length := fun z => by simp
    have hlast : ∀ (z : Int) (o : MO), (μ.set k (.lst [.int z]) ++ ext ++ [o])[μ.length + ext.length]? = some o := fun z o => by rw [← hJ z]; exact mu_last
    have hsetl : ∀ (z : Int) (o o' : MO), (μ.set k (.lst [.int z]) ++ ext ++ [o]).set (μ.length + ext.length) o' = μ.set k (.lst [.int z]) ++ ext ++ [o'] := fun z o o' => by rw [← hJ z]; exact set_last
    have body : DS K B (tSeq (tIfS (tTest (tOp (rNeD K) (tVar 6) (tVar 4))) (tRet (tC (.bl false))) tNext)
      (tSeq (tDrop (tBM K "list" rInsert (tVar 6) (tCons (tCall (spD K (c_law_next K)) [] E (tCons (tVar 0) (tCons (tOp (rAddA K) (tCB (rLen K) (tCons (tVar 6) tNil)) (tC (.int 1))) tNil))) (tCons (tTup (tCons (tC (.int 1)) (tCons (tC (.int 1)) tNil))) tNil))))
      (tDrop (tBM0 K "list" rPop (tVar 6))))) [some (.own k), some (bookD K ss), some (secsD ss), some (.int way), some (.lst xs), some (.int (0 + (i : Int))), some (.own (μ.length + ext.length))] (μ.set k (.lst [.int n']) ++ ext ++ [.lst xs]) { nx := fun ρ' μ' => ∃ (n' : Int) (ext : Mu) (y5 y6 : Option D), ρ' = [some (.own k), some (bookD K ss), some (secsD ss), some (.int way), some (.lst xs), y5, y6] ∧ μ' = μ.set k (.lst [.int n']) ++ ext, ct := fun ρ' μ' => ∃ (n' : Int) (ext : Mu) (y5 y6 : Option D), ρ' = [some (.own k), some (bookD K ss), some (secsD ss), some (.int way), some (.lst xs), y5, y6] ∧ μ' = μ.set k (.lst [.int n']) ++ ext, bk := fun ρ1 μ1 => DS K B (tRet (tC (.bl true))) ρ1 μ1 (fnE μ.length P), rt := (fnE μ.length P).rt } := by
      have hl0 := hlast n' (.lst xs)
      refine q_when (dt_test ?_)
      wtm_at "E"
      refine ro_neD (n := 2) (m := 2) (d := .lst xs) (e := .lst xs) (.own (hlast _ _)) (.id _) (by simpa [D.shp] using hxsh) (by simpa [D.shp] using hxsh) ?_
      rw [eqvD_refl (n := 2) (by simpa [D.shp] using hxsh)]
      wtm_at "E"
      refine q_drop (de_bm ?_)
      wtm_at "v"
      refine ⟨ty_list (.own (hlast _ _)), da_cons ?_⟩
      wtm_at "E"
      refine ⟨k, n', _, rfl, mu_old (mu_old (hset n')), by omega, by omega, fun r n2 r0 r1 => ?_⟩
      rw [set_old (mu_old (hset n')), set_old (hset n'), set_set']
      wtm_at "E"
      refine rm_insert (hlast _ _) (by omega) r0 (by omega) ?_
      rw [hsetl]
      refine ds_drop (de_bm0 ?_)
      wtm_at "v"
      have hne : xs.take r.toNat ++ [D.tup [.int 1, .int 1]] ++ xs.drop r.toNat ≠ [] := by simp
      refine ⟨ty_list (.own (hlast _ _)), rm_pop (hlast _ _) (d := (xs.take r.toNat ++ [D.tup [.int 1, .int 1]] ++ xs.drop r.toNat).getLast hne) (by rw [← List.getLast?_eq_getElem?]; exact List.getLast?_eq_some_getLast hne) ?_⟩
      rw [hsetl]
      exact ⟨n2, ext ++ [_], _, _, rfl, by rw [List.append_assoc]⟩
    refine q_set (de_if ?_)
    wtm_at "E"
    · rename_i hw0
      refine ⟨ss, rfl, .inr ?_⟩
      rw [hJ, ← hx0 hw0]
      exact body
    · rename_i hw0
      refine ⟨ss, rfl, hmost, .inr ?_⟩
      rw [hJ, ← hx1 (by omega)]
      exact body
  rintro ρ' μ' ⟨n', ext, y5, y6, rfl, rfl⟩
  refine ds_ret ?_
  wtm_at "E"
  exact ret_same (by simp) (by simpa using hcl n') rfl (h n')
end
/-- the greedy pieces, walked from a on -/
def WalkOk (ss : List Sec) (lim : Int) : Int → List (Int × Int) → Prop
  | a, [] => a = ss.length
  | a, (f, e) :: r => f = a ∧ a < e ∧ e ∈ endsOf ss ∧ longOf ss f e ≤ lim ∧ (∀ e', ((endsOf ss).filter fun x => decide (e < x)).head? = some e' → lim < longOf ss f e') ∧ WalkOk ss lim e r
theorem ends_filter {n : Int} : ∀ {bs : List (Int × Int)} {a : Int}, BlkCh n a bs → (bs.map (·.2)).filter (fun x => decide (a < x)) = bs.map (·.2)
  | [], _, _ => rfl
  | (f, e) :: r, a, h => by
    obtain ⟨h1, h2, h3⟩ := h
    rw [List.map_cons, List.filter_cons_of_pos (by simpa using h2)]
    congr 1
    rw [List.filter_eq_self]
    intro x hx
    obtain ⟨p, hp, rfl⟩ := List.mem_map.mp hx
    have := h3.mem p hp
    simp; omega
theorem few_walk {ss : List Sec} (hg : Good ss) {lim : Int} (ht : tooLong ss lim = none) : ∀ (bs pre : List (Int × Int)) (a b : Int), blocks ss = pre ++ bs → (∀ p ∈ pre, p.2 ≤ b) → BlkCh ss.length b bs → 0 ≤ a → a ≤ b → longOf ss a b ≤ lim → ((a < b ∧ b ∈ endsOf ss) ∨ (a = b ∧ bs ≠ [])) → WalkOk ss lim a (fewFrom ss lim a b bs)
  | [], pre, a, b, hbs, hpre, hch, ha, hab, hl, ho => by
    have hb : b = ss.length := hch
    obtain ⟨h1, h2⟩ : a < b ∧ b ∈ endsOf ss := by
      rcases ho with h | ⟨_, h⟩
      · exact h
      · exact absurd rfl h
    unfold fewFrom
    refine ⟨rfl, h1, h2, hl, fun e' he => ?_, hb⟩
    have hm := List.mem_of_head? he
    have := (List.mem_filter.mp hm)
    obtain ⟨h3, h4⟩ := this
    obtain ⟨p, hp, rfl⟩ := List.mem_map.mp h3
    have := (blkCh hg).mem p hp
    simp at h4
    omega
  | (f, e) :: r, pre, a, b, hbs, hpre, hch, ha, hab, hl, ho => by
    obtain ⟨h1, h2, h3⟩ := hch
    subst h1
    have hin : (f, e) ∈ blocks ss := by rw [hbs]; simp
    have hfit : longOf ss f e ≤ lim := tooLong_none.mp ht _ hin
    have hend : e ∈ endsOf ss := List.mem_map.mpr ⟨(f, e), hin, rfl⟩
    unfold fewFrom
    have hbs' : blocks ss = (pre ++ [(f, e)]) ++ r := by rw [hbs]; simp
    have hpre' : ∀ p ∈ pre ++ [(f, e)], p.2 ≤ e := fun p hp => by
      rcases List.mem_append.mp hp with m | m
      · have := hpre p m; omega
      · simp at m; subst m; exact Int.le_refl _
    by_cases hlt : lim < longOf ss a e
    · rw [if_pos hlt]
      have hab2 : a < f ∧ f ∈ endsOf ss := by
        rcases ho with h | ⟨h, _⟩
        · exact h
        · subst h; omega
      refine ⟨rfl, hab2.1, hab2.2, hl, fun e' he => ?_, ?_⟩
      · have hfl : ((endsOf ss).filter fun x => decide (f < x)) = ((f, e) :: r).map (·.2) := by
          unfold endsOf
          rw [hbs, List.map_append, List.filter_append]
          have h0 : (pre.map (·.2)).filter (fun x => decide (f < x)) = [] := by
            rw [List.filter_eq_nil_iff]
            intro x hx
            obtain ⟨p, hp, rfl⟩ := List.mem_map.mp hx
            have := hpre p hp
            simp; omega
          rw [h0, List.nil_append]
          exact ends_filter (n := ss.length) (a := f) ⟨rfl, h2, h3⟩
        rw [hfl] at he
        simp at he
        subst he
        exact hlt
      · exact few_walk hg ht r (pre ++ [(f, e)]) f e hbs' hpre' h3 (by omega) (by omega) hfit (.inl ⟨h2, hend⟩)
    · rw [if_neg hlt]
      exact few_walk hg ht r (pre ++ [(f, e)]) a e hbs' hpre' h3 ha (by omega) (by omega) (.inl ⟨by omega, hend⟩)
theorem fewest_walk {ss : List Sec} (hg : Good ss) {lim : Int} (h0 : 0 ≤ lim) (ht : tooLong ss lim = none) : WalkOk ss lim 0 (fewestOf ss lim) :=
  few_walk hg ht (blocks ss) [] 0 0 rfl (by simp) (blkCh hg) (by omega) (by omega) (by rw [longOf_self]; exact h0) (.inr ⟨rfl, blocks_ne hg⟩)
theorem few_len_le {ss : List Sec} (hg : Good ss) (lim : Int) : (fewestOf ss lim).length ≤ 61 := by
  have := fewFrom_len ss lim (blocks ss) 0 0
  have := blocksFrom_len ss 0 0
  have := hg.most
  unfold fewestOf
  unfold blocks at *
  omega
theorem walk_cut {ss : List Sec} {lim : Int} : ∀ (ps : List (Int × Int)) (a : Int), WalkOk ss lim a ps → cutFrom ss a ps = true
  | [], a, h => by simp [cutFrom]; exact h
  | (f, e) :: r, a, h => by
    obtain ⟨h1, h2, h3, h4, h5, h6⟩ := h
    unfold cutFrom
    rw [if_neg]
    · exact walk_cut r e h6
    · simp [h1, h3]; omega
def t_law_asked (K : PySem.W.Frag) (E : XK) : TS :=
    (tSeq (tAsg (tCall (spD K (c_law_next K)) [] E (tCons (tVar 0) (tCons (tC (.int 7)) tNil))) (gName 4))
      (tSeq (tAsg (tCall (spD K (c_law_limit K)) [] E (tCons (tVar 0) (tCons (tVar 2) tNil))) (gName 5))
      (tSeq (tAsg (tOp (rAddA K) (tC (.int 1)) (tCall (spD K (c_law_next K)) [] E (tCons (tVar 0) (tCons (tC (.int 7)) tNil)))) (gName 6))
      (tSeq (tIfS (tTest (tOp (rI0 fun i j => .bl (decide (i < j))) (tVar 4) (tC (.int 2)))) (tRet (tCall (spD K (c_law_lists K)) [] E (tCons (tVar 0) (tCons (tVar 1) (tCons (tVar 2) (tCons (tVar 4) tNil)))))) tNext)
      (tSeq (tIfS (tTest (tOp (rEqD K) (tVar 4) (tC (.int 2)))) (tSeq (tAsg (tCall (spD K (c_law_next K)) [] E (tCons (tVar 0) (tCons (tOp (rAddA K) (tCB (rLen K) (tCons (tVar 2) tNil)) (tC (.int 1))) tNil))) (gName 7))
      (tRet (tAndV (tOp (rEqD K) (tMeth (He.ga K "Book") "many" (spD K (c_Book_many K)) [] E (tVar 1) tNil) (tCB (rLen K) (tCons (tVar 2) tNil))) (tOp (rEqD K) (tMeth (He.ga K "Book") "long" (spD K (c_Book_long K)) [] E (tVar 1) (tCons (tC (.int 0)) (tCons (tVar 7) tNil))) (tCall (spD K (c_law_long K)) [] E (tCons (tVar 2) (tCons (tC (.int 0)) (tCons (tVar 7) tNil)))))))) tNext)
      (tSeq (tIfS (tTest (tOp (rEqD K) (tVar 4) (tC (.int 3)))) (tSeq (tAsg (tCall (spD K (c_least_limit K)) [] E (tCons (tVar 1) (tCons (tVar 6) tNil))) (gName 8))
      (tSeq (tAsg (tCall (spD K (c_law_cut K)) [] E (tCons (tVar 2) (tCons (tVar 8) tNil))) (gName 9))
      (tSeq (tAsg (tCall (spD K (c_law_cut K)) [] E (tCons (tVar 2) (tCons (tOp (rI0 fun i j => .int (i - j)) (tVar 8) (tC (.int 1))) tNil))) (gName 10))
      (tRet (tAndV (tNotN (tVar 9)) (tAndV (tOp (rI0 fun i j => .bl (decide (i ≤ j))) (tCB (rLen K) (tCons (tVar 9) tNil)) (tVar 6)) (tOrV (tIsN (tVar 10)) (tOp (rI0 fun i j => .bl (decide (j < i))) (tCB (rLen K) (tCons (tVar 10) tNil)) (tVar 6))))))))) tNext)
      (tSeq (tIfS (tTest (tOp (rEqD K) (tVar 4) (tC (.int 4)))) (tRet (tAndV (tOp (rEqD K) (tLm (He.cT K ("_law_asked", none)).2 "_law_asked.<locals>.<lambda>" (TTd ["_law_deed", "_law_caught", "_law_e"] "_law_asked.<locals>.<lambda>" (t_law_tried K NoX)) (fun E => (tCall (spD K (c_fewest K)) [] E (tCons (tVar 1) (tCons (tUn (rU fun i => .int (-i)) (tVar 6)) tNil))))) (tC (.str "BadNumber"))) (tOp rIsB (tCall (spD K (c_is_cut K)) [] E (tCons (tVar 1) (tCons (tLst tNil) tNil))) (tC (.bl false))))) tNext)
      (tSeq (tAsg (tCall (spD K (c_law_cut K)) [] E (tCons (tVar 2) (tCons (tVar 5) tNil))) (gName 9))
      (tSeq (tIfS (tB (tIsN (tVar 9))) (tRet (tOp (rEqD K) (tLm (He.cT K ("_law_asked", none)).2 "_law_asked.<locals>.<lambda>" (TTd ["_law_deed", "_law_caught", "_law_e"] "_law_asked.<locals>.<lambda>" (t_law_tried K NoX)) (fun E => (tCall (spD K (c_fewest K)) [] E (tCons (tVar 1) (tCons (tVar 5) tNil))))) (tC (.str "TooTight")))) tNext)
      (tSeq (tAsg (tCall (spD K (c_fewest K)) [] E (tCons (tVar 1) (tCons (tVar 5) tNil))) (gName 8))
      (tSeq (tIfS (tOr (tTest (tOp (rNeD K) (tVar 8) (tVar 9))) (tTest (tOp rNotB (tCall (spD K (c_is_cut K)) [] E (tCons (tVar 1) (tCons (tVar 8) tNil))) (tC (.bl true))))) (tRet (tC (.bl false))) tNext)
      (tSeq (tDrop (tBM K "list" rAppend (tVar 3) (tCons (tTup (tCons (tVar 8) (tCons (tCB (rListOf K) (tCons (tVar 8) tNil)) tNil))) tNil)))
      (tSeq (tAsg (tCall (spD K (c_fewest K)) [] E (tCons (tVar 1) (tCons (tVar 5) tNil))) (gName 11))
      (tSeq (tDrop (tBM0 K "list" rPop (tVar 11)))
      (tRet (tOp rIsB (tCall (spD K (c_is_cut K)) [] E (tCons (tVar 1) (tCons (tVar 11) tNil))) (tC (.bl false))))))))))))))))))
theorem cut_short {ss : List Sec} : ∀ (ps : List (Int × Int)) (a : Int), cutFrom ss a ps = true → ps ≠ [] → cutFrom ss a ps.dropLast = false
  | [], _, _, h => absurd rfl h
  | [p], a, h, _ => by
    unfold cutFrom at h
    split at h
    · cases h
    · rename_i hn
      have h1 : p.2 = ss.length := by simpa [cutFrom] using h
      have h2 : a < p.2 := by
        refine Int.lt_of_not_ge fun z => hn (.inr (.inl ?_))
        have : p.2 ≤ a := z
        exact this
      show decide (a = (ss.length : Int)) = false
      exact decide_eq_false (by omega)
  | p :: q :: r, a, h, _ => by
    unfold cutFrom at h
    split at h
    · cases h
    · rename_i hn
      rw [List.dropLast_cons_cons, cutFrom, if_neg hn]
      exact cut_short (q :: r) p.2 h (by simp)
section
variable {K : PySem.W.Frag}
set_option maxHeartbeats 2000000 in
theorem d_law_asked (kx : KExc K excNames) : ∀ ds μ P PX, c_law_asked K ds μ P PX → MuCl μ μ.length → clL ds μ.length = true → ∀ B E, XAg K B (RetX μ.length PX) E → DS K B (t_law_asked K E) (startD ["_law_draw", "_law_book", "_law_sections_here", "_law_held", "_law_way", "_law_limit_here", "_law_many", "_law_end", "_law_found", "_law_due", "_law_less", "_law_other"] ds) μ (fnE μ.length P) := by
  intro ds μ P PX h hm hc B E hE
  obtain ⟨k, n, ss, hh, hs, rfl, hk, hg, hhh, hne, hs30, ⟨t, ht⟩, h⟩ := h
  have hmost := hg.most
  have hpos := hg.pos
  have hset : ∀ z : Int, (μ.set k (.lst [.int z]))[k]? = some (.lst [.int z]) := fun z => set_get hk
  have hcl : ∀ z : Int, MuCl (μ.set k (.lst [.int z])) (μ.set k (.lst [.int z])).length := fun z => by rw [List.length_set]; exact hm.set (by simp [MO.cl, clL, D.cl])
  have hheld : ∀ z : Int, (μ.set k (.lst [.int z]))[hh]? = some (.lst (hs.map heldD)) := fun z => by rw [List.getElem?_set_ne hne]; exact hhh
  have htab : ∀ z : Int, (μ.set k (.lst [.int z]))[t]? = some (tabA K) := fun z => by
    rw [List.getElem?_set_ne]
    · exact ht
    · rintro rfl
      rw [ht] at hk
      simp [tabA] at hk
  have fin0 : ∀ (z : Int) (ext : Mu), Ret μ.length P (.bl true) (μ.set k (.lst [.int z]) ++ ext) := fun z ext => by
    have := h z hs (by omega)
    rw [set_same (hheld z)] at this
    exact ret_same (by simp) (hcl z) rfl this
  have fin00 : ∀ (z : Int), Ret μ.length P (.bl true) (μ.set k (.lst [.int z])) := fun z => by
    have := fin0 z []
    rwa [List.append_nil] at this
  show DS K B _ [some (.own k), some (bookD K ss), some (secsD ss), some (.own hh), none, none, none, none, none, none, none, none] μ _
  unfold t_law_asked
  refine q_set ?_
  wtm_at "E"
  refine ⟨k, n, 7, rfl, hk, by omega, by omega, fun way n1 w0 w1 => ?_⟩
  refine q_set ?_
  wtm_at "E"
  refine ⟨k, n1, ss, rfl, hset _, hg, fun lim n2 hl0 => ?_⟩
  rw [set_set']
  refine q_set ?_
  wtm_at "E"
  refine ⟨k, n2, 7, rfl, hset _, by omega, by omega, fun m0 n3 m00 m01 => ?_⟩
  rw [set_set']
  wtm_at "E"
  have hset3 := hset n3
  have htab3 := htab n3
  have hheld3 := hheld n3
  refine q_when (dt_test ?_)
  wtm_at "E"
  · refine ds_ret ?_
    wtm_at "E"
    refine ⟨k, n3, ss, way, rfl, hset _, hg, by omega, fun n4 => ?_⟩
    rw [set_set']
    exact fin00 n4
  rename_i hw2
  refine q_when (dt_test ?_)
  wtm_at "E"
  · refine q_set ?_
    wtm_at "E"
    unfold secsD
    wtm_at "E"
    refine ⟨k, n3, _, rfl, hset _, by omega, by rw [List.length_map]; omega, fun e n4 e0 e1 => ?_⟩
    rw [set_set']
    rw [List.length_map] at e1
    refine ds_ret (de_andV ?_)
    wtm_at "E"
    refine ⟨ss, rfl, ?_⟩
    wtm_at "E"
    refine ⟨ss, 0, e, rfl, hmost, fun _ => ?_, fun hn => absurd ⟨by omega, by omega, by omega⟩ hn⟩
    wtm_at "E"
    refine ⟨ss, 0, e, rfl, hmost, by omega, by omega, by omega, ?_⟩
    wtm_at "E"
    have := fin00 n4
    · show Ret μ.length P _ _
      simpa using this
    · rename_i hb
      exact absurd (by simp) hb
  rename_i hw3
  refine q_when (dt_test ?_)
  wtm_at "E"
  · refine q_set ?_
    wtm_at "E"
    refine ⟨ss, 1 + m0, rfl, hg, fun hn => by omega, fun _ m hm0 hok hmin => ?_⟩
    refine q_set ?_
    wtm_at "E"
    refine ⟨ss, m, rfl, hg, ?_⟩
    have e1 : cutOf ss m = some (fewestOf ss m) := by unfold cutOf; rw [if_pos hok.1]
    rw [e1]
    refine q_set ?_
    wtm_at "E"
    refine ⟨ss, m - 1, rfl, hg, ?_⟩
    have hle := hok.2
    have h2 : ∀ ps, cutOf ss (m - 1) = some ps → 1 + m0 < (ps.length : Int) := fun ps e => by
      unfold cutOf at e
      split at e
      · rename_i q
        cases e
        have := hmin (m - 1) (by omega)
        unfold fewOk at this
        simp only [q, true_and] at this
        omega
      · cases e
    refine ds_ret (de_andV ?_)
    cases hq : cutOf ss (m - 1) with
    | none =>
      simp only [optL]
      wtm_at "E"
      exact fin00 n3
    | some ps =>
      have := h2 ps hq
      simp only [optL]
      wtm_at "E"
      rw [List.length_map, decide_eq_true (by omega)]
      exact fin00 n3
  rename_i hw4
  refine q_when (dt_test ?_)
  wtm_at "E"
  · refine ds_ret (de_andV ?_)
    wtm_at "E"
    refine de_tried kx htab3 fun B' E' hE' => ?_
    wtm_at "E"
    refine ⟨ss, -(1 + m0), rfl, hg, fun _ => ⟨"BadNumber", by simp [excNames], rfl, ?_⟩, fun h0 => by omega, fun h0 => by omega⟩
    wtm_at "E"
    refine de_lstZ ?_
    wtm_at "E"
    refine ⟨ss, .lst [], [], rfl, .lst _, hmost, ?_⟩
    have : cutFrom ss 0 [] = false := decide_eq_false (by omega)
    rw [this]
    wtm_at "E"
    exact fin00 n3
  rename_i hw5
  refine q_set ?_
  wtm_at "E"
  refine ⟨ss, lim, rfl, hg, ?_⟩
  cases hq : tooLong ss lim with
  | some f =>
    have e1 : cutOf ss lim = none := by unfold cutOf; rw [hq]; rfl
    rw [e1]
    simp only [optL]
    refine q_when ?_
    wtm_at "E"
    refine ds_ret ?_
    wtm_at "E"
    refine de_tried kx htab3 fun B' E' hE' => ?_
    wtm_at "E"
    refine ⟨ss, lim, rfl, hg, fun h0 => by omega, fun _ f' hf => ⟨"TooTight", by simp [excNames], rfl, ?_⟩, fun _ h0 => by rw [hq] at h0; cases h0⟩
    wtm_at "E"
    exact fin00 n3
  | none =>
    have e1 : cutOf ss lim = some (fewestOf ss lim) := by unfold cutOf; rw [hq]; rfl
    have hwk := fewest_walk hg hl0 hq
    have hcut := walk_cut _ _ hwk
    have hfl := few_len_le hg lim
    have hnn : fewestOf ss lim ≠ [] := fun e => by
      have := few_pos9 ss lim (blocks ss) 0 0
      unfold fewestOf at e
      rw [e] at this
      simp at this
    have hsh := cut_short _ _ hcut hnn
    rw [e1]
    simp only [optL]
    refine q_when ?_
    wtm_at "E"
    refine q_set ?_
    wtm_at "E"
    refine ⟨ss, lim, rfl, hg, fun h0 => by omega, fun _ f' hf => (by rw [hq] at hf; cases hf), fun _ _ => .inl ?_⟩
    refine q_when (dt_or (dt_test ?_))
    wtm_at "E"
    refine ro_neD (n := 2) (m := 2) (.id _) (.id _) (by simpa [D.shp] using shp_pairs (fewestOf ss lim)) (by simpa [D.shp] using shp_pairs (fewestOf ss lim)) ?_
    rw [eqvD_refl (n := 2) (by simpa [D.shp] using shp_pairs (fewestOf ss lim))]
    wtm_at "E"
    refine ⟨ss, _, fewestOf ss lim, rfl, .lst _, hmost, ?_⟩
    rw [hcut]
    wtm_at "E"
    have hL1 : (((μ.set k (.lst [.int n3])).set hh (.lst (hs.map heldD ++ [heldD (fewestOf ss lim)]))) ++ [MO.lst ((fewestOf ss lim).map pairD)])[((μ.set k (.lst [.int n3])).set hh (.lst (hs.map heldD ++ [heldD (fewestOf ss lim)]))).length]? = some (.lst ((fewestOf ss lim).map pairD)) := mu_last
    refine q_drop (de_bm ?_)
    wtm_at "v"
    refine ⟨ty_list (.own hheld3), da_cons ?_⟩
    wtm_at "E"
    refine rm_app hheld3 (by rw [List.length_map]; omega) ?_
    refine q_set ?_
    wtm_at "E"
    refine ⟨ss, lim, rfl, hg, fun h0 => by omega, fun _ f' hf => (by rw [hq] at hf; cases hf), fun _ _ => .inr ?_⟩
    refine q_drop (de_bm0 ?_)
    wtm_at "v"
    refine ⟨ty_list (.own hL1), rm_pop hL1 (d := pairD ((fewestOf ss lim).getLast hnn)) (by rw [← List.getLast?_eq_getElem?, List.getLast?_map, List.getLast?_eq_some_getLast hnn]; rfl) ?_⟩
    rw [set_last]
    refine ds_ret ?_
    wtm_at "E"
    refine ⟨ss, _, (fewestOf ss lim).dropLast, rfl, .own ?_, hmost, ?_⟩
    · rw [List.map_dropLast]
      exact mu_last
    rw [hsh]
    wtm_at "E"
    have := h n3 (hs ++ [fewestOf ss lim]) (by simp)
    rw [List.map_append] at this
    rw [List.map_singleton] at this
    have hclp : ∀ ps : List (Int × Int), (D.lst (ps.map pairD)).cl μ.length = true := fun ps => by rw [D.cl]; exact clL_map fun x _ => by simp [pairD, D.cl, clL]
    have hclh : ∀ ps : List (Int × Int), (heldD ps).cl μ.length = true := fun ps => by simp only [heldD, D.cl, clL]; have := hclp ps; rw [D.cl] at this; simp [this]
    have hmc : MuCl ((μ.set k (.lst [.int n3])).set hh (.lst (hs.map heldD ++ [heldD (fewestOf ss lim)]))) μ.length := by
      have h1 := hcl n3
      rw [List.length_set] at h1
      refine h1.set ?_
      rw [MO.cl, ← List.map_singleton (f := heldD), ← List.map_append]
      exact clL_map fun x _ => hclh x
    have hl9 : ((μ.set k (.lst [.int n3])).set hh (.lst (hs.map heldD ++ [heldD (fewestOf ss lim)]))).length = μ.length := by simp
    exact ret_same (μ := (μ.set k (.lst [.int n3])).set hh (.lst (hs.map heldD ++ [heldD (fewestOf ss lim)]))) (by rw [hl9]; exact Nat.le_refl _) (by rw [hl9]; exact hmc) rfl this
end
def t_law (K : PySem.W.Frag) (E : XK) : TS :=
    (tSeq (tAsg (tCall (spD K (c_law_state K)) [] E (tCons (tVar 0) (tCons (tC (.int 0)) tNil))) (gName 1))
      (tSeq (tAsg (tCall (spD K (c_law_next K)) [] E (tCons (tVar 1) (tCons (tC (.int 4)) tNil))) (gName 2))
      (tSeq (tAsg (tCall (spD K (c_law_next K)) [] E (tCons (tVar 1) (tCons (tC (.int 60)) tNil))) (gName 3))
      (tSeq (tAsg (tLst (tCons (tCall (spD K (c_law_sections K)) [] E (tCons (tVar 1) (tCons (tOp (rIx K) (tLst (tCons (tC (.int 12)) (tCons (tC (.int 12)) (tCons (tC (.int 60)) tNil)))) (tCall (spD K (c_law_next K)) [] E (tCons (tVar 1) (tCons (tC (.int 3)) tNil)))) tNil))) tNil)) (gName 4))
      (tSeq (tDrop (tBM K "list" rAppend (tVar 4) (tCons (tIf (tTest (tOp (rEqD K) (tVar 2) (tC (.int 0)))) (tCB (rListOf K) (tCons (tOp (rIx K) (tVar 4) (tC (.int 0))) tNil)) (tCall (spD K (c_law_sections K)) [] E (tCons (tCall (spD K (c_law_state K)) [] E (tCons (tVar 0) (tCons (tC (.int 1)) tNil))) (tCons (tC (.int 12)) tNil)))) tNil)))
      (tSeq (tAsg (tCB (rListOf K) (tCons (tOp (rIx K) (tVar 4) (tC (.int 0))) tNil)) (gName 5))
      (tSeq (tAsg (tLst (tCons (tMake (He.ga K "Book") (spD K (c_Book_init K)) [] E (tCons (tVar 5) tNil)) tNil)) (gName 6))
      (tSeq (tAsg (tTup (tCons (tC (.int 5)) (tCons (tC (.bl false)) tNil))) (gSub (tVar 5) (tOp rModA (tVar 3) (tCB (rLen K) (tCons (tVar 5) tNil))) rSetL))
      (tSeq (tDrop (tBM0 K "list" rClear (tVar 5)))
      (tSeq (tDrop (tBM K "list" rExtend (tVar 5) (tCons (tOp (rIx K) (tVar 4) (tC (.int 1))) tNil)))
      (tSeq (tDrop (tBM K "list" rAppend (tVar 6) (tCons (tMake (He.ga K "Book") (spD K (c_Book_init K)) [] E (tCons (tVar 5) tNil)) tNil)))
      (tSeq (tDrop (tBM K "list" rAppend (tVar 5) (tCons (tTup (tCons (tOp (rI CPow fun i j => .int (i ^ j.toNat)) (tC (.int 10)) (tC (.int 12))) (tCons (tC (.bl false)) tNil))) tNil)))
      (tSeq (tAsg (tLst tNil) (gName 7))
      (tSeq (tFor (iRng1 (tCons (tC (.int 30)) tNil)) (gName 8) (tSeq (tAsg (tCall (spD K (c_law_state K)) [] E (tCons (tVar 0) (tCons (tOp (rAddA K) (tC (.int 2)) (tVar 8)) tNil))) (gName 9))
      (tSeq (tAsg (tCall (spD K (c_law_next K)) [] E (tCons (tVar 9) (tCons (tC (.int 2)) tNil))) (gName 10))
      (tIfS (tNot (tTruth K (tCall (spD K (c_law_asked K)) [] E (tCons (tVar 9) (tCons (tOp (rIx K) (tVar 6) (tVar 10)) (tCons (tOp (rIx K) (tVar 4) (tVar 10)) (tCons (tVar 7) tNil))))))) (tRet (tC (.bl false))) tNext))))
      (tRet (tOp (rEqD K) (tLc (iAny K (tVar 7)) (gTup K 2 (gCons (gName 11) (gCons (gName 12) gNil))) (tTest (tOp (rNeD K) (tVar 11) (tVar 12))) (tC (.int 1)) [11, 12]) (tLst tNil)))))))))))))))))
section
variable {K : PySem.W.Frag}
theorem de_bookO {B : Bs} {E : XK} {PX : PXT} {ts : TA} {ρ : En} {μ : Mu} {P : D → Mu → Prop} {ss : List Sec} {c : Nat} (hE : XAg K B PX E) (hg : Good ss) (h : DA K B ts ρ μ fun ds μ1 => ds = [.own c] ∧ μ1[c]? = some (.lst (ss.map secD)) ∧ P (bookD K ss) μ1) : DE K B (tMake (He.ga K "Book") (spD K (c_Book_init K)) [] E ts) ρ μ P := by
  refine de_make hE da_nd ?_
  refine fun σ G H al hB hσ hA Q hQ => h σ G H al hB hσ hA Q fun vs ds μ1 G1 H1 al1 n1 A1 r1 p1 => hQ vs ds μ1 G1 H1 al1 n1 A1 r1 ?_
  obtain ⟨rfl, hc, p⟩ := p1
  refine ⟨_, _, .lst (ss.map secD), rfl, mu_last, .own (mu_old hc), good_dat ss, fun _ xs e => ⟨rfl, [("parts", .lst xs)], ?_, ?_, ?_⟩, fun e => ?_⟩
  · cases e; exact set_last
  · cases e; simp [clF, D.cl]; exact clL_map fun x _ => by simp [secD, D.cl, clL]
  · cases e; exact p
  · exact absurd (good_secs hg) (by rw [e]; simp)
theorem ds_cl {B : Bs} {ρ : En} {μ : Mu} {t : TS} {P : DEnds} (h : MuCl μ μ.length → DS K B t ρ μ P) : DS K B t ρ μ P := fun σ G H al hB hσ hA De hD => h hA.cl σ G H al hB hσ hA De hD
set_option maxHeartbeats 2000000 in
theorem d_law : ∀ ds μ P PX, c_law K ds μ P PX → MuCl μ μ.length → clL ds μ.length = true → ∀ B E, XAg K B (RetX μ.length PX) E → DS K B (t_law K E) (startD ["_law_script", "_law_draw", "_law_same", "_law_at", "_law_both", "_law_handed", "_law_books", "_law_held", "_law_k", "_law_cell", "_law_one", "_law_found", "_law_kept"] ds) μ (fnE μ.length P) := by
  intro ds μ P PX h hm hc B E hE
  obtain ⟨ns, rfl, hl, ⟨t, ht⟩, h⟩ := h
  have fin : ∀ μ', μ.length ≤ μ'.length → MuCl μ' μ'.length → Ret μ.length P (.bl true) μ' := fun μ' h1 h2 => ret_same0 h1 h2 rfl (h μ')
  have ht1 := (List.getElem?_eq_some_iff.mp ht).1
  show DS K B _ [some (.rdl (ns.map D.int)), none, none, none, none, none, none, none, none, none, none, none, none] μ _
  unfold t_law
  refine q_set ?_
  wtm_at "E"
  refine ⟨ns, 0, rfl, by omega, by omega, fun n => ?_⟩
  have hk0 : (μ ++ [MO.lst [.int n]])[μ.length]? = some (.lst [.int n]) := mu_last
  have ht0 : (μ ++ [MO.lst [.int n]])[t]? = some (tabA K) := mu_old ht
  have hνl : (μ ++ [MO.lst [.int n]]).length = μ.length + 1 := by simp
  generalize μ ++ [MO.lst [.int n]] = ν at hk0 ht0 hνl
  generalize μ.length = a at *
  have hset : ∀ z : Int, (ν.set a (.lst [.int z]))[a]? = some (.lst [.int z]) := fun z => set_get hk0
  have htab : ∀ z : Int, (ν.set a (.lst [.int z]))[t]? = some (tabA K) := fun z => by rw [List.getElem?_set_ne (by omega)]; exact ht0
  have hlen : ∀ z : Int, (ν.set a (.lst [.int z])).length = a + 1 := fun z => by rw [List.length_set]; exact hνl
  refine q_set ?_
  wtm_at "E"
  refine ⟨a, n, 4, rfl, hk0, by omega, by omega, fun same n1 s0 s1 => ?_⟩
  refine q_set ?_
  wtm_at "E"
  refine ⟨a, n1, 60, rfl, hset _, by omega, by omega, fun at_ n2 at0 at1 => ?_⟩
  rw [set_set']
  refine q_set (de_lstOZ (da_cons (de_call hE ?_)))
  wtm_at "E"
  refine de_lstZ ?_
  wtm_at "E"
  refine ⟨a, n2, 3, rfl, hset _, by omega, by omega, fun r n3 r0 r1 => ?_⟩
  rw [set_set']
  obtain ⟨m, hm1, hm2, hm3⟩ : ∃ m : Int, atI [D.int 12, .int 12, .int 60] r = some (.int m) ∧ 1 ≤ m ∧ m ≤ 60 := by
    have : r = 0 ∨ r = 1 ∨ r = 2 := by omega
    rcases this with rfl | rfl | rfl <;> exact ⟨_, rfl, by decide, by decide⟩
  refine ro_ixL (.lst _) hm1 ?_
  wtm_at "E"
  refine ⟨a, n3, m, rfl, hset _, hm2, hm3, fun ss0 n4 hg0 _ => .inl ?_⟩
  rw [set_set']
  refine da_nil ⟨by unfold Sz; simp, ?_⟩
  rw [hlen]
  have hb0 : (ν.set a (.lst [.int n4]) ++ [MO.lst [secsD ss0]])[a + 1]? = some (.lst [secsD ss0]) := by rw [← hlen n4]; exact mu_last
  have ht2 : (ν.set a (.lst [.int n4]) ++ [MO.lst [secsD ss0]])[t]? = some (tabA K) := mu_old (htab n4)
  have hl2 : (ν.set a (.lst [.int n4]) ++ [MO.lst [secsD ss0]]).length = a + 2 := by simp [hνl]
  change DS K B _ _ (ν.set a (.lst [.int n4]) ++ [MO.lst [secsD ss0]]) _
  generalize ν.set a (.lst [.int n4]) ++ [MO.lst [secsD ss0]] = ξ at hb0 ht2 hl2 ⊢
  clear hset htab hlen hk0 ht0 hνl
  refine ds_cut (M := fun ρ' μ' => ∃ ss1 : List Sec, Good ss1 ∧ ρ' = [some (.rdl (ns.map D.int)), some (.own a), some (.int same), some (.int at_), some (.own (a + 1)), none, none, none, none, none, none, none, none] ∧ μ'[t]? = some (tabA K) ∧ μ'[a + 1]? = some (.lst [secsD ss0, secsD ss1]) ∧ a + 2 ≤ μ'.length) ?_ ?_
  · refine ds_drop (de_bm ?_)
    wtm_at "v"
    refine ⟨ty_list (.own hb0), da_cons (de_if ?_)⟩
    wtm_at "E"
    · refine ro_ixL (.own hb0) rfl ?_
      refine da_nil (rc_list (.lst _) ?_)
      refine da_nil (rm_app hb0 (by simp) ?_)
      refine ⟨ss0, hg0, rfl, ?_, set_get hb0, by rw [List.length_set]; omega⟩
      rw [List.getElem?_set_ne (by omega)]
      exact ht2
    · refine ⟨ns, 1, rfl, by omega, by omega, fun z => ?_⟩
      wtm_at "E"
      refine ⟨ξ.length, z, 12, rfl, mu_last, by omega, by omega, fun ss1 z' hg1 _ => .inl ?_⟩
      rw [set_last]
      refine da_nil (rm_app (mu_old hb0) (by simp) ?_)
      have ht9 : (ξ ++ [MO.lst [.int z']])[t]? = some (tabA K) := mu_old ht2
      refine ⟨ss1, hg1, rfl, ?_, set_get (mu_old hb0), by rw [List.length_set]; simp; omega⟩
      rw [List.getElem?_set_ne (by omega)]
      exact ht9
  rintro ρ1 μ1 ⟨ss1, hg1, rfl, ht3, hb1, hl3⟩
  clear hb0 ht2 hl2 hm1 hm2 hm3
  have hp0 := hg0.pos
  have hp1 := hg1.pos
  have hq0 := hg0.most
  have hq1 := hg1.most
  refine q_set (de_cb (da_cons ?_))
  wtm_at "E"
  refine ro_ixL (.own hb1) rfl ?_
  refine da_nil (rc_listO (.lst _) ?_)
  have hc1 : (μ1 ++ [MO.lst (ss0.map secD)])[μ1.length]? = some (.lst (ss0.map secD)) := mu_last
  have ht4 : (μ1 ++ [MO.lst (ss0.map secD)])[t]? = some (tabA K) := mu_old ht3
  have hb2 : (μ1 ++ [MO.lst (ss0.map secD)])[a + 1]? = some (.lst [secsD ss0, secsD ss1]) := mu_old hb1
  have hl4 : (μ1 ++ [MO.lst (ss0.map secD)]).length = μ1.length + 1 := by simp
  generalize μ1 ++ [MO.lst (ss0.map secD)] = μ2 at hc1 ht4 hb2 hl4 ⊢
  generalize μ1.length = c at hc1 hl4 hl3 ⊢
  clear ht3 hb1
  refine q_set (de_lstOZ (da_cons (de_bookO (c := c) hE hg0 ?_)))
  wtm_at "E"
  refine ⟨rfl, hc1, ?_⟩
  refine da_nil ⟨by unfold Sz; simp, ?_⟩
  have hd1 : (μ2 ++ [MO.lst [bookD K ss0]])[c + 1]? = some (.lst [bookD K ss0]) := by rw [← hl4]; exact mu_last
  have hc2 : (μ2 ++ [MO.lst [bookD K ss0]])[c]? = some (.lst (ss0.map secD)) := mu_old hc1
  have ht5 : (μ2 ++ [MO.lst [bookD K ss0]])[t]? = some (tabA K) := mu_old ht4
  have hb3 : (μ2 ++ [MO.lst [bookD K ss0]])[a + 1]? = some (.lst [secsD ss0, secsD ss1]) := mu_old hb2
  have hl5 : (μ2 ++ [MO.lst [bookD K ss0]]).length = c + 2 := by simp [hl4]
  rw [hl4]
  generalize μ2 ++ [MO.lst [bookD K ss0]] = μ3 at hd1 hc2 ht5 hb3 hl5 ⊢
  clear hc1 ht4 hb2 hl4
  -- the handed list is changed
  refine q_asg ?_
  wtm_at "E"
  rw [List.length_map]
  obtain ⟨j, hj1, hj2⟩ : ∃ j : Nat, at_ % (ss0.length : Int) = (j : Int) ∧ j < ss0.length := by
    have h1 := Int.emod_nonneg at_ (show (ss0.length : Int) ≠ 0 by omega)
    have h2 := Int.emod_lt_of_pos at_ (show (0 : Int) < (ss0.length : Int) by omega)
    exact ⟨(at_ % (ss0.length : Int)).toNat, by omega, by omega⟩
  refine ro_mod (by omega) ?_
  rw [hj1]
  refine rset_lst hc2 (j := j) (by unfold ixN; simp; omega) ?_
  have hc3 : ∀ o : MO, (μ3.set c o)[c]? = some o := fun o => set_get hc2
  refine q_drop (de_bm0 ?_)
  wtm_at "v"
  refine ⟨ty_list (.own (hc3 _)), rm_clear (hc3 _) ?_⟩
  rw [set_set']
  have hb4 : ∀ o : MO, (μ3.set c o)[a + 1]? = some (.lst [secsD ss0, secsD ss1]) := fun o => by rw [List.getElem?_set_ne (by omega)]; exact hb3
  refine q_drop (de_bm ?_)
  wtm_at "v"
  refine ⟨ty_list (.own (hc3 _)), da_cons ?_⟩
  wtm_at "E"
  refine ro_ixL (.own (hb4 _)) rfl ?_
  refine da_nil (rm_extend (hc3 _) (.lst _) (by simp; omega) ?_)
  rw [set_set', List.nil_append]
  have hd4 : ∀ o : MO, (μ3.set c o)[c + 1]? = some (.lst [bookD K ss0]) := fun o => by rw [List.getElem?_set_ne (by omega)]; exact hd1
  refine q_drop (de_bm ?_)
  wtm_at "v"
  refine ⟨ty_list (.own (hd4 _)), da_cons (de_bookO (c := c) hE hg1 ?_)⟩
  wtm_at "E"
  refine ⟨rfl, hc3 _, ?_⟩
  refine da_nil (rm_app (hd4 _) (by simp) ?_)
  refine q_drop (de_bm ?_)
  wtm_at "v"
  have hc5 : ∀ o o' : MO, ((μ3.set c o).set (c + 1) o')[c]? = some o := fun o o' => by rw [List.getElem?_set_ne (by omega)]; exact hc3 o
  refine ⟨ty_list (.own (hc5 _ _)), da_cons ?_⟩
  wtm_at "E"
  refine rm_app (hc5 _ _) (by rw [List.length_map]; omega) ?_
  refine q_set (de_lstOZ ?_)
  wtm_at "E"
  obtain ⟨μ5, hμ5⟩ : ∃ μ5 : Mu, μ5 = ((μ3.set c (.lst (ss1.map secD))).set (c + 1) (.lst ([bookD K ss0] ++ [bookD K ss1]))).set c (.lst (ss1.map secD ++ [.tup [.int (10 ^ Int.toNat 12), .bl false]])) ++ [MO.lst []] := ⟨_, rfl⟩
  have hl9 : (((μ3.set c (.lst (ss1.map secD))).set (c + 1) (.lst ([bookD K ss0] ++ [bookD K ss1]))).set c (.lst (ss1.map secD ++ [.tup [.int (10 ^ Int.toNat 12), .bl false]]))).length = c + 2 := by simp [hl5]
  have t5 : μ5[t]? = some (tabA K) := by
    rw [hμ5]
    refine mu_old ?_
    rw [List.getElem?_set_ne (by omega), List.getElem?_set_ne (by omega), List.getElem?_set_ne (by omega)]
    exact ht5
  have b5 : μ5[a + 1]? = some (.lst [secsD ss0, secsD ss1]) := by
    rw [hμ5]
    refine mu_old ?_
    rw [List.getElem?_set_ne (by omega), List.getElem?_set_ne (by omega), List.getElem?_set_ne (by omega)]
    exact hb3
  have d5 : μ5[c + 1]? = some (.lst [bookD K ss0, bookD K ss1]) := by
    rw [hμ5]
    refine mu_old ?_
    rw [List.getElem?_set_ne (by omega)]
    exact set_get (hd4 _)
  have e5 : μ5[c + 2]? = some (.lst ((([] : List (List (Int × Int))).map heldD))) := by rw [hμ5, ← hl9]; exact mu_last
  have l5 : μ5.length = c + 3 := by rw [hμ5, List.length_append, hl9]; rfl
  rw [hl9]
  change DS K B _ _ (((μ3.set c (.lst (ss1.map secD))).set (c + 1) (.lst ([bookD K ss0] ++ [bookD K ss1]))).set c (.lst (ss1.map secD ++ [.tup [.int (10 ^ Int.toNat 12), .bl false]])) ++ [MO.lst []]) _
  rw [← hμ5]
  clear hμ5 hl9 hd4 hc5 hc3 hb4 hd1 hc2 ht5 hb3 hl5
  refine q_for ?_
  wtm_at "E"
  refine ⟨by omega, by omega, fun i ρ' μ' => ∃ (hs : List (List (Int × Int))) (y8 y9 y10 : Option D), μ'[t]? = some (tabA K) ∧ μ'[a + 1]? = some (.lst [secsD ss0, secsD ss1]) ∧ μ'[c + 1]? = some (.lst [bookD K ss0, bookD K ss1]) ∧ μ'[c + 2]? = some (.lst (hs.map heldD)) ∧ hs.length ≤ i ∧ c + 3 ≤ μ'.length ∧ ρ' = [some (.rdl (ns.map D.int)), some (.own a), some (.int same), some (.int at_), some (.own (a + 1)), some (.own c), some (.own (c + 1)), some (.own (c + 2)), y8, y9, y10, none, none], ⟨[], _, _, _, t5, b5, d5, e5, by simp, by omega, rfl⟩, fun _ _ _ _ _ => trivial, ?_, ?_⟩
  · clear t5 b5 d5 e5 l5
    rintro i d ρ' μ' hi ⟨hs, y8, y9, y10, t5, b5, d5, e5, hsl, l5, rfl⟩
    obtain ⟨hi, rfl⟩ := rangeD_some hi
    refine dg_name ?_
    refine q_set ?_
    wtm_at "E"
    refine ⟨ns, 2 + (0 + (i : Int)), rfl, by omega, by omega, fun z => ?_⟩
    refine q_set ?_
    wtm_at "E"
    refine ⟨μ'.length, z, 2, rfl, mu_last, by omega, by omega, fun one z' o0 o1 => ?_⟩
    rw [set_last]
    obtain ⟨ss, hg, hat1, hat2⟩ : ∃ ss, Good ss ∧ atI [bookD K ss0, bookD K ss1] one = some (bookD K ss) ∧ atI [secsD ss0, secsD ss1] one = some (secsD ss) := by
      have : one = 0 ∨ one = 1 := by omega
      rcases this with rfl | rfl
      · exact ⟨ss0, hg0, rfl, rfl⟩
      · exact ⟨ss1, hg1, rfl, rfl⟩
    refine ds_if (dt_not (dt_truth (de_call hE ?_)))
    wtm_at "E"
    refine ro_ixL (.own (mu_old d5)) hat1 ?_
    wtm_at "E"
    refine ro_ixL (.own (mu_old b5)) hat2 ?_
    wtm_at "E"
    refine ⟨μ'.length, z', ss, c + 2, hs, rfl, mu_last, hg, mu_old e5, by omega, by omega, ⟨t, mu_old t5⟩, fun n' hs' hl' => ?_⟩
    rw [set_last]
    wtm_at "E"
    refine ds_next ?_
    refine ⟨hs', _, _, _, ?_, ?_, ?_, set_get (mu_old e5), by omega, by simp; omega, rfl⟩
    · rw [List.getElem?_set_ne (by omega)]; exact mu_old t5
    · rw [List.getElem?_set_ne (by omega)]; exact mu_old b5
    · rw [List.getElem?_set_ne (by omega)]; exact mu_old d5
  rintro ρ' μ' ⟨hs, y8, y9, y10, t6, b6, d6, e6, hsl, l6, rfl⟩
  rw [rangeD_length] at hsl
  refine ds_cl fun hmc => ?_
  refine ds_ret (de_op ?_)
  refine lc_filt (fun _ => false) (fun _ => .int 1) (gw_tup (gws_cons (i := 11) (vs := [11, 12]) (by simp) (gws_cons (i := 12) (by simp) gws_nil))) ?_
  refine di_any ?_
  wtm_at "v"
  refine ⟨_, _, .own e6, e6, by rw [List.length_map]; omega, fun j d hj => ?_, fun out ho => ?_⟩
  · obtain ⟨ps, _, rfl⟩ := List.mem_map.mp (List.mem_of_getElem? hj)
    unfold heldD
    wtm_at "E"
    refine ⟨rfl, dt_test ?_⟩
    wtm_at "E"
    refine ro_neD (n := 2) (m := 2) (.id _) (.id _) (by simpa [D.shp] using shp_pairs ps) (by simpa [D.shp] using shp_pairs ps) ?_
    rw [eqvD_refl (n := 2) (by simpa [D.shp] using shp_pairs ps)]
    exact ⟨_, rfl, rfl, rfl, fun z => nomatch z⟩
  have : out = [] := by rw [← ho]; simp
  subst this
  refine de_lstZ ?_
  wtm_at "E"
  refine ro_eqNil (n := 1) (.id _) rfl ?_
  exact fin _ (by omega) hmc
end
local macro_rules | `(tactic| wtm_at "ln") => `(tactic| (intro ds μ P PX h; first | (obtain ⟨_, e, _⟩ := h; exact congrArg List.length e) | (obtain ⟨_, _, e, _⟩ := h; exact congrArg List.length e) | (obtain ⟨_, _, _, e, _⟩ := h; exact congrArg List.length e) | (obtain ⟨_, _, _, _, e, _⟩ := h; exact congrArg List.length e) | (obtain ⟨_, _, _, _, _, e, _⟩ := h; exact congrArg List.length e) | (obtain ⟨_, _, _, _, _, _, e, _⟩ := h; exact congrArg List.length e) | (obtain ⟨_, _, _, _, _, _, _, e, _⟩ := h; exact congrArg List.length e) | (obtain ⟨_, _, _, _, _, _, _, _, e, _⟩ := h; exact congrArg List.length e) | (obtain ⟨_, _, _, _, _, _, _, _, _, e, _⟩ := h; exact congrArg List.length e) | (obtain ⟨_, _, _, _, _, _, _, _, _, _, e, _⟩ := h; exact congrArg List.length e) | (obtain ⟨_, _, _, _, _, _, _, _, _, _, _, e, _⟩ := h; exact congrArg List.length e) | (obtain ⟨_, _, _, _, _, _, _, _, _, _, _, _, e, _⟩ := h; exact congrArg List.length e) | (obtain ⟨_, _, _, _, _, _, _, _, _, _, _, _, _, e, _⟩ := h; exact congrArg List.length e) | (obtain ⟨_, _, _, _, _, _, _, _, _, _, _, _, _, _, e, _⟩ := h; exact congrArg List.length e)))
local macro_rules | `(tactic| wtm_at "oi") => `(tactic| first | exact Or.inl rfl | exact Or.inr rfl)
abbrev GD (K : PySem.W.Frag) (a b : Str) (s : Stmt) (f : Addr) (fd : FuncData) : Prop := FunD K a b (defArgs s) (defBody s) (defScope s) [] [] f fd
section
variable {P : Program} {w : World} {K : PySem.W.Frag} {mg : Str → Option Value} {base : Heap}
set_option maxHeartbeats 1000000
variable {f_Book_blocks f_Book_init f_Book_long f_Book_many f_Book_sections f_TooTight_init f_are_sections f_fewest f_first_too_long f_is_cut f_is_number f_is_section f_law_asked f_law_blocks f_law_cut f_law_limit f_law_lists f_law_long f_law_next f_law_pick f_law_sections f_law_state f_law_tried f_law_word f_least_limit f_longest_block : Addr} {fd_Book_blocks fd_Book_init fd_Book_long fd_Book_many fd_Book_sections fd_TooTight_init fd_are_sections fd_fewest fd_first_too_long fd_is_cut fd_is_number fd_is_section fd_law_asked fd_law_blocks fd_law_cut fd_law_limit fd_law_lists fd_law_long fd_law_next fd_law_pick fd_law_sections fd_law_state fd_law_tried fd_law_word fd_least_limit fd_longest_block : FuncData}
local macro_rules | `(tactic| wtm_at "pk") => `(tactic| exact passes_call (takes_of rfl rfl rfl rfl) (fun _ _ _ _ h => h))
local macro_rules | `(tactic| wtm_at "sn") => `(tactic| exact ⟨rfl, rfl, rfl, by decide +kernel, rfl, by decide +kernel, by decide +kernel⟩)
/-! ### the text, def by def -/
abbrev N_law_state : List Str := ["_law_script", "_law_k", "_law_cell", "_law_found", "_law_j", "_law_one"]
theorem sc_law_state : FnScope N_law_state ["_law_script", "_law_k"] (defScope s_law_state) := by wtm_at "sn"
theorem ok_law_state {f : Addr} {fd : FuncData}  (F : GD K "_law_state" "_law_state" s_law_state f fd) (n_len : mg "len" = none) (n_range : mg "range" = none) :
    FnOk P w K mg base (L2.CX P w) 1 f fd ["_law_script", "_law_k"] (spD K (c_law_state K)) :=
  fn_DD (t := t_law_state K) F sc_law_state (by wtm_at "ln") (by decide)
    (fun cdv A outer s H E hr => by exact
      (pss_cons (ps_set (i := 2) sc_law_state.nd rfl (by wtm_at "oi") (pe_ifExp (pt_cmpR op_lt (pv 1) (pe_callB call_len (by rfl) n_len (by decide +kernel) (pa_cons (pv 0) pa_nil)) (nomark _)) (pe_ix ix_seq (pv 0) (pv 1) (fun _ _ => rfl)) (pe_op op_mulA pe_int (pv 1))))
      (pss_cons (ps_if (pt_cmpR op_ge (pv 2) (pe_op op_pow pe_int pe_int) (nomark _)) (pss_one (ps_ret (pe_lst (pa_cons (pe_op op_sub (pv 2) (pe_op op_pow pe_int pe_int)) pa_nil)))) pss_nil)
      (pss_cons (ps_set (i := 3) sc_law_state.nd rfl (by wtm_at "oi") pe_int)
      (pss_cons (ps_for (passes_of rfl) rfl (pi_range1 (by rfl) n_range (pa_cons pe_int pa_nil)) (pg_name (i := 4) sc_law_state.nd rfl (by wtm_at "oi")) (pss_cons (ps_set (i := 5) sc_law_state.nd rfl (by wtm_at "oi") (pe_op op_modA (pe_op op_mulA (pe_op op_addA (pv 2) (pe_op op_mulA pe_int (pe_op op_addA (pe_op op_addA (pe_op op_mulA pe_int (pv 1)) (pv 4)) pe_int))) pe_int) pe_int))
      (pss_one (ps_set (i := 3) sc_law_state.nd rfl (by wtm_at "oi") (pe_op op_addA (pe_op op_mulA (pv 3) pe_int) (pe_op op_modA (pe_op op_mulA (pv 5) (pe_op op_addA (pe_op op_addA (pv 5) (pe_op op_mulA pe_int (pv 4))) pe_int)) pe_int))))))
      (pss_one (ps_ret (pe_lst (pa_cons (pv 3) pa_nil)))))))))
    (d_law_state)
abbrev N_law_next : List Str := ["_law_draw", "_law_amount", "_law_found"]
theorem sc_law_next : FnScope N_law_next ["_law_draw", "_law_amount"] (defScope s_law_next) := by wtm_at "sn"
theorem ok_law_next {f : Addr} {fd : FuncData}  (F : GD K "_law_next" "_law_next" s_law_next f fd)  :
    FnOk P w K mg base (L2.CX P w) 1 f fd ["_law_draw", "_law_amount"] (spD K (c_law_next K)) :=
  fn_DD (t := t_law_next K) F sc_law_next (by wtm_at "ln") (by decide)
    (fun cdv A outer s H E hr => by exact
      (pss_cons (ps_set (i := 2) sc_law_next.nd rfl (by wtm_at "oi") (pe_op op_modA (pe_ix ix_seq (pv 0) pe_int (fun _ _ => rfl)) (pv 1)))
      (pss_cons (ps_asg (pe_op op_fdivA (pe_ix ix_seq (pv 0) pe_int (fun _ _ => rfl)) (pv 1)) (pg_sub (pv 0) pe_int set_list))
      (pss_one (ps_ret (pv 2))))))
    (d_law_next)
abbrev N_law_pick : List Str := ["_law_draw", "_law_some"]
theorem sc_law_pick : FnScope N_law_pick ["_law_draw", "_law_some"] (defScope s_law_pick) := by wtm_at "sn"
theorem ok_law_pick {f : Addr} {fd : FuncData} (F : GD K "_law_pick" "_law_pick" s_law_pick f fd) (F_law_next : FnOk P w K mg base (L2.CX P w) 1 f_law_next fd_law_next ["_law_draw", "_law_amount"] (spD K (c_law_next K))) (B_law_next : Binds K fd_law_next ["_law_draw", "_law_amount"] []) (m_law_next : mg "_law_next" = some (.ref f_law_next)) (k_law_next : PySem.W.keepIn K (.ref f_law_next) = true) (n_len : mg "len" = none) :
    FnOk P w K mg base (L2.CX P w) 2 f fd ["_law_draw", "_law_some"] (spD K (c_law_pick K)) :=
  fn_DD (t := t_law_pick K) F sc_law_pick (by wtm_at "ln") (by decide)
    (fun cdv A outer s H E hr => by exact
      (pss_one (ps_ret (pe_ix ix_seq (pv 1) (pe_call F_law_next (hr.mono (by decide)) (by rfl) m_law_next k_law_next B_law_next .nil (by wtm_at "pk") (pa_cons (pv 0) (pa_cons (pe_callB call_len (by rfl) n_len (by decide +kernel) (pa_cons (pv 1) pa_nil)) pa_nil))) (fun _ _ => rfl)))))
    (d_law_pick)
abbrev N_law_sections : List Str := ["_law_draw", "_law_most", "_law_size", "_law_top", "_law_share", "_law_many", "_law_found", "_law_k", "_law_at"]
theorem sc_law_sections : FnScope N_law_sections ["_law_draw", "_law_most"] (defScope s_law_sections) := by wtm_at "sn"
theorem ok_law_sections {f : Addr} {fd : FuncData} (F : GD K "_law_sections" "_law_sections" s_law_sections f fd) (F_law_pick : FnOk P w K mg base (L2.CX P w) 2 f_law_pick fd_law_pick ["_law_draw", "_law_some"] (spD K (c_law_pick K))) (B_law_pick : Binds K fd_law_pick ["_law_draw", "_law_some"] []) (m_law_pick : mg "_law_pick" = some (.ref f_law_pick)) (k_law_pick : PySem.W.keepIn K (.ref f_law_pick) = true) (F_law_next : FnOk P w K mg base (L2.CX P w) 1 f_law_next fd_law_next ["_law_draw", "_law_amount"] (spD K (c_law_next K))) (B_law_next : Binds K fd_law_next ["_law_draw", "_law_amount"] []) (m_law_next : mg "_law_next" = some (.ref f_law_next)) (k_law_next : PySem.W.keepIn K (.ref f_law_next) = true) (n_range : mg "range" = none) :
    FnOk P w K mg base (L2.CX P w) 3 f fd ["_law_draw", "_law_most"] (spD K (c_law_sections K)) :=
  fn_DD (t := t_law_sections K) F sc_law_sections (by wtm_at "ln") (by decide)
    (fun cdv A outer s H E hr => by exact
      (pss_cons (ps_set (i := 2) sc_law_sections.nd rfl (by wtm_at "oi") (pe_call F_law_pick (hr.mono (by decide)) (by rfl) m_law_pick k_law_pick B_law_pick .nil (by wtm_at "pk") (pa_cons (pv 0) (pa_cons (pe_lst (pa_cons pe_int (pa_cons pe_int (pa_cons pe_int (pa_cons (pv 1) (pa_cons (pv 1) pa_nil)))))) pa_nil))))
      (pss_cons (ps_set (i := 3) sc_law_sections.nd rfl (by wtm_at "oi") (pe_call F_law_pick (hr.mono (by decide)) (by rfl) m_law_pick k_law_pick B_law_pick .nil (by wtm_at "pk") (pa_cons (pv 0) (pa_cons (pe_lst (pa_cons pe_int (pa_cons pe_int (pa_cons pe_int (pa_cons pe_int (pa_cons (pe_op op_pow pe_int pe_int) pa_nil)))))) pa_nil))))
      (pss_cons (ps_set (i := 4) sc_law_sections.nd rfl (by wtm_at "oi") (pe_call F_law_pick (hr.mono (by decide)) (by rfl) m_law_pick k_law_pick B_law_pick .nil (by wtm_at "pk") (pa_cons (pv 0) (pa_cons (pe_lst (pa_cons pe_int (pa_cons pe_int (pa_cons pe_int (pa_cons pe_int pa_nil))))) pa_nil))))
      (pss_cons (ps_set (i := 5) sc_law_sections.nd rfl (by wtm_at "oi") (pe_op op_addA pe_int (pe_call F_law_next (hr.mono (by decide)) (by rfl) m_law_next k_law_next B_law_next .nil (by wtm_at "pk") (pa_cons (pv 0) (pa_cons (pv 2) pa_nil)))))
      (pss_cons (ps_if (PW.pt (pw_and (pt_cmpR (op_eqD hr.units) (pv 2) (pv 1) (nomark _)) (pw_and1 (pt_cmpR (op_eqD hr.units) (pe_op op_modA (pv 5) pe_int) pe_int (nomark _))))) (pss_one (ps_set (i := 5) sc_law_sections.nd rfl (by wtm_at "oi") (pv 1))) pss_nil)
      (pss_cons (ps_set (i := 6) sc_law_sections.nd rfl (by wtm_at "oi") (pe_lst pa_nil))
      (pss_cons (ps_for (passes_of rfl) rfl (pi_range1 (by rfl) n_range (pa_cons (pv 5) pa_nil)) (pg_name (i := 7) sc_law_sections.nd rfl (by wtm_at "oi")) (pss_one (ps_expr (pe_bm PySem.F.plainAttrs_list PySem.F.slot_list_append PySem.F.type_list_append mt_append (pv 6) (pa_cons (pe_tup (pa_cons (pe_op op_addA pe_int (pe_call F_law_next (hr.mono (by decide)) (by rfl) m_law_next k_law_next B_law_next .nil (by wtm_at "pk") (pa_cons (pv 0) (pa_cons (pv 3) pa_nil)))) (pa_cons (pe_cmpR op_lt (pe_call F_law_next (hr.mono (by decide)) (by rfl) m_law_next k_law_next B_law_next .nil (by wtm_at "pk") (pa_cons (pv 0) (pa_cons pe_int pa_nil))) (pv 4) (nomark _)) pa_nil))) pa_nil)))))
      (pss_cons (ps_if (PW.pt (pw_and (pt_cmpR (op_eqD hr.units) (pv 3) (pe_op op_pow pe_int pe_int) (nomark _)) (pw_and1 (pt_cmpR (op_eqD hr.units) (pe_call F_law_next (hr.mono (by decide)) (by rfl) m_law_next k_law_next B_law_next .nil (by wtm_at "pk") (pa_cons (pv 0) (pa_cons pe_int pa_nil))) pe_int (nomark _))))) (pss_cons (ps_set (i := 8) sc_law_sections.nd rfl (by wtm_at "oi") (pe_call F_law_next (hr.mono (by decide)) (by rfl) m_law_next k_law_next B_law_next .nil (by wtm_at "pk") (pa_cons (pv 0) (pa_cons (pv 5) pa_nil))))
      (pss_one (ps_asg (pe_tup (pa_cons (pv 3) (pa_cons (pe_ix ix_seq (pe_ix ix_seq (pv 6) (pv 8) (fun _ _ => rfl)) pe_int (fun _ _ => rfl)) pa_nil))) (pg_sub (pv 6) (pv 8) set_list)))) pss_nil)
      (pss_cons (ps_asg (pe_tup (pa_cons (pe_ix ix_seq (pe_ix ix_seq (pv 6) (pe_un un_neg pe_int) (fun _ _ => rfl)) pe_int (fun _ _ => rfl)) (pa_cons pe_bl pa_nil))) (pg_sub (pv 6) (pe_un un_neg pe_int) set_list))
      (pss_one (ps_ret (pv 6)))))))))))))
    (d_law_sections)
abbrev N_is_number : List Str := ["thing", "least", "most"]
theorem sc_is_number : FnScope N_is_number ["thing", "least", "most"] (defScope s_is_number) := by wtm_at "sn"
theorem ok_is_number {f : Addr} {fd : FuncData}  (F : GD K "is_number" "is_number" s_is_number f fd) (n_int : mg "int" = none) (n_isinstance : mg "isinstance" = none) (n_bool : mg "bool" = none) :
    FnOk P w K mg base (L2.CX P w) 1 f fd ["thing", "least", "most"] (spD K (c_is_number K)) :=
  fn_DD (t := t_is_number K) F sc_is_number (by wtm_at "ln") (by decide)
    (fun cdv A outer s H E hr => by exact
      (pss_one (ps_ret (pe_and (pe_callB call_isi (by rfl) n_isinstance (by decide +kernel) (pa_cons (pv 0) (pa_cons (pe_bltn (v := .ty "int") (by rfl) n_int (by decide +kernel) rfl) pa_nil))) (pe_and (pe_not (pe_callB call_isi (by rfl) n_isinstance (by decide +kernel) (pa_cons (pv 0) (pa_cons (pe_bltn (v := .ty "bool") (by rfl) n_bool (by decide +kernel) rfl) pa_nil)))) (pe_one (pe_chain op_le op_le (pv 1) (pv 0) (pv 2))))))))
    (d_is_number)
abbrev N_is_section : List Str := ["thing"]
theorem sc_is_section : FnScope N_is_section ["thing"] (defScope s_is_section) := by wtm_at "sn"
theorem ok_is_section {f : Addr} {fd : FuncData} (F : GD K "is_section" "is_section" s_is_section f fd) (F_is_number : FnOk P w K mg base (L2.CX P w) 1 f_is_number fd_is_number ["thing", "least", "most"] (spD K (c_is_number K))) (B_is_number : Binds K fd_is_number ["thing", "least", "most"] []) (m_is_number : mg "is_number" = some (.ref f_is_number)) (k_is_number : PySem.W.keepIn K (.ref f_is_number) = true) (n_tuple : mg "tuple" = none) (n_isinstance : mg "isinstance" = none) (n_len : mg "len" = none) (n_bool : mg "bool" = none) (k_LONGEST : ∃ t, mg "LONGEST" = some (.int 1000000000000 t)) :
    FnOk P w K mg base (L2.CX P w) 2 f fd ["thing"] (spD K (c_is_section K)) :=
  fn_DD (t := t_is_section K) F sc_is_section (by wtm_at "ln") (by decide)
    (fun cdv A outer s H E hr => by exact
      (pss_cons (ps_if (PW.pt (pw_or (pt_not (pt_truth (pe_callB call_isi (by rfl) n_isinstance (by decide +kernel) (pa_cons (pv 0) (pa_cons (pe_bltn (v := .ty "tuple") (by rfl) n_tuple (by decide +kernel) rfl) pa_nil))) (by intro _; rfl))) (pw_or (pt_cmpR (op_neD hr.units) (pe_callB call_len (by rfl) n_len (by decide +kernel) (pa_cons (pv 0) pa_nil)) pe_int (nomark _)) (pw_or1 (pt_not (pt_truth (pe_callB call_isi (by rfl) n_isinstance (by decide +kernel) (pa_cons (pe_ix ix_seq (pv 0) pe_int (fun _ _ => rfl)) (pa_cons (pe_bltn (v := .ty "bool") (by rfl) n_bool (by decide +kernel) rfl) pa_nil))) (by intro _; rfl))))))) (pss_one (ps_ret pe_bl)) pss_nil)
      (pss_one (ps_ret (pe_call F_is_number (hr.mono (by decide)) (by rfl) m_is_number k_is_number B_is_number .nil (by wtm_at "pk") (pa_cons (pe_ix ix_seq (pv 0) pe_int (fun _ _ => rfl)) (pa_cons pe_int (pa_cons (pe_glob (v := .int 1000000000000) (by rfl) k_LONGEST.choose_spec ⟨_, rfl⟩) pa_nil))))))))
    (d_is_section)
abbrev N_are_sections : List Str := ["thing", "one"]
theorem sc_are_sections : FnScope N_are_sections ["thing"] (defScope s_are_sections) := by wtm_at "sn"
theorem ok_are_sections {f : Addr} {fd : FuncData} (F : GD K "are_sections" "are_sections" s_are_sections f fd) (F_is_section : FnOk P w K mg base (L2.CX P w) 2 f_is_section fd_is_section ["thing"] (spD K (c_is_section K))) (B_is_section : Binds K fd_is_section ["thing"] []) (m_is_section : mg "is_section" = some (.ref f_is_section)) (k_is_section : PySem.W.keepIn K (.ref f_is_section) = true) (n_list : mg "list" = none) (n_isinstance : mg "isinstance" = none) (n_len : mg "len" = none) (k_MOST_SECTIONS : ∃ t, mg "MOST_SECTIONS" = some (.int 60 t)) (n_all : mg "all" = none) :
    FnOk P w K mg base (L2.CX P w) 3 f fd ["thing"] (spD K (c_are_sections K)) :=
  fn_DD (t := t_are_sections K) F sc_are_sections (by wtm_at "ln") (by decide)
    (fun cdv A outer s H E hr => by exact
      (pss_cons (ps_if (PW.pt (pw_or (pt_not (pt_truth (pe_callB call_isi (by rfl) n_isinstance (by decide +kernel) (pa_cons (pv 0) (pa_cons (pe_bltn (v := .ty "list") (by rfl) n_list (by decide +kernel) rfl) pa_nil))) (by intro _; rfl))) (pw_or1 (pt_not (pt_chain op_le op_le pe_int (pe_callB call_len (by rfl) n_len (by decide +kernel) (pa_cons (pv 0) pa_nil)) (pe_glob (v := .int 60) (by rfl) k_MOST_SECTIONS.choose_spec ⟨_, rfl⟩)))))) (pss_one (ps_ret pe_bl)) pss_nil)
      (pss_one (ps_ret (pe_and (pe_callB (cr_all rfl) (by rfl) n_all (by decide +kernel) (pa_cons (pe_lc (own := [("one", 1)]) (g := (gName 1)) (tt := tYes) (te := (tCall (spD K (c_is_section K)) [] E0 (tCons (tVar 1) tNil))) (by rfl) sc_are_sections.nd (pi_any (pv 0)) (blkOk_by (own := [("one", 1)]) (N := N_are_sections) (sc := defScope s_are_sections) (by decide +kernel)) (fun _ _ _ _ _ => by exact (pg_name (i := 1) sc_are_sections.nd rfl (by wtm_at "oi"))) (fun _ _ _ _ _ => by exact pts_nil) (fun _ _ _ _ _ => by exact (pe_call F_is_section (hr.mono (by decide)) (by rfl) m_is_section k_is_section B_is_section .nil passL (pa_cons (pv 1) pa_nil)))) pa_nil)) (pe_one (pe_not (pe_ix ix_seq (pe_ix ix_seq (pv 0) (pe_un un_neg pe_int) (fun _ _ => rfl)) pe_int (fun _ _ => rfl)))))))))
    (d_are_sections)
abbrev N_Book_init : List Str := ["self", "sections"]
theorem sc_Book_init : FnScope N_Book_init ["self", "sections"] (defScope s_Book_init) := by wtm_at "sn"
theorem ok_Book_init {f : Addr} {fd : FuncData} (F : GD K "__init__" "Book.__init__" s_Book_init f fd) (F_are_sections : FnOk P w K mg base (L2.CX P w) 3 f_are_sections fd_are_sections ["thing"] (spD K (c_are_sections K))) (B_are_sections : Binds K fd_are_sections ["thing"] []) (m_are_sections : mg "are_sections" = some (.ref f_are_sections)) (k_are_sections : PySem.W.keepIn K (.ref f_are_sections) = true) (x_BadBook : ExC K mg "BadBook") (n_list : mg "list" = none) (kb : KBook K) :
    FnOk P w K mg base (L2.CX P w) 4 f fd ["self", "sections"] (spD K (c_Book_init K)) :=
  fn_DD (t := t_Book_init K) F sc_Book_init (by wtm_at "ln") (by decide)
    (fun cdv A outer s H E hr => by exact
      (pss_cons (ps_if (pt_not (pt_truth (pe_call F_are_sections (hr.mono (by decide)) (by rfl) m_are_sections k_are_sections B_are_sections .nil (by wtm_at "pk") (pa_cons (pv 1) pa_nil)) (by intro _; rfl))) (pss_one (ps_raise rfl (takes_of rfl rfl rfl rfl) (pmk_own PySem.F.excBase_ValueError x_BadBook.xc x_BadBook.gc x_BadBook.kc (raises_own x_BadBook.bc x_BadBook.tc) (by rfl)))) pss_nil)
      (pss_one (ps_fld (pv 0) (pe_callTy call_list_of (by rfl) n_list (by decide +kernel) (pa_cons (pv 1) pa_nil)) rfl))))
    (d_Book_init kb)
abbrev N_law_long : List Str := ["_law_sections_here", "_law_first", "_law_end", "_law_one"]
theorem sc_law_long : FnScope N_law_long ["_law_sections_here", "_law_first", "_law_end"] (defScope s_law_long) := by wtm_at "sn"
theorem ok_law_long {f : Addr} {fd : FuncData}  (F : GD K "_law_long" "_law_long" s_law_long f fd) (n_sum : mg "sum" = none) :
    FnOk P w K mg base (L2.CX P w) 1 f fd ["_law_sections_here", "_law_first", "_law_end"] (spD K (c_law_long K)) :=
  fn_DD (t := t_law_long K) F sc_law_long (by wtm_at "ln") (by decide)
    (fun cdv A outer s H E hr => by exact
      (pss_one (ps_ret (pe_callB (cr_sum rfl) (by rfl) n_sum (by decide +kernel) (pa_cons (pe_lc (own := [("_law_one", 3)]) (g := (gName 3)) (tt := tYes) (te := (tOp (rIx K) (tVar 3) (tC (.int 0)))) (by rfl) sc_law_long.nd (pi_any (pe_slice sl_any (pv 0) (po_some (pv 1)) (po_some (pv 2)))) (blkOk_by (own := [("_law_one", 3)]) (N := N_law_long) (sc := defScope s_law_long) (by decide +kernel)) (fun _ _ _ _ _ => by exact (pg_name (i := 3) sc_law_long.nd rfl (by wtm_at "oi"))) (fun _ _ _ _ _ => by exact pts_nil) (fun _ _ _ _ _ => by exact (pe_ix ix_seq (pv 3) pe_int (fun _ _ => rfl)))) pa_nil)))))
    (d_law_long)
abbrev N_law_blocks : List Str := ["_law_sections_here", "_law_found", "_law_first", "_law_at", "_law_one"]
theorem sc_law_blocks : FnScope N_law_blocks ["_law_sections_here"] (defScope s_law_blocks) := by wtm_at "sn"
theorem ok_law_blocks {f : Addr} {fd : FuncData}  (F : GD K "_law_blocks" "_law_blocks" s_law_blocks f fd) (n_enumerate : mg "enumerate" = none) :
    FnOk P w K mg base (L2.CX P w) 1 f fd ["_law_sections_here"] (spD K (c_law_blocks K)) :=
  fn_DD (t := t_law_blocks K) F sc_law_blocks (by wtm_at "ln") (by decide)
    (fun cdv A outer s H E hr => by exact
      (pss_cons (ps_set (i := 1) sc_law_blocks.nd rfl (by wtm_at "oi") (pe_lst pa_nil))
      (pss_cons (ps_set (i := 2) sc_law_blocks.nd rfl (by wtm_at "oi") pe_int)
      (pss_cons (ps_for (passes_of rfl) rfl (pi_enum (by rfl) n_enumerate (pa_cons (pv 0) pa_nil)) (pg_tup rfl (pgs_cons (pg_name (i := 3) sc_law_blocks.nd rfl (by wtm_at "oi")) (pgs_cons (pg_name (i := 4) sc_law_blocks.nd rfl (by wtm_at "oi")) pgs_nil))) (pss_one (ps_if (pt_not (pt_truth (pe_ix ix_seq (pv 4) pe_int (fun _ _ => rfl)) (by intro _; rfl))) (pss_cons (ps_expr (pe_bm PySem.F.plainAttrs_list PySem.F.slot_list_append PySem.F.type_list_append mt_append (pv 1) (pa_cons (pe_tup (pa_cons (pv 2) (pa_cons (pe_op op_addA (pv 3) pe_int) pa_nil))) pa_nil)))
      (pss_one (ps_set (i := 2) sc_law_blocks.nd rfl (by wtm_at "oi") (pe_op op_addA (pv 3) pe_int)))) pss_nil)))
      (pss_one (ps_ret (pv 1)))))))
    (d_law_blocks)
abbrev N_law_limit : List Str := ["_law_draw", "_law_sections_here", "_law_way", "_law_many", "_law_first", "_law_end", "_law_more", "_law_long_here", "_law_least", "_law_one", "_law_other", "_law_some"]
theorem sc_law_limit : FnScope N_law_limit ["_law_draw", "_law_sections_here"] (defScope s_law_limit) := by wtm_at "sn"
theorem ok_law_limit {f : Addr} {fd : FuncData} (F : GD K "_law_limit" "_law_limit" s_law_limit f fd) (F_law_next : FnOk P w K mg base (L2.CX P w) 1 f_law_next fd_law_next ["_law_draw", "_law_amount"] (spD K (c_law_next K))) (B_law_next : Binds K fd_law_next ["_law_draw", "_law_amount"] []) (m_law_next : mg "_law_next" = some (.ref f_law_next)) (k_law_next : PySem.W.keepIn K (.ref f_law_next) = true) (F_law_long : FnOk P w K mg base (L2.CX P w) 1 f_law_long fd_law_long ["_law_sections_here", "_law_first", "_law_end"] (spD K (c_law_long K))) (B_law_long : Binds K fd_law_long ["_law_sections_here", "_law_first", "_law_end"] []) (m_law_long : mg "_law_long" = some (.ref f_law_long)) (k_law_long : PySem.W.keepIn K (.ref f_law_long) = true) (F_law_blocks : FnOk P w K mg base (L2.CX P w) 1 f_law_blocks fd_law_blocks ["_law_sections_here"] (spD K (c_law_blocks K))) (B_law_blocks : Binds K fd_law_blocks ["_law_sections_here"] []) (m_law_blocks : mg "_law_blocks" = some (.ref f_law_blocks)) (k_law_blocks : PySem.W.keepIn K (.ref f_law_blocks) = true) (n_len : mg "len" = none) (n_max : mg "max" = none) :
    FnOk P w K mg base (L2.CX P w) 2 f fd ["_law_draw", "_law_sections_here"] (spD K (c_law_limit K)) :=
  fn_DD (t := t_law_limit K) F sc_law_limit (by wtm_at "ln") (by decide)
    (fun cdv A outer s H E hr => by exact
      (pss_cons (ps_set (i := 2) sc_law_limit.nd rfl (by wtm_at "oi") (pe_call F_law_next (hr.mono (by decide)) (by rfl) m_law_next k_law_next B_law_next .nil (by wtm_at "pk") (pa_cons (pv 0) (pa_cons pe_int pa_nil))))
      (pss_cons (ps_set (i := 3) sc_law_limit.nd rfl (by wtm_at "oi") (pe_callB call_len (by rfl) n_len (by decide +kernel) (pa_cons (pv 1) pa_nil)))
      (pss_cons (ps_set (i := 4) sc_law_limit.nd rfl (by wtm_at "oi") (pe_call F_law_next (hr.mono (by decide)) (by rfl) m_law_next k_law_next B_law_next .nil (by wtm_at "pk") (pa_cons (pv 0) (pa_cons (pv 3) pa_nil))))
      (pss_cons (ps_set (i := 5) sc_law_limit.nd rfl (by wtm_at "oi") (pe_op op_addA (pe_op op_addA (pv 4) pe_int) (pe_call F_law_next (hr.mono (by decide)) (by rfl) m_law_next k_law_next B_law_next .nil (by wtm_at "pk") (pa_cons (pv 0) (pa_cons (pe_op op_sub (pv 3) (pv 4)) pa_nil)))))
      (pss_cons (ps_set (i := 6) sc_law_limit.nd rfl (by wtm_at "oi") (pe_call F_law_next (hr.mono (by decide)) (by rfl) m_law_next k_law_next B_law_next .nil (by wtm_at "pk") (pa_cons (pv 0) (pa_cons (pe_op op_pow pe_int pe_int) pa_nil))))
      (pss_cons (ps_set (i := 7) sc_law_limit.nd rfl (by wtm_at "oi") (pe_call F_law_long (hr.mono (by decide)) (by rfl) m_law_long k_law_long B_law_long .nil (by wtm_at "pk") (pa_cons (pv 1) (pa_cons (pv 4) (pa_cons (pv 5) pa_nil)))))
      (pss_cons (ps_set (i := 8) sc_law_limit.nd rfl (by wtm_at "oi") (pe_callB (call_maxA rfl) (by rfl) n_max (by decide +kernel) (pa_cons (pe_lc (own := [("_law_one", 9), ("_law_other", 10)]) (g := (gTup K 2 (gCons (gName 9) (gCons (gName 10) gNil)))) (tt := tYes) (te := (tCall (spD K (c_law_long K)) [] E0 (tCons (tVar 1) (tCons (tVar 9) (tCons (tVar 10) tNil))))) (by rfl) sc_law_limit.nd (pi_any (pe_call F_law_blocks (hr.mono (by decide)) (by rfl) m_law_blocks k_law_blocks B_law_blocks .nil (by wtm_at "pk") (pa_cons (pv 1) pa_nil))) (blkOk_by (own := [("_law_one", 9), ("_law_other", 10)]) (N := N_law_limit) (sc := defScope s_law_limit) (by decide +kernel)) (fun _ _ _ _ _ => by exact (pg_tup rfl (pgs_cons (pg_name (i := 9) sc_law_limit.nd rfl (by wtm_at "oi")) (pgs_cons (pg_name (i := 10) sc_law_limit.nd rfl (by wtm_at "oi")) pgs_nil)))) (fun _ _ _ _ _ => by exact pts_nil) (fun _ _ _ _ _ => by exact (pe_call F_law_long (hr.mono (by decide)) (by rfl) m_law_long k_law_long B_law_long .nil passL (pa_cons (pv 1) (pa_cons (pv 9) (pa_cons (pv 10) pa_nil)))))) pa_nil)))
      (pss_cons (ps_set (i := 11) sc_law_limit.nd rfl (by wtm_at "oi") (pe_lst (pa_cons (pv 7) (pa_cons (pv 7) (pa_cons (pe_callB (call_maxA rfl) (by rfl) n_max (by decide +kernel) (pa_cons pe_int (pa_cons (pe_op op_sub (pv 7) pe_int) pa_nil))) (pa_cons (pe_op op_addA (pv 7) pe_int) (pa_cons (pv 8) (pa_cons (pe_op op_addA (pv 8) (pe_op op_modA (pv 6) (pe_op op_addA (pv 7) pe_int))) (pa_cons (pe_op op_modA (pv 6) pe_int) pa_nil)))))))))
      (pss_one (ps_ret (pe_ix ix_seq (pe_op op_addA (pv 11) (pe_lst (pa_cons (pe_op op_addA (pv 7) (pe_op op_mulA (pv 6) (pe_op op_pow pe_int pe_int))) pa_nil))) (pv 2) (fun _ _ => rfl)))))))))))))
    (d_law_limit)
abbrev N_Book_sections : List Str := ["self"]
theorem sc_Book_sections : FnScope N_Book_sections ["self"] (defScope s_Book_sections) := by wtm_at "sn"
theorem ok_Book_sections {f : Addr} {fd : FuncData}  (F : GD K "sections" "Book.sections" s_Book_sections f fd) (n_list : mg "list" = none) (kb : KBook K) :
    FnOk P w K mg base (L2.CX P w) 1 f fd ["self"] (spD K (c_Book_sections K)) :=
  fn_DD (t := t_Book_sections K) F sc_Book_sections (by wtm_at "ln") (by decide)
    (fun cdv A outer s H E hr => by exact
      (pss_one (ps_ret (pe_callTy call_list_of (by rfl) n_list (by decide +kernel) (pa_cons (pe_fld (pv 0) rfl) pa_nil)))))
    (d_Book_sections kb)
abbrev N_Book_blocks : List Str := ["self", "found", "first", "at", "one"]
theorem sc_Book_blocks : FnScope N_Book_blocks ["self"] (defScope s_Book_blocks) := by wtm_at "sn"
theorem ok_Book_blocks {f : Addr} {fd : FuncData}  (F : GD K "blocks" "Book.blocks" s_Book_blocks f fd) (n_enumerate : mg "enumerate" = none) (kb : KBook K) :
    FnOk P w K mg base (L2.CX P w) 1 f fd ["self"] (spD K (c_Book_blocks K)) :=
  fn_DD (t := t_Book_blocks K) F sc_Book_blocks (by wtm_at "ln") (by decide)
    (fun cdv A outer s H E hr => by exact
      (pss_cons (ps_set (i := 1) sc_Book_blocks.nd rfl (by wtm_at "oi") (pe_lst pa_nil))
      (pss_cons (ps_set (i := 2) sc_Book_blocks.nd rfl (by wtm_at "oi") pe_int)
      (pss_cons (ps_for (passes_of rfl) rfl (pi_enum (by rfl) n_enumerate (pa_cons (pe_fld (pv 0) rfl) pa_nil)) (pg_tup rfl (pgs_cons (pg_name (i := 3) sc_Book_blocks.nd rfl (by wtm_at "oi")) (pgs_cons (pg_name (i := 4) sc_Book_blocks.nd rfl (by wtm_at "oi")) pgs_nil))) (pss_one (ps_if (pt_not (pt_truth (pe_ix ix_seq (pv 4) pe_int (fun _ _ => rfl)) (by intro _; rfl))) (pss_cons (ps_expr (pe_bm PySem.F.plainAttrs_list PySem.F.slot_list_append PySem.F.type_list_append mt_append (pv 1) (pa_cons (pe_tup (pa_cons (pv 2) (pa_cons (pe_op op_addA (pv 3) pe_int) pa_nil))) pa_nil)))
      (pss_one (ps_set (i := 2) sc_Book_blocks.nd rfl (by wtm_at "oi") (pe_op op_addA (pv 3) pe_int)))) pss_nil)))
      (pss_one (ps_ret (pv 1)))))))
    (d_Book_blocks kb)
abbrev N_law_lists : List Str := ["_law_draw", "_law_book", "_law_sections_here", "_law_way", "_law_due", "_law_turn", "_law_found"]
theorem sc_law_lists : FnScope N_law_lists ["_law_draw", "_law_book", "_law_sections_here", "_law_way"] (defScope s_law_lists) := by wtm_at "sn"
theorem ok_law_lists {f : Addr} {fd : FuncData} (F : GD K "_law_lists" "_law_lists" s_law_lists f fd) (F_law_blocks : FnOk P w K mg base (L2.CX P w) 1 f_law_blocks fd_law_blocks ["_law_sections_here"] (spD K (c_law_blocks K))) (B_law_blocks : Binds K fd_law_blocks ["_law_sections_here"] []) (m_law_blocks : mg "_law_blocks" = some (.ref f_law_blocks)) (k_law_blocks : PySem.W.keepIn K (.ref f_law_blocks) = true) (F_Book_sections : FnOk P w K mg base (L2.CX P w) 1 f_Book_sections fd_Book_sections ["self"] (spD K (c_Book_sections K))) (B_Book_sections : Binds K fd_Book_sections ["self"] []) (F_Book_blocks : FnOk P w K mg base (L2.CX P w) 1 f_Book_blocks fd_Book_blocks ["self"] (spD K (c_Book_blocks K))) (B_Book_blocks : Binds K fd_Book_blocks ["self"] []) (F_law_next : FnOk P w K mg base (L2.CX P w) 1 f_law_next fd_law_next ["_law_draw", "_law_amount"] (spD K (c_law_next K))) (B_law_next : Binds K fd_law_next ["_law_draw", "_law_amount"] []) (m_law_next : mg "_law_next" = some (.ref f_law_next)) (k_law_next : PySem.W.keepIn K (.ref f_law_next) = true) (n_list : mg "list" = none) (n_range : mg "range" = none) (cl_Book : Cls K (He.ga K "Book")) (mm_Book_sections : Meth K (He.ga K "Book") "sections" f_Book_sections) (mm_Book_blocks : Meth K (He.ga K "Book") "blocks" f_Book_blocks) (n_len : mg "len" = none) :
    FnOk P w K mg base (L2.CX P w) 2 f fd ["_law_draw", "_law_book", "_law_sections_here", "_law_way"] (spD K (c_law_lists K)) :=
  fn_DD (t := t_law_lists K) F sc_law_lists (by wtm_at "ln") (by decide)
    (fun cdv A outer s H E hr => by exact
      (pss_cons (ps_set (i := 4) sc_law_lists.nd rfl (by wtm_at "oi") (pe_ix ix_seq (pe_lst (pa_cons (pe_callTy call_list_of (by rfl) n_list (by decide +kernel) (pa_cons (pv 2) pa_nil)) (pa_cons (pe_call F_law_blocks (hr.mono (by decide)) (by rfl) m_law_blocks k_law_blocks B_law_blocks .nil (by wtm_at "pk") (pa_cons (pv 2) pa_nil)) pa_nil))) (pv 3) (fun _ _ => rfl)))
      (pss_cons (ps_for (passes_of rfl) rfl (pi_range1 (by rfl) n_range (pa_cons pe_int pa_nil)) (pg_name (i := 5) sc_law_lists.nd rfl (by wtm_at "oi")) (pss_cons (ps_set (i := 6) sc_law_lists.nd rfl (by wtm_at "oi") (pe_ifExp (pt_cmpR (op_eqD hr.units) (pv 3) pe_int (nomark _)) (pe_meth0 (pv 1) cl_Book mm_Book_sections F_Book_sections (hr.mono (by decide)) B_Book_sections .nil (by wtm_at "pk")) (pe_meth0 (pv 1) cl_Book mm_Book_blocks F_Book_blocks (hr.mono (by decide)) B_Book_blocks .nil (by wtm_at "pk"))))
      (pss_cons (ps_if (pt_cmpR (op_neD hr.units) (pv 6) (pv 4) (nomark _)) (pss_one (ps_ret pe_bl)) pss_nil)
      (pss_cons (ps_expr (pe_bm PySem.F.plainAttrs_list PySem.F.slot_list_insert PySem.F.type_list_insert mt_insert (pv 6) (pa_cons (pe_call F_law_next (hr.mono (by decide)) (by rfl) m_law_next k_law_next B_law_next .nil (by wtm_at "pk") (pa_cons (pv 0) (pa_cons (pe_op op_addA (pe_callB call_len (by rfl) n_len (by decide +kernel) (pa_cons (pv 6) pa_nil)) pe_int) pa_nil))) (pa_cons (pe_tup (pa_cons pe_int (pa_cons pe_int pa_nil))) pa_nil))))
      (pss_one (ps_expr (pe_bm0 PySem.F.plainAttrs_list PySem.F.slot_list_pop PySem.F.type_list_pop mt_pop (pv 6))))))))
      (pss_one (ps_ret pe_bl)))))
    (d_law_lists)
abbrev N_Book_many : List Str := ["self"]
theorem sc_Book_many : FnScope N_Book_many ["self"] (defScope s_Book_many) := by wtm_at "sn"
theorem ok_Book_many {f : Addr} {fd : FuncData}  (F : GD K "many" "Book.many" s_Book_many f fd) (n_len : mg "len" = none) (kb : KBook K) :
    FnOk P w K mg base (L2.CX P w) 1 f fd ["self"] (spD K (c_Book_many K)) :=
  fn_DD (t := t_Book_many K) F sc_Book_many (by wtm_at "ln") (by decide)
    (fun cdv A outer s H E hr => by exact
      (pss_one (ps_ret (pe_callB call_len (by rfl) n_len (by decide +kernel) (pa_cons (pe_fld (pv 0) rfl) pa_nil)))))
    (d_Book_many kb)
abbrev N_Book_long : List Str := ["self", "first", "end", "one"]
theorem sc_Book_long : FnScope N_Book_long ["self", "first", "end"] (defScope s_Book_long) := by wtm_at "sn"
theorem ok_Book_long {f : Addr} {fd : FuncData}  (F : GD K "long" "Book.long" s_Book_long f fd) (n_len : mg "len" = none) (x_BadNumber : ExC K mg "BadNumber") (n_sum : mg "sum" = none) (kb : KBook K) :
    FnOk P w K mg base (L2.CX P w) 1 f fd ["self", "first", "end"] (spD K (c_Book_long K)) :=
  fn_DD (t := t_Book_long K) F sc_Book_long (by wtm_at "ln") (by decide)
    (fun cdv A outer s H E hr => by exact
      (pss_cons (ps_if (pt_not (pt_chain3 op_le op_le op_le pe_int (pv 1) (pv 2) (pe_callB call_len (by rfl) n_len (by decide +kernel) (pa_cons (pe_fld (pv 0) rfl) pa_nil)))) (pss_one (ps_raise rfl (takes_of rfl rfl rfl rfl) (pmk_own PySem.F.excBase_ValueError x_BadNumber.xc x_BadNumber.gc x_BadNumber.kc (raises_own x_BadNumber.bc x_BadNumber.tc) (by rfl)))) pss_nil)
      (pss_one (ps_ret (pe_callB (cr_sum rfl) (by rfl) n_sum (by decide +kernel) (pa_cons (pe_lc (own := [("one", 3)]) (g := (gName 3)) (tt := tYes) (te := (tOp (rIx K) (tVar 3) (tC (.int 0)))) (by rfl) sc_Book_long.nd (pi_any (pe_slice sl_any (pe_fld (pv 0) rfl) (po_some (pv 1)) (po_some (pv 2)))) (blkOk_by (own := [("one", 3)]) (N := N_Book_long) (sc := defScope s_Book_long) (by decide +kernel)) (fun _ _ _ _ _ => by exact (pg_name (i := 3) sc_Book_long.nd rfl (by wtm_at "oi"))) (fun _ _ _ _ _ => by exact pts_nil) (fun _ _ _ _ _ => by exact (pe_ix ix_seq (pv 3) pe_int (fun _ _ => rfl)))) pa_nil))))))
    (d_Book_long kb)
abbrev N_longest_block : List Str := ["book", "first", "end"]
theorem sc_longest_block : FnScope N_longest_block ["book"] (defScope s_longest_block) := by wtm_at "sn"
theorem ok_longest_block {f : Addr} {fd : FuncData} (F : GD K "longest_block" "longest_block" s_longest_block f fd) (F_Book_blocks : FnOk P w K mg base (L2.CX P w) 1 f_Book_blocks fd_Book_blocks ["self"] (spD K (c_Book_blocks K))) (B_Book_blocks : Binds K fd_Book_blocks ["self"] []) (F_Book_long : FnOk P w K mg base (L2.CX P w) 1 f_Book_long fd_Book_long ["self", "first", "end"] (spD K (c_Book_long K))) (B_Book_long : Binds K fd_Book_long ["self", "first", "end"] []) (cl_Book : Cls K (He.ga K "Book")) (mm_Book_blocks : Meth K (He.ga K "Book") "blocks" f_Book_blocks) (mm_Book_long : Meth K (He.ga K "Book") "long" f_Book_long) (n_max : mg "max" = none) :
    FnOk P w K mg base (L2.CX P w) 2 f fd ["book"] (spD K (c_longest_block K)) :=
  fn_DD (t := t_longest_block K) F sc_longest_block (by wtm_at "ln") (by decide)
    (fun cdv A outer s H E hr => by exact
      (pss_one (ps_ret (pe_callB (call_maxA rfl) (by rfl) n_max (by decide +kernel) (pa_cons (pe_lc (own := [("first", 1), ("end", 2)]) (g := (gTup K 2 (gCons (gName 1) (gCons (gName 2) gNil)))) (tt := tYes) (te := (tMeth (He.ga K "Book") "long" (spD K (c_Book_long K)) [] E0 (tVar 0) (tCons (tVar 1) (tCons (tVar 2) tNil)))) (by rfl) sc_longest_block.nd (pi_any (pe_meth0 (pv 0) cl_Book mm_Book_blocks F_Book_blocks (hr.mono (by decide)) B_Book_blocks .nil (by wtm_at "pk"))) (blkOk_by (own := [("first", 1), ("end", 2)]) (N := N_longest_block) (sc := defScope s_longest_block) (by decide +kernel)) (fun _ _ _ _ _ => by exact (pg_tup rfl (pgs_cons (pg_name (i := 1) sc_longest_block.nd rfl (by wtm_at "oi")) (pgs_cons (pg_name (i := 2) sc_longest_block.nd rfl (by wtm_at "oi")) pgs_nil)))) (fun _ _ _ _ _ => by exact pts_nil) (fun _ _ _ _ _ => by exact (pe_meth (pv 0) cl_Book mm_Book_long F_Book_long (hr.mono (by decide)) B_Book_long .nil passL (pa_cons (pv 1) (pa_cons (pv 2) pa_nil))))) pa_nil)))))
    (d_longest_block)
abbrev N_first_too_long : List Str := ["book", "limit", "first", "end"]
theorem sc_first_too_long : FnScope N_first_too_long ["book", "limit"] (defScope s_first_too_long) := by wtm_at "sn"
theorem ok_first_too_long {f : Addr} {fd : FuncData} (F : GD K "first_too_long" "first_too_long" s_first_too_long f fd) (F_Book_blocks : FnOk P w K mg base (L2.CX P w) 1 f_Book_blocks fd_Book_blocks ["self"] (spD K (c_Book_blocks K))) (B_Book_blocks : Binds K fd_Book_blocks ["self"] []) (F_Book_long : FnOk P w K mg base (L2.CX P w) 1 f_Book_long fd_Book_long ["self", "first", "end"] (spD K (c_Book_long K))) (B_Book_long : Binds K fd_Book_long ["self", "first", "end"] []) (cl_Book : Cls K (He.ga K "Book")) (mm_Book_blocks : Meth K (He.ga K "Book") "blocks" f_Book_blocks) (mm_Book_long : Meth K (He.ga K "Book") "long" f_Book_long) :
    FnOk P w K mg base (L2.CX P w) 2 f fd ["book", "limit"] (spD K (c_first_too_long K)) :=
  fn_DD (t := t_first_too_long K) F sc_first_too_long (by wtm_at "ln") (by decide)
    (fun cdv A outer s H E hr => by exact
      (pss_cons (ps_for (passes_of rfl) rfl (pi_any (pe_meth0 (pv 0) cl_Book mm_Book_blocks F_Book_blocks (hr.mono (by decide)) B_Book_blocks .nil (by wtm_at "pk"))) (pg_tup rfl (pgs_cons (pg_name (i := 2) sc_first_too_long.nd rfl (by wtm_at "oi")) (pgs_cons (pg_name (i := 3) sc_first_too_long.nd rfl (by wtm_at "oi")) pgs_nil))) (pss_one (ps_if (pt_cmpR op_gt (pe_meth (pv 0) cl_Book mm_Book_long F_Book_long (hr.mono (by decide)) B_Book_long .nil (by wtm_at "pk") (pa_cons (pv 2) (pa_cons (pv 3) pa_nil))) (pv 1) (nomark _)) (pss_one (ps_ret (pv 2))) pss_nil)))
      (pss_one (ps_ret pe_non))))
    (d_first_too_long)
abbrev N_TooTight_init : List Str := ["self", "block"]
theorem sc_TooTight_init : FnScope N_TooTight_init ["self", "block"] (defScope s_TooTight_init) := by wtm_at "sn"
theorem ok_TooTight_init {f : Addr} {fd : FuncData} (F : GD K "__init__" "TooTight.__init__" s_TooTight_init f fd) (g_ReadError : mg "ReadError" = some (.ref (He.ga K "ReadError"))) (re_ReadError : ReI K (He.ga K "ReadError")) (kx_TooTight : KXf K "TooTight" ["block"]) :
    FnOk P w K mg base (L2.CX P w) 1 f fd ["self", "block"] (spX (He.ga K "TooTight") ["block"]) :=
  fn_X1 F sc_TooTight_init kx_TooTight.ox (kx_TooTight.no "block" (by simp)) (fun cdv A outer s H E hr => by exact
      (pss_cons (ps_expr (pe_reinit (pe_glob (v := .ref (He.ga K "ReadError")) (by rfl) g_ReadError rfl) re_ReadError (pa_cons (pv 0) (pa_cons pe_str pa_nil))))
      (pss_one (ps_ost (pv 0) (pv 1)))))
abbrev N_fewest : List Str := ["book", "limit", "tight", "pieces", "at", "behind", "first", "end"]
theorem sc_fewest : FnScope N_fewest ["book", "limit"] (defScope s_fewest) := by wtm_at "sn"
theorem ok_fewest {f : Addr} {fd : FuncData} (F : GD K "fewest" "fewest" s_fewest f fd) (F_first_too_long : FnOk P w K mg base (L2.CX P w) 2 f_first_too_long fd_first_too_long ["book", "limit"] (spD K (c_first_too_long K))) (B_first_too_long : Binds K fd_first_too_long ["book", "limit"] []) (m_first_too_long : mg "first_too_long" = some (.ref f_first_too_long)) (k_first_too_long : PySem.W.keepIn K (.ref f_first_too_long) = true) (F_TooTight_init : FnOk P w K mg base (L2.CX P w) 1 f_TooTight_init fd_TooTight_init ["self", "block"] (spX (He.ga K "TooTight") ["block"])) (B_TooTight_init : Binds K fd_TooTight_init ["self", "block"] []) (F_Book_blocks : FnOk P w K mg base (L2.CX P w) 1 f_Book_blocks fd_Book_blocks ["self"] (spD K (c_Book_blocks K))) (B_Book_blocks : Binds K fd_Book_blocks ["self"] []) (F_Book_long : FnOk P w K mg base (L2.CX P w) 1 f_Book_long fd_Book_long ["self", "first", "end"] (spD K (c_Book_long K))) (B_Book_long : Binds K fd_Book_long ["self", "first", "end"] []) (x_BadNumber : ExC K mg "BadNumber") (g_TooTight : mg "TooTight" = some (.ref (He.ga K "TooTight"))) (kx_TooTight : KXf K "TooTight" ["block"]) (mm_TooTight_init : Meth K (He.ga K "TooTight") "__init__" f_TooTight_init) (cl_Book : Cls K (He.ga K "Book")) (mm_Book_blocks : Meth K (He.ga K "Book") "blocks" f_Book_blocks) (mm_Book_long : Meth K (He.ga K "Book") "long" f_Book_long) :
    FnOk P w K mg base (L2.CX P w) 3 f fd ["book", "limit"] (spD K (c_fewest K)) :=
  fn_DD (t := t_fewest K) F sc_fewest (by wtm_at "ln") (by decide)
    (fun cdv A outer s H E hr => by exact
      (pss_cons (ps_if (pt_cmpR op_lt (pv 1) pe_int (nomark _)) (pss_one (ps_raise rfl (takes_of rfl rfl rfl rfl) (pmk_own PySem.F.excBase_ValueError x_BadNumber.xc x_BadNumber.gc x_BadNumber.kc (raises_own x_BadNumber.bc x_BadNumber.tc) (by rfl)))) pss_nil)
      (pss_cons (ps_set (i := 2) sc_fewest.nd rfl (by wtm_at "oi") (pe_call F_first_too_long (hr.mono (by decide)) (by rfl) m_first_too_long k_first_too_long B_first_too_long .nil (by wtm_at "pk") (pa_cons (pv 0) (pa_cons (pv 1) pa_nil))))
      (pss_cons (ps_if (pt_cmp (pc_notN (pv 2)) rfl) (pss_one (ps_raise rfl (takes_of rfl rfl rfl rfl) (pmk_oex kx_TooTight.ox mm_TooTight_init.at_ (fn_tyA mm_TooTight_init.fn) F_TooTight_init (hr.mono (by decide)) B_TooTight_init .nil (passes_call (takes_of rfl rfl rfl rfl) (fun _ _ _ _ h => h.elim)) (by rfl) g_TooTight (pa_cons (pv 2) pa_nil)))) pss_nil)
      (pss_cons (ps_set (i := 3) sc_fewest.nd rfl (by wtm_at "oi") (pe_lst pa_nil))
      (pss_cons (ps_set (i := 4) sc_fewest.nd rfl (by wtm_at "oi") pe_int)
      (pss_cons (ps_set (i := 5) sc_fewest.nd rfl (by wtm_at "oi") pe_int)
      (pss_cons (ps_for (passes_of rfl) rfl (pi_any (pe_meth0 (pv 0) cl_Book mm_Book_blocks F_Book_blocks (hr.mono (by decide)) B_Book_blocks .nil (by wtm_at "pk"))) (pg_tup rfl (pgs_cons (pg_name (i := 6) sc_fewest.nd rfl (by wtm_at "oi")) (pgs_cons (pg_name (i := 7) sc_fewest.nd rfl (by wtm_at "oi")) pgs_nil))) (pss_cons (ps_if (pt_cmpR op_gt (pe_meth (pv 0) cl_Book mm_Book_long F_Book_long (hr.mono (by decide)) B_Book_long .nil (by wtm_at "pk") (pa_cons (pv 4) (pa_cons (pv 7) pa_nil))) (pv 1) (nomark _)) (pss_cons (ps_expr (pe_bm PySem.F.plainAttrs_list PySem.F.slot_list_append PySem.F.type_list_append mt_append (pv 3) (pa_cons (pe_tup (pa_cons (pv 4) (pa_cons (pv 5) pa_nil))) pa_nil)))
      (pss_one (ps_set (i := 4) sc_fewest.nd rfl (by wtm_at "oi") (pv 6)))) pss_nil)
      (pss_one (ps_set (i := 5) sc_fewest.nd rfl (by wtm_at "oi") (pv 7)))))
      (pss_cons (ps_expr (pe_bm PySem.F.plainAttrs_list PySem.F.slot_list_append PySem.F.type_list_append mt_append (pv 3) (pa_cons (pe_tup (pa_cons (pv 4) (pa_cons (pv 5) pa_nil))) pa_nil)))
      (pss_one (ps_ret (pv 3))))))))))))
    (d_fewest)
abbrev N_least_limit : List Str := ["book", "many", "low", "high", "middle"]
theorem sc_least_limit : FnScope N_least_limit ["book", "many"] (defScope s_least_limit) := by wtm_at "sn"
theorem ok_least_limit {f : Addr} {fd : FuncData} (F : GD K "least_limit" "least_limit" s_least_limit f fd) (F_longest_block : FnOk P w K mg base (L2.CX P w) 2 f_longest_block fd_longest_block ["book"] (spD K (c_longest_block K))) (B_longest_block : Binds K fd_longest_block ["book"] []) (m_longest_block : mg "longest_block" = some (.ref f_longest_block)) (k_longest_block : PySem.W.keepIn K (.ref f_longest_block) = true) (F_Book_many : FnOk P w K mg base (L2.CX P w) 1 f_Book_many fd_Book_many ["self"] (spD K (c_Book_many K))) (B_Book_many : Binds K fd_Book_many ["self"] []) (F_Book_long : FnOk P w K mg base (L2.CX P w) 1 f_Book_long fd_Book_long ["self", "first", "end"] (spD K (c_Book_long K))) (B_Book_long : Binds K fd_Book_long ["self", "first", "end"] []) (F_fewest : FnOk P w K mg base (L2.CX P w) 3 f_fewest fd_fewest ["book", "limit"] (spD K (c_fewest K))) (B_fewest : Binds K fd_fewest ["book", "limit"] []) (m_fewest : mg "fewest" = some (.ref f_fewest)) (k_fewest : PySem.W.keepIn K (.ref f_fewest) = true) (x_BadNumber : ExC K mg "BadNumber") (cl_Book : Cls K (He.ga K "Book")) (mm_Book_many : Meth K (He.ga K "Book") "many" f_Book_many) (mm_Book_long : Meth K (He.ga K "Book") "long" f_Book_long) (n_len : mg "len" = none) :
    FnOk P w K mg base (L2.CX P w) 4 f fd ["book", "many"] (spD K (c_least_limit K)) :=
  fn_DD (t := t_least_limit K) F sc_least_limit (by wtm_at "ln") (by decide)
    (fun cdv A outer s H E hr => by exact
      (pss_cons (ps_if (pt_cmpR op_lt (pv 1) pe_int (nomark _)) (pss_one (ps_raise rfl (takes_of rfl rfl rfl rfl) (pmk_own PySem.F.excBase_ValueError x_BadNumber.xc x_BadNumber.gc x_BadNumber.kc (raises_own x_BadNumber.bc x_BadNumber.tc) (by rfl)))) pss_nil)
      (pss_cons (ps_set (i := 2) sc_least_limit.nd rfl (by wtm_at "oi") (pe_call F_longest_block (hr.mono (by decide)) (by rfl) m_longest_block k_longest_block B_longest_block .nil (by wtm_at "pk") (pa_cons (pv 0) pa_nil)))
      (pss_cons (ps_set (i := 3) sc_least_limit.nd rfl (by wtm_at "oi") (pe_meth (pv 0) cl_Book mm_Book_long F_Book_long (hr.mono (by decide)) B_Book_long .nil (by wtm_at "pk") (pa_cons pe_int (pa_cons (pe_meth0 (pv 0) cl_Book mm_Book_many F_Book_many (hr.mono (by decide)) B_Book_many .nil (by wtm_at "pk")) pa_nil))))
      (pss_cons (ps_while (passes_of rfl) (pt_cmpR op_lt (pv 2) (pv 3) (nomark _)) (pss_cons (ps_set (i := 4) sc_least_limit.nd rfl (by wtm_at "oi") (pe_op op_fdivA (pe_op op_addA (pv 2) (pv 3)) pe_int))
      (pss_one (ps_if (pt_cmpR op_le (pe_callB call_len (by rfl) n_len (by decide +kernel) (pa_cons (pe_call F_fewest (hr.mono (by decide)) (by rfl) m_fewest k_fewest B_fewest .nil (by wtm_at "pk") (pa_cons (pv 0) (pa_cons (pv 4) pa_nil))) pa_nil)) (pv 1) (nomark _)) (pss_one (ps_set (i := 3) sc_least_limit.nd rfl (by wtm_at "oi") (pv 4))) (pss_one (ps_set (i := 2) sc_least_limit.nd rfl (by wtm_at "oi") (pe_op op_addA (pv 4) pe_int)))))))
      (pss_one (ps_ret (pv 2))))))))
    (d_least_limit)
abbrev N_law_cut : List Str := ["_law_sections_here", "_law_limit_here", "_law_found", "_law_at", "_law_first", "_law_end"]
theorem sc_law_cut : FnScope N_law_cut ["_law_sections_here", "_law_limit_here"] (defScope s_law_cut) := by wtm_at "sn"
theorem ok_law_cut {f : Addr} {fd : FuncData} (F : GD K "_law_cut" "_law_cut" s_law_cut f fd) (F_law_blocks : FnOk P w K mg base (L2.CX P w) 1 f_law_blocks fd_law_blocks ["_law_sections_here"] (spD K (c_law_blocks K))) (B_law_blocks : Binds K fd_law_blocks ["_law_sections_here"] []) (m_law_blocks : mg "_law_blocks" = some (.ref f_law_blocks)) (k_law_blocks : PySem.W.keepIn K (.ref f_law_blocks) = true) (F_law_long : FnOk P w K mg base (L2.CX P w) 1 f_law_long fd_law_long ["_law_sections_here", "_law_first", "_law_end"] (spD K (c_law_long K))) (B_law_long : Binds K fd_law_long ["_law_sections_here", "_law_first", "_law_end"] []) (m_law_long : mg "_law_long" = some (.ref f_law_long)) (k_law_long : PySem.W.keepIn K (.ref f_law_long) = true) (n_len : mg "len" = none) :
    FnOk P w K mg base (L2.CX P w) 2 f fd ["_law_sections_here", "_law_limit_here"] (spD K (c_law_cut K)) :=
  fn_DD (t := t_law_cut K) F sc_law_cut (by wtm_at "ln") (by decide)
    (fun cdv A outer s H E hr => by exact
      (pss_cons (ps_set (i := 2) sc_law_cut.nd rfl (by wtm_at "oi") (pe_lst pa_nil))
      (pss_cons (ps_set (i := 3) sc_law_cut.nd rfl (by wtm_at "oi") pe_int)
      (pss_cons (ps_for (passes_of rfl) rfl (pi_any (pe_call F_law_blocks (hr.mono (by decide)) (by rfl) m_law_blocks k_law_blocks B_law_blocks .nil (by wtm_at "pk") (pa_cons (pv 0) pa_nil))) (pg_tup rfl (pgs_cons (pg_name (i := 4) sc_law_cut.nd rfl (by wtm_at "oi")) (pgs_cons (pg_name (i := 5) sc_law_cut.nd rfl (by wtm_at "oi")) pgs_nil))) (pss_cons (ps_if (pt_cmpR op_gt (pe_call F_law_long (hr.mono (by decide)) (by rfl) m_law_long k_law_long B_law_long .nil (by wtm_at "pk") (pa_cons (pv 0) (pa_cons (pv 4) (pa_cons (pv 5) pa_nil)))) (pv 1) (nomark _)) (pss_one (ps_ret pe_non)) pss_nil)
      (pss_one (ps_if (pt_cmpR op_gt (pe_call F_law_long (hr.mono (by decide)) (by rfl) m_law_long k_law_long B_law_long .nil (by wtm_at "pk") (pa_cons (pv 0) (pa_cons (pv 3) (pa_cons (pv 5) pa_nil)))) (pv 1) (nomark _)) (pss_cons (ps_expr (pe_bm PySem.F.plainAttrs_list PySem.F.slot_list_append PySem.F.type_list_append mt_append (pv 2) (pa_cons (pe_tup (pa_cons (pv 3) (pa_cons (pv 4) pa_nil))) pa_nil)))
      (pss_one (ps_set (i := 3) sc_law_cut.nd rfl (by wtm_at "oi") (pv 4)))) pss_nil))))
      (pss_one (ps_ret (pe_op op_addA (pv 2) (pe_lst (pa_cons (pe_tup (pa_cons (pv 3) (pa_cons (pe_callB call_len (by rfl) n_len (by decide +kernel) (pa_cons (pv 0) pa_nil)) pa_nil))) pa_nil)))))))))
    (d_law_cut)
abbrev N_law_word : List Str := ["_law_e", "_law_found", "_law_words", "_law_some", "_law_word_here", "_law_good"]
theorem sc_law_word : FnScope N_law_word ["_law_e"] (defScope s_law_word) := by wtm_at "sn"
theorem ok_law_word {f : Addr} {fd : FuncData}  (F : GD K "_law_word" "_law_word" s_law_word f fd) (g_BadRow : mg "BadRow" = some (.ref (He.ga K "BadRow"))) (n_isinstance : mg "isinstance" = none) (g_BadFeast : mg "BadFeast" = some (.ref (He.ga K "BadFeast"))) (g_BadCalendar : mg "BadCalendar" = some (.ref (He.ga K "BadCalendar"))) (g_BadBook : mg "BadBook" = some (.ref (He.ga K "BadBook"))) (g_NoRow : mg "NoRow" = some (.ref (He.ga K "NoRow"))) (g_NoDay : mg "NoDay" = some (.ref (He.ga K "NoDay"))) (g_BadNumber : mg "BadNumber" = some (.ref (He.ga K "BadNumber"))) (g_BadHouse : mg "BadHouse" = some (.ref (He.ga K "BadHouse"))) (g_NeverDone : mg "NeverDone" = some (.ref (He.ga K "NeverDone"))) (g_TooTight : mg "TooTight" = some (.ref (He.ga K "TooTight"))) (g_NoPiece : mg "NoPiece" = some (.ref (He.ga K "NoPiece"))) (g_BadText : mg "BadText" = some (.ref (He.ga K "BadText"))) (g_NoDeed : mg "NoDeed" = some (.ref (He.ga K "NoDeed"))) (g_TooFar : mg "TooFar" = some (.ref (He.ga K "TooFar"))) (n_zip : mg "zip" = none) (n_len : mg "len" = none) (n_ValueError : mg "ValueError" = none) (kx : KExc K excNames) :
    FnOk P w K mg base (L2.CX P w) 1 f fd ["_law_e"] (spD K (c_law_word K)) :=
  fn_DD (t := t_law_word K) F sc_law_word (by wtm_at "ln") (by decide)
    (fun cdv A outer s H E hr => by exact
      (pss_cons (ps_set (i := 1) sc_law_word.nd rfl (by wtm_at "oi") (pe_lst (pa_cons (pe_callB call_isX (by rfl) n_isinstance (by decide +kernel) (pa_cons (pv 0) (pa_cons (pe_glob (v := .ref (He.ga K "BadBook")) (by rfl) g_BadBook rfl) pa_nil))) (pa_cons (pe_callB call_isX (by rfl) n_isinstance (by decide +kernel) (pa_cons (pv 0) (pa_cons (pe_glob (v := .ref (He.ga K "BadCalendar")) (by rfl) g_BadCalendar rfl) pa_nil))) (pa_cons (pe_callB call_isX (by rfl) n_isinstance (by decide +kernel) (pa_cons (pv 0) (pa_cons (pe_glob (v := .ref (He.ga K "BadFeast")) (by rfl) g_BadFeast rfl) pa_nil))) (pa_cons (pe_callB call_isX (by rfl) n_isinstance (by decide +kernel) (pa_cons (pv 0) (pa_cons (pe_glob (v := .ref (He.ga K "BadRow")) (by rfl) g_BadRow rfl) pa_nil))) pa_nil))))))
      (pss_cons (ps_set (i := 1) sc_law_word.nd rfl (by wtm_at "oi") (pe_op op_addA (pv 1) (pe_lst (pa_cons (pe_callB call_isX (by rfl) n_isinstance (by decide +kernel) (pa_cons (pv 0) (pa_cons (pe_glob (v := .ref (He.ga K "BadHouse")) (by rfl) g_BadHouse rfl) pa_nil))) (pa_cons (pe_callB call_isX (by rfl) n_isinstance (by decide +kernel) (pa_cons (pv 0) (pa_cons (pe_glob (v := .ref (He.ga K "BadNumber")) (by rfl) g_BadNumber rfl) pa_nil))) (pa_cons (pe_callB call_isX (by rfl) n_isinstance (by decide +kernel) (pa_cons (pv 0) (pa_cons (pe_glob (v := .ref (He.ga K "NoDay")) (by rfl) g_NoDay rfl) pa_nil))) (pa_cons (pe_callB call_isX (by rfl) n_isinstance (by decide +kernel) (pa_cons (pv 0) (pa_cons (pe_glob (v := .ref (He.ga K "NoRow")) (by rfl) g_NoRow rfl) pa_nil))) pa_nil)))))))
      (pss_cons (ps_set (i := 1) sc_law_word.nd rfl (by wtm_at "oi") (pe_op op_addA (pv 1) (pe_lst (pa_cons (pe_callB call_isX (by rfl) n_isinstance (by decide +kernel) (pa_cons (pv 0) (pa_cons (pe_glob (v := .ref (He.ga K "NoPiece")) (by rfl) g_NoPiece rfl) pa_nil))) (pa_cons (pe_callB call_isX (by rfl) n_isinstance (by decide +kernel) (pa_cons (pv 0) (pa_cons (pe_glob (v := .ref (He.ga K "TooTight")) (by rfl) g_TooTight rfl) pa_nil))) (pa_cons (pe_callB call_isX (by rfl) n_isinstance (by decide +kernel) (pa_cons (pv 0) (pa_cons (pe_glob (v := .ref (He.ga K "NeverDone")) (by rfl) g_NeverDone rfl) pa_nil))) pa_nil))))))
      (pss_cons (ps_set (i := 1) sc_law_word.nd rfl (by wtm_at "oi") (pe_op op_addA (pv 1) (pe_lst (pa_cons (pe_callB call_isX (by rfl) n_isinstance (by decide +kernel) (pa_cons (pv 0) (pa_cons (pe_glob (v := .ref (He.ga K "TooFar")) (by rfl) g_TooFar rfl) pa_nil))) (pa_cons (pe_callB call_isX (by rfl) n_isinstance (by decide +kernel) (pa_cons (pv 0) (pa_cons (pe_glob (v := .ref (He.ga K "NoDeed")) (by rfl) g_NoDeed rfl) pa_nil))) (pa_cons (pe_callB call_isX (by rfl) n_isinstance (by decide +kernel) (pa_cons (pv 0) (pa_cons (pe_glob (v := .ref (He.ga K "BadText")) (by rfl) g_BadText rfl) pa_nil))) pa_nil))))))
      (pss_cons (ps_set (i := 2) sc_law_word.nd rfl (by wtm_at "oi") (pe_lst (pa_cons pe_str (pa_cons pe_str (pa_cons pe_str (pa_cons pe_str (pa_cons pe_str (pa_cons pe_str (pa_cons pe_str (pa_cons pe_str (pa_cons pe_str pa_nil)))))))))))
      (pss_cons (ps_set (i := 2) sc_law_word.nd rfl (by wtm_at "oi") (pe_op op_addA (pv 2) (pe_lst (pa_cons pe_str (pa_cons pe_str (pa_cons pe_str (pa_cons pe_str (pa_cons pe_str pa_nil))))))))
      (pss_cons (by first | exact ps_setLc (i := 3) (own := [("_law_word_here", 4), ("_law_good", 5)]) (g := (gTup K 2 (gCons (gName 4) (gCons (gName 5) gNil)))) (tt := (tTruth K (tVar 5))) (te := (tVar 4)) (by rfl) sc_law_word.nd rfl rfl (sw_true rfl rfl rfl (by decide +kernel)) (pi_zip (by rfl) n_zip (pa_cons (pv 2) (pa_cons (pv 1) pa_nil))) (blkOk_by (own := [("_law_word_here", 4), ("_law_good", 5)]) (N := N_law_word) (sc := defScope s_law_word) (by decide +kernel)) (fun _ _ _ _ _ => by exact (pg_tup rfl (pgs_cons (pg_name (i := 4) sc_law_word.nd rfl (by wtm_at "oi")) (pgs_cons (pg_name (i := 5) sc_law_word.nd rfl (by wtm_at "oi")) pgs_nil)))) (fun _ _ _ _ _ => by exact (pts_one (pt_truth (pv 5) (by intro _; rfl)))) (fun _ _ _ _ _ => by exact (pv 4)) | exact ps_set (i := 3) sc_law_word.nd rfl (by wtm_at "oi") (pe_lc (own := [("_law_word_here", 4), ("_law_good", 5)]) (g := (gTup K 2 (gCons (gName 4) (gCons (gName 5) gNil)))) (tt := (tTruth K (tVar 5))) (te := (tVar 4)) (by rfl) sc_law_word.nd (pi_zip (by rfl) n_zip (pa_cons (pv 2) (pa_cons (pv 1) pa_nil))) (blkOk_by (own := [("_law_word_here", 4), ("_law_good", 5)]) (N := N_law_word) (sc := defScope s_law_word) (by decide +kernel)) (fun _ _ _ _ _ => by exact (pg_tup rfl (pgs_cons (pg_name (i := 4) sc_law_word.nd rfl (by wtm_at "oi")) (pgs_cons (pg_name (i := 5) sc_law_word.nd rfl (by wtm_at "oi")) pgs_nil)))) (fun _ _ _ _ _ => by exact (pts_one (pt_truth (pv 5) (by intro _; rfl)))) (fun _ _ _ _ _ => by exact (pv 4))))
      (pss_one (ps_ret (pe_ifExp (PW.pt (pw_and (pt_cmpR (op_eqD hr.units) (pe_callB call_len (by rfl) n_len (by decide +kernel) (pa_cons (pv 3) pa_nil)) pe_int (nomark _)) (pw_and1 (pt_truth (pe_callB call_isX (by rfl) n_isinstance (by decide +kernel) (pa_cons (pv 0) (pa_cons (pe_bltn (v := .ty "ValueError") (by rfl) n_ValueError (by decide +kernel) rfl) pa_nil))) (by intro _; rfl))))) (pe_ix ix_seq (pv 3) pe_int (fun _ _ => rfl)) pe_str)))))))))))
    (d_law_word kx)
abbrev N_law_tried : List Str := ["_law_deed", "_law_caught", "_law_e"]
theorem sc_law_tried : FnScope N_law_tried ["_law_deed"] (defScope s_law_tried) := by wtm_at "sn"
theorem gives_law_tried {X : Cx} {g : Addr} {cdv : Value} {q : Str} {k : Nat} (hr : Room (k + 1) (X.A.deeper (envOfC "_law_tried" (defScope s_law_tried) 0 g cdv))) (F_law_word : FnOk X.prog X.w X.K X.mg X.base (L2.CX X.prog X.w) 1 f_law_word fd_law_word ["_law_e"] (spD X.K (c_law_word X.K))) (B_law_word : Binds X.K fd_law_word ["_law_e"] []) (m_law_word : X.mg "_law_word" = some (.ref f_law_word)) (k_law_word : PySem.W.keepIn X.K (.ref f_law_word) = true) (g_ReadError : X.mg "ReadError" = some (.ref (He.ga X.K "ReadError"))) :
    Gives X N_law_tried "_law_tried" (defScope s_law_tried) g cdv (defBody s_law_tried) "_law_deed" q (TTd N_law_tried q (t_law_tried X.K NoX)) :=
  gives_of (fun s H td act => by
    have hr : Room (k + 1) (X.A.deeper (envOfC "_law_tried" (defScope s_law_tried) s.heap.objs.size g cdv)) := ⟨hr.1, hr.2, hr.3⟩
    exact
      (pss_cons (ps_set (i := 1) sc_law_tried.nd rfl (by wtm_at "oi") pe_non)
      (pss_cons (ps_try_kp (i := 2) rfl rfl rfl sc_law_tried.nd rfl rfl ⟨(by rfl), (by decide), .inl g_ReadError⟩ LamX.takes0 (fun W pn xe tk po => by exact (pss_one (ps_expr (act W pn xe _ _ tk)))) (fun a pn => by exact (pss_one (ps_set (i := 1) sc_law_tried.nd rfl (by wtm_at "oi") (pv 2)))))
      (pss_one (ps_ret (pe_ifExp (pt_cmp (pc_isN (pv 1)) rfl) pe_str (pe_call F_law_word (hr.mono (by omega)) (by rfl) m_law_word k_law_word B_law_word .nil (by wtm_at "pk") (pa_cons (pv 1) pa_nil))))))))
abbrev N_is_cut : List Str := ["book", "pieces", "ends", "first", "end", "at"]
theorem sc_is_cut : FnScope N_is_cut ["book", "pieces"] (defScope s_is_cut) := by wtm_at "sn"
theorem ok_is_cut {f : Addr} {fd : FuncData} (F : GD K "is_cut" "is_cut" s_is_cut f fd) (F_Book_blocks : FnOk P w K mg base (L2.CX P w) 1 f_Book_blocks fd_Book_blocks ["self"] (spD K (c_Book_blocks K))) (B_Book_blocks : Binds K fd_Book_blocks ["self"] []) (F_Book_many : FnOk P w K mg base (L2.CX P w) 1 f_Book_many fd_Book_many ["self"] (spD K (c_Book_many K))) (B_Book_many : Binds K fd_Book_many ["self"] []) (cl_Book : Cls K (He.ga K "Book")) (mm_Book_blocks : Meth K (He.ga K "Book") "blocks" f_Book_blocks) (mm_Book_many : Meth K (He.ga K "Book") "many" f_Book_many) :
    FnOk P w K mg base (L2.CX P w) 2 f fd ["book", "pieces"] (spD K (c_is_cut K)) :=
  fn_DD (t := t_is_cut K) F sc_is_cut (by wtm_at "ln") (by decide)
    (fun cdv A outer s H E hr => by exact
      (pss_cons (by first | exact ps_setLc (i := 2) (own := [("first", 3), ("end", 4)]) (g := (gTup K 2 (gCons (gName 3) (gCons (gName 4) gNil)))) (tt := tYes) (te := (tVar 4)) (by rfl) sc_is_cut.nd rfl rfl (sw_true rfl rfl rfl (by decide +kernel)) (pi_any (pe_meth0 (pv 0) cl_Book mm_Book_blocks F_Book_blocks (hr.mono (by decide)) B_Book_blocks .nil (by wtm_at "pk"))) (blkOk_by (own := [("first", 3), ("end", 4)]) (N := N_is_cut) (sc := defScope s_is_cut) (by decide +kernel)) (fun _ _ _ _ _ => by exact (pg_tup rfl (pgs_cons (pg_name (i := 3) sc_is_cut.nd rfl (by wtm_at "oi")) (pgs_cons (pg_name (i := 4) sc_is_cut.nd rfl (by wtm_at "oi")) pgs_nil)))) (fun _ _ _ _ _ => by exact pts_nil) (fun _ _ _ _ _ => by exact (pv 4)) | exact ps_set (i := 2) sc_is_cut.nd rfl (by wtm_at "oi") (pe_lc (own := [("first", 3), ("end", 4)]) (g := (gTup K 2 (gCons (gName 3) (gCons (gName 4) gNil)))) (tt := tYes) (te := (tVar 4)) (by rfl) sc_is_cut.nd (pi_any (pe_meth0 (pv 0) cl_Book mm_Book_blocks F_Book_blocks (hr.mono (by decide)) B_Book_blocks .nil (by wtm_at "pk"))) (blkOk_by (own := [("first", 3), ("end", 4)]) (N := N_is_cut) (sc := defScope s_is_cut) (by decide +kernel)) (fun _ _ _ _ _ => by exact (pg_tup rfl (pgs_cons (pg_name (i := 3) sc_is_cut.nd rfl (by wtm_at "oi")) (pgs_cons (pg_name (i := 4) sc_is_cut.nd rfl (by wtm_at "oi")) pgs_nil)))) (fun _ _ _ _ _ => by exact pts_nil) (fun _ _ _ _ _ => by exact (pv 4))))
      (pss_cons (ps_set (i := 5) sc_is_cut.nd rfl (by wtm_at "oi") pe_int)
      (pss_cons (ps_for (passes_of rfl) rfl (pi_any (pv 1)) (pg_tup rfl (pgs_cons (pg_name (i := 3) sc_is_cut.nd rfl (by wtm_at "oi")) (pgs_cons (pg_name (i := 4) sc_is_cut.nd rfl (by wtm_at "oi")) pgs_nil))) (pss_cons (ps_if (PW.pt (pw_or (pt_cmpR (op_neD hr.units) (pv 3) (pv 5) (nomark _)) (pw_or (pt_cmpR op_le (pv 4) (pv 5) (nomark _)) (pw_or1 (pt_cmpR op_notInA (pv 4) (pv 2) (by rfl)))))) (pss_one (ps_ret pe_bl)) pss_nil)
      (pss_one (ps_set (i := 5) sc_is_cut.nd rfl (by wtm_at "oi") (pv 4)))))
      (pss_one (ps_ret (pe_cmpR (op_eqD hr.units) (pv 5) (pe_meth0 (pv 0) cl_Book mm_Book_many F_Book_many (hr.mono (by decide)) B_Book_many .nil (by wtm_at "pk")) (nomark _))))))))
    (d_is_cut)
abbrev N_law_asked : List Str := ["_law_draw", "_law_book", "_law_sections_here", "_law_held", "_law_way", "_law_limit_here", "_law_many", "_law_end", "_law_found", "_law_due", "_law_less", "_law_other"]
theorem sc_law_asked : FnScope N_law_asked ["_law_draw", "_law_book", "_law_sections_here", "_law_held"] (defScope s_law_asked) := by wtm_at "sn"
theorem ok_law_asked {fd : FuncData} (F : GD K "_law_asked" "_law_asked" s_law_asked (He.fAd K ("_law_asked", none)) fd) (F_law_next : FnOk P w K mg base (L2.CX P w) 1 f_law_next fd_law_next ["_law_draw", "_law_amount"] (spD K (c_law_next K))) (B_law_next : Binds K fd_law_next ["_law_draw", "_law_amount"] []) (m_law_next : mg "_law_next" = some (.ref f_law_next)) (k_law_next : PySem.W.keepIn K (.ref f_law_next) = true) (F_law_limit : FnOk P w K mg base (L2.CX P w) 2 f_law_limit fd_law_limit ["_law_draw", "_law_sections_here"] (spD K (c_law_limit K))) (B_law_limit : Binds K fd_law_limit ["_law_draw", "_law_sections_here"] []) (m_law_limit : mg "_law_limit" = some (.ref f_law_limit)) (k_law_limit : PySem.W.keepIn K (.ref f_law_limit) = true) (F_law_lists : FnOk P w K mg base (L2.CX P w) 2 f_law_lists fd_law_lists ["_law_draw", "_law_book", "_law_sections_here", "_law_way"] (spD K (c_law_lists K))) (B_law_lists : Binds K fd_law_lists ["_law_draw", "_law_book", "_law_sections_here", "_law_way"] []) (m_law_lists : mg "_law_lists" = some (.ref f_law_lists)) (k_law_lists : PySem.W.keepIn K (.ref f_law_lists) = true) (F_Book_many : FnOk P w K mg base (L2.CX P w) 1 f_Book_many fd_Book_many ["self"] (spD K (c_Book_many K))) (B_Book_many : Binds K fd_Book_many ["self"] []) (F_Book_long : FnOk P w K mg base (L2.CX P w) 1 f_Book_long fd_Book_long ["self", "first", "end"] (spD K (c_Book_long K))) (B_Book_long : Binds K fd_Book_long ["self", "first", "end"] []) (F_law_long : FnOk P w K mg base (L2.CX P w) 1 f_law_long fd_law_long ["_law_sections_here", "_law_first", "_law_end"] (spD K (c_law_long K))) (B_law_long : Binds K fd_law_long ["_law_sections_here", "_law_first", "_law_end"] []) (m_law_long : mg "_law_long" = some (.ref f_law_long)) (k_law_long : PySem.W.keepIn K (.ref f_law_long) = true) (F_least_limit : FnOk P w K mg base (L2.CX P w) 4 f_least_limit fd_least_limit ["book", "many"] (spD K (c_least_limit K))) (B_least_limit : Binds K fd_least_limit ["book", "many"] []) (m_least_limit : mg "least_limit" = some (.ref f_least_limit)) (k_least_limit : PySem.W.keepIn K (.ref f_least_limit) = true) (F_law_cut : FnOk P w K mg base (L2.CX P w) 2 f_law_cut fd_law_cut ["_law_sections_here", "_law_limit_here"] (spD K (c_law_cut K))) (B_law_cut : Binds K fd_law_cut ["_law_sections_here", "_law_limit_here"] []) (m_law_cut : mg "_law_cut" = some (.ref f_law_cut)) (k_law_cut : PySem.W.keepIn K (.ref f_law_cut) = true) (F_fewest : FnOk P w K mg base (L2.CX P w) 3 f_fewest fd_fewest ["book", "limit"] (spD K (c_fewest K))) (B_fewest : Binds K fd_fewest ["book", "limit"] []) (m_fewest : mg "fewest" = some (.ref f_fewest)) (k_fewest : PySem.W.keepIn K (.ref f_fewest) = true) (F_law_word : FnOk P w K mg base (L2.CX P w) 1 f_law_word fd_law_word ["_law_e"] (spD K (c_law_word K))) (B_law_word : Binds K fd_law_word ["_law_e"] []) (m_law_word : mg "_law_word" = some (.ref f_law_word)) (k_law_word : PySem.W.keepIn K (.ref f_law_word) = true) (FT_law_tried : GD K "_law_tried" "_law_tried" s_law_tried f_law_tried fd_law_tried) (B_law_tried : Binds K fd_law_tried ["_law_deed"] []) (m_law_tried : mg "_law_tried" = some (.ref f_law_tried)) (F_is_cut : FnOk P w K mg base (L2.CX P w) 2 f_is_cut fd_is_cut ["book", "pieces"] (spD K (c_is_cut K))) (B_is_cut : Binds K fd_is_cut ["book", "pieces"] []) (m_is_cut : mg "is_cut" = some (.ref f_is_cut)) (k_is_cut : PySem.W.keepIn K (.ref f_is_cut) = true) (n_len : mg "len" = none) (cl_Book : Cls K (He.ga K "Book")) (mm_Book_many : Meth K (He.ga K "Book") "many" f_Book_many) (mm_Book_long : Meth K (He.ga K "Book") "long" f_Book_long) (g_ReadError : mg "ReadError" = some (.ref (He.ga K "ReadError"))) (n_list : mg "list" = none) (kx : KExc K excNames) (TB : LamX.TabB base mg (He.cT K ("_law_asked", none)).1 (He.cT K ("_law_asked", none)).2) :
    FnOk P w K mg base (L2.CX P w) 7 (He.fAd K ("_law_asked", none)) fd ["_law_draw", "_law_book", "_law_sections_here", "_law_held"] (spD K (c_law_asked K)) :=
  fn_DDc (at_ := ("_law_asked", none)) (t := t_law_asked K) F sc_law_asked (by wtm_at "ln") (by decide)
    (fun A outer s H E hr => by exact
      (pss_cons (ps_set (i := 4) sc_law_asked.nd rfl (by wtm_at "oi") (pe_call F_law_next (hr.mono (by decide)) (by rfl) m_law_next k_law_next B_law_next .nil (by wtm_at "pk") (pa_cons (pv 0) (pa_cons pe_int pa_nil))))
      (pss_cons (ps_set (i := 5) sc_law_asked.nd rfl (by wtm_at "oi") (pe_call F_law_limit (hr.mono (by decide)) (by rfl) m_law_limit k_law_limit B_law_limit .nil (by wtm_at "pk") (pa_cons (pv 0) (pa_cons (pv 2) pa_nil))))
      (pss_cons (ps_set (i := 6) sc_law_asked.nd rfl (by wtm_at "oi") (pe_op op_addA pe_int (pe_call F_law_next (hr.mono (by decide)) (by rfl) m_law_next k_law_next B_law_next .nil (by wtm_at "pk") (pa_cons (pv 0) (pa_cons pe_int pa_nil)))))
      (pss_cons (ps_if (pt_cmpR op_lt (pv 4) pe_int (nomark _)) (pss_one (ps_ret (pe_call F_law_lists (hr.mono (by decide)) (by rfl) m_law_lists k_law_lists B_law_lists .nil (by wtm_at "pk") (pa_cons (pv 0) (pa_cons (pv 1) (pa_cons (pv 2) (pa_cons (pv 4) pa_nil))))))) pss_nil)
      (pss_cons (ps_if (pt_cmpR (op_eqD hr.units) (pv 4) pe_int (nomark _)) (pss_cons (ps_set (i := 7) sc_law_asked.nd rfl (by wtm_at "oi") (pe_call F_law_next (hr.mono (by decide)) (by rfl) m_law_next k_law_next B_law_next .nil (by wtm_at "pk") (pa_cons (pv 0) (pa_cons (pe_op op_addA (pe_callB call_len (by rfl) n_len (by decide +kernel) (pa_cons (pv 2) pa_nil)) pe_int) pa_nil))))
      (pss_one (ps_ret (pe_and (pe_cmpR (op_eqD hr.units) (pe_meth0 (pv 1) cl_Book mm_Book_many F_Book_many (hr.mono (by decide)) B_Book_many .nil (by wtm_at "pk")) (pe_callB call_len (by rfl) n_len (by decide +kernel) (pa_cons (pv 2) pa_nil)) (nomark _)) (pe_one (pe_cmpR (op_eqD hr.units) (pe_meth (pv 1) cl_Book mm_Book_long F_Book_long (hr.mono (by decide)) B_Book_long .nil (by wtm_at "pk") (pa_cons pe_int (pa_cons (pv 7) pa_nil))) (pe_call F_law_long (hr.mono (by decide)) (by rfl) m_law_long k_law_long B_law_long .nil (by wtm_at "pk") (pa_cons (pv 2) (pa_cons pe_int (pa_cons (pv 7) pa_nil)))) (nomark _))))))) pss_nil)
      (pss_cons (ps_if (pt_cmpR (op_eqD hr.units) (pv 4) pe_int (nomark _)) (pss_cons (ps_set (i := 8) sc_law_asked.nd rfl (by wtm_at "oi") (pe_call F_least_limit (hr.mono (by decide)) (by rfl) m_least_limit k_least_limit B_least_limit .nil (by wtm_at "pk") (pa_cons (pv 1) (pa_cons (pv 6) pa_nil))))
      (pss_cons (ps_set (i := 9) sc_law_asked.nd rfl (by wtm_at "oi") (pe_call F_law_cut (hr.mono (by decide)) (by rfl) m_law_cut k_law_cut B_law_cut .nil (by wtm_at "pk") (pa_cons (pv 2) (pa_cons (pv 8) pa_nil))))
      (pss_cons (ps_set (i := 10) sc_law_asked.nd rfl (by wtm_at "oi") (pe_call F_law_cut (hr.mono (by decide)) (by rfl) m_law_cut k_law_cut B_law_cut .nil (by wtm_at "pk") (pa_cons (pv 2) (pa_cons (pe_op op_sub (pv 8) pe_int) pa_nil))))
      (pss_one (ps_ret (pe_and (pe_cmp (pc_notN (pv 9)) rfl) (pe_and (pe_cmpR op_le (pe_callB call_len (by rfl) n_len (by decide +kernel) (pa_cons (pv 9) pa_nil)) (pv 6) (nomark _)) (pe_one (pe_or (pe_cmp (pc_isN (pv 10)) rfl) (pe_one (pe_cmpR op_gt (pe_callB call_len (by rfl) n_len (by decide +kernel) (pa_cons (pv 10) pa_nil)) (pv 6) (nomark _)))))))))))) pss_nil)
      (pss_cons (ps_if (pt_cmpR (op_eqD hr.units) (pv 4) pe_int (nomark _)) (pss_one (ps_ret (pe_and (pe_cmpR (op_eqD hr.units) (pe_lm (k := 4) (c := (He.cT K ("_law_asked", none)).1) (p := (He.cT K ("_law_asked", none)).2) (q := "_law_asked.<locals>.<lambda>") (by rfl) m_law_tried FT_law_tried B_law_tried sc_law_tried rfl (by first | exact Or.inl rfl | exact Or.inr (Or.inl rfl)) (by rfl) (fun cdv hr => gives_law_tried hr F_law_word B_law_word m_law_word k_law_word g_ReadError) TB rfl (hr.mono (by decide)) (LamX.lamS_by (by rfl)) (by rfl) (fun _ _ _ _ _ => by rfl) (fun A outer s H E f c1 hr => by exact (pe_call F_fewest (hr.mono (by decide)) (by rfl) m_fewest k_fewest B_fewest .nil (by wtm_at "pk") (pa_cons (pv 1) (pa_cons (pe_un un_neg (pv 6)) pa_nil))))) pe_str (nomark _)) (pe_one (pe_cmpR op_isBl (pe_call F_is_cut (hr.mono (by decide)) (by rfl) m_is_cut k_is_cut B_is_cut .nil (by wtm_at "pk") (pa_cons (pv 1) (pa_cons (pe_lst pa_nil) pa_nil))) pe_bl (nomark _)))))) pss_nil)
      (pss_cons (ps_set (i := 9) sc_law_asked.nd rfl (by wtm_at "oi") (pe_call F_law_cut (hr.mono (by decide)) (by rfl) m_law_cut k_law_cut B_law_cut .nil (by wtm_at "pk") (pa_cons (pv 2) (pa_cons (pv 5) pa_nil))))
      (pss_cons (ps_if (pt_cmp (pc_isN (pv 9)) rfl) (pss_one (ps_ret (pe_cmpR (op_eqD hr.units) (pe_lm (k := 4) (c := (He.cT K ("_law_asked", none)).1) (p := (He.cT K ("_law_asked", none)).2) (q := "_law_asked.<locals>.<lambda>") (by rfl) m_law_tried FT_law_tried B_law_tried sc_law_tried rfl (by first | exact Or.inl rfl | exact Or.inr (Or.inl rfl)) (by rfl) (fun cdv hr => gives_law_tried hr F_law_word B_law_word m_law_word k_law_word g_ReadError) TB rfl (hr.mono (by decide)) (LamX.lamS_by (by rfl)) (by rfl) (fun _ _ _ _ _ => by rfl) (fun A outer s H E f c1 hr => by exact (pe_call F_fewest (hr.mono (by decide)) (by rfl) m_fewest k_fewest B_fewest .nil (by wtm_at "pk") (pa_cons (pv 1) (pa_cons (pv 5) pa_nil))))) pe_str (nomark _)))) pss_nil)
      (pss_cons (ps_set (i := 8) sc_law_asked.nd rfl (by wtm_at "oi") (pe_call F_fewest (hr.mono (by decide)) (by rfl) m_fewest k_fewest B_fewest .nil (by wtm_at "pk") (pa_cons (pv 1) (pa_cons (pv 5) pa_nil))))
      (pss_cons (ps_if (PW.pt (pw_or (pt_cmpR (op_neD hr.units) (pv 8) (pv 9) (nomark _)) (pw_or1 (pt_cmpR op_notBl (pe_call F_is_cut (hr.mono (by decide)) (by rfl) m_is_cut k_is_cut B_is_cut .nil (by wtm_at "pk") (pa_cons (pv 1) (pa_cons (pv 8) pa_nil))) pe_bl (nomark _))))) (pss_one (ps_ret pe_bl)) pss_nil)
      (pss_cons (ps_expr (pe_bm PySem.F.plainAttrs_list PySem.F.slot_list_append PySem.F.type_list_append mt_append (pv 3) (pa_cons (pe_tup (pa_cons (pv 8) (pa_cons (pe_callTy call_list_of (by rfl) n_list (by decide +kernel) (pa_cons (pv 8) pa_nil)) pa_nil))) pa_nil)))
      (pss_cons (ps_set (i := 11) sc_law_asked.nd rfl (by wtm_at "oi") (pe_call F_fewest (hr.mono (by decide)) (by rfl) m_fewest k_fewest B_fewest .nil (by wtm_at "pk") (pa_cons (pv 1) (pa_cons (pv 5) pa_nil))))
      (pss_cons (ps_expr (pe_bm0 PySem.F.plainAttrs_list PySem.F.slot_list_pop PySem.F.type_list_pop mt_pop (pv 11)))
      (pss_one (ps_ret (pe_cmpR op_isBl (pe_call F_is_cut (hr.mono (by decide)) (by rfl) m_is_cut k_is_cut B_is_cut .nil (by wtm_at "pk") (pa_cons (pv 1) (pa_cons (pv 11) pa_nil))) pe_bl (nomark _)))))))))))))))))))
    (d_law_asked kx)
abbrev N_law : List Str := ["_law_script", "_law_draw", "_law_same", "_law_at", "_law_both", "_law_handed", "_law_books", "_law_held", "_law_k", "_law_cell", "_law_one", "_law_found", "_law_kept"]
theorem sc_law : FnScope N_law ["_law_script"] (defScope s_law) := by wtm_at "sn"
theorem ok_law {f : Addr} {fd : FuncData} (F : GD K "law" "law" s_law f fd) (F_law_state : FnOk P w K mg base (L2.CX P w) 1 f_law_state fd_law_state ["_law_script", "_law_k"] (spD K (c_law_state K))) (B_law_state : Binds K fd_law_state ["_law_script", "_law_k"] []) (m_law_state : mg "_law_state" = some (.ref f_law_state)) (k_law_state : PySem.W.keepIn K (.ref f_law_state) = true) (F_law_next : FnOk P w K mg base (L2.CX P w) 1 f_law_next fd_law_next ["_law_draw", "_law_amount"] (spD K (c_law_next K))) (B_law_next : Binds K fd_law_next ["_law_draw", "_law_amount"] []) (m_law_next : mg "_law_next" = some (.ref f_law_next)) (k_law_next : PySem.W.keepIn K (.ref f_law_next) = true) (F_law_sections : FnOk P w K mg base (L2.CX P w) 3 f_law_sections fd_law_sections ["_law_draw", "_law_most"] (spD K (c_law_sections K))) (B_law_sections : Binds K fd_law_sections ["_law_draw", "_law_most"] []) (m_law_sections : mg "_law_sections" = some (.ref f_law_sections)) (k_law_sections : PySem.W.keepIn K (.ref f_law_sections) = true) (F_Book_init : FnOk P w K mg base (L2.CX P w) 4 f_Book_init fd_Book_init ["self", "sections"] (spD K (c_Book_init K))) (B_Book_init : Binds K fd_Book_init ["self", "sections"] []) (M_Book : Mk K (He.ga K "Book") f_Book_init) (F_law_asked : FnOk P w K mg base (L2.CX P w) 7 f_law_asked fd_law_asked ["_law_draw", "_law_book", "_law_sections_here", "_law_held"] (spD K (c_law_asked K))) (B_law_asked : Binds K fd_law_asked ["_law_draw", "_law_book", "_law_sections_here", "_law_held"] []) (m_law_asked : mg "_law_asked" = some (.ref f_law_asked)) (k_law_asked : PySem.W.keepIn K (.ref f_law_asked) = true) (n_list : mg "list" = none) (g_Book : mg "Book" = some (.ref (He.ga K "Book"))) (n_len : mg "len" = none) (n_range : mg "range" = none) :
    FnOk P w K mg base (L2.CX P w) 8 f fd ["_law_script"] (spD K (c_law K)) :=
  fn_DD (t := t_law K) F sc_law (by wtm_at "ln") (by decide)
    (fun cdv A outer s H E hr => by exact
      (pss_cons (ps_set (i := 1) sc_law.nd rfl (by wtm_at "oi") (pe_call F_law_state (hr.mono (by decide)) (by rfl) m_law_state k_law_state B_law_state .nil (by wtm_at "pk") (pa_cons (pv 0) (pa_cons pe_int pa_nil))))
      (pss_cons (ps_set (i := 2) sc_law.nd rfl (by wtm_at "oi") (pe_call F_law_next (hr.mono (by decide)) (by rfl) m_law_next k_law_next B_law_next .nil (by wtm_at "pk") (pa_cons (pv 1) (pa_cons pe_int pa_nil))))
      (pss_cons (ps_set (i := 3) sc_law.nd rfl (by wtm_at "oi") (pe_call F_law_next (hr.mono (by decide)) (by rfl) m_law_next k_law_next B_law_next .nil (by wtm_at "pk") (pa_cons (pv 1) (pa_cons pe_int pa_nil))))
      (pss_cons (ps_set (i := 4) sc_law.nd rfl (by wtm_at "oi") (pe_lst (pa_cons (pe_call F_law_sections (hr.mono (by decide)) (by rfl) m_law_sections k_law_sections B_law_sections .nil (by wtm_at "pk") (pa_cons (pv 1) (pa_cons (pe_ix ix_seq (pe_lst (pa_cons pe_int (pa_cons pe_int (pa_cons pe_int pa_nil)))) (pe_call F_law_next (hr.mono (by decide)) (by rfl) m_law_next k_law_next B_law_next .nil (by wtm_at "pk") (pa_cons (pv 1) (pa_cons pe_int pa_nil))) (fun _ _ => rfl)) pa_nil))) pa_nil)))
      (pss_cons (ps_expr (pe_bm PySem.F.plainAttrs_list PySem.F.slot_list_append PySem.F.type_list_append mt_append (pv 4) (pa_cons (pe_ifExp (pt_cmpR (op_eqD hr.units) (pv 2) pe_int (nomark _)) (pe_callTy call_list_of (by rfl) n_list (by decide +kernel) (pa_cons (pe_ix ix_seq (pv 4) pe_int (fun _ _ => rfl)) pa_nil)) (pe_call F_law_sections (hr.mono (by decide)) (by rfl) m_law_sections k_law_sections B_law_sections .nil (by wtm_at "pk") (pa_cons (pe_call F_law_state (hr.mono (by decide)) (by rfl) m_law_state k_law_state B_law_state .nil (by wtm_at "pk") (pa_cons (pv 0) (pa_cons pe_int pa_nil))) (pa_cons pe_int pa_nil)))) pa_nil)))
      (pss_cons (ps_set (i := 5) sc_law.nd rfl (by wtm_at "oi") (pe_callTy call_list_of (by rfl) n_list (by decide +kernel) (pa_cons (pe_ix ix_seq (pv 4) pe_int (fun _ _ => rfl)) pa_nil)))
      (pss_cons (ps_set (i := 6) sc_law.nd rfl (by wtm_at "oi") (pe_lst (pa_cons (pe_make M_Book F_Book_init (hr.mono (by decide)) (by rfl) g_Book B_Book_init .nil (by wtm_at "pk") (pa_cons (pv 5) pa_nil)) pa_nil)))
      (pss_cons (ps_asg (pe_tup (pa_cons pe_int (pa_cons pe_bl pa_nil))) (pg_sub (pv 5) (pe_op op_modA (pv 3) (pe_callB call_len (by rfl) n_len (by decide +kernel) (pa_cons (pv 5) pa_nil))) set_list))
      (pss_cons (ps_expr (pe_bm0 PySem.F.plainAttrs_list PySem.F.slot_list_clear PySem.F.type_list_clear mt_clear (pv 5)))
      (pss_cons (ps_expr (pe_bm PySem.F.plainAttrs_list PySem.F.slot_list_extend PySem.F.type_list_extend mt_extend (pv 5) (pa_cons (pe_ix ix_seq (pv 4) pe_int (fun _ _ => rfl)) pa_nil)))
      (pss_cons (ps_expr (pe_bm PySem.F.plainAttrs_list PySem.F.slot_list_append PySem.F.type_list_append mt_append (pv 6) (pa_cons (pe_make M_Book F_Book_init (hr.mono (by decide)) (by rfl) g_Book B_Book_init .nil (by wtm_at "pk") (pa_cons (pv 5) pa_nil)) pa_nil)))
      (pss_cons (ps_expr (pe_bm PySem.F.plainAttrs_list PySem.F.slot_list_append PySem.F.type_list_append mt_append (pv 5) (pa_cons (pe_tup (pa_cons (pe_op op_pow pe_int pe_int) (pa_cons pe_bl pa_nil))) pa_nil)))
      (pss_cons (ps_set (i := 7) sc_law.nd rfl (by wtm_at "oi") (pe_lst pa_nil))
      (pss_cons (ps_for (passes_of rfl) rfl (pi_range1 (by rfl) n_range (pa_cons pe_int pa_nil)) (pg_name (i := 8) sc_law.nd rfl (by wtm_at "oi")) (pss_cons (ps_set (i := 9) sc_law.nd rfl (by wtm_at "oi") (pe_call F_law_state (hr.mono (by decide)) (by rfl) m_law_state k_law_state B_law_state .nil (by wtm_at "pk") (pa_cons (pv 0) (pa_cons (pe_op op_addA pe_int (pv 8)) pa_nil))))
      (pss_cons (ps_set (i := 10) sc_law.nd rfl (by wtm_at "oi") (pe_call F_law_next (hr.mono (by decide)) (by rfl) m_law_next k_law_next B_law_next .nil (by wtm_at "pk") (pa_cons (pv 9) (pa_cons pe_int pa_nil))))
      (pss_one (ps_if (pt_not (pt_truth (pe_call F_law_asked (hr.mono (by decide)) (by rfl) m_law_asked k_law_asked B_law_asked .nil (by wtm_at "pk") (pa_cons (pv 9) (pa_cons (pe_ix ix_seq (pv 6) (pv 10) (fun _ _ => rfl)) (pa_cons (pe_ix ix_seq (pv 4) (pv 10) (fun _ _ => rfl)) (pa_cons (pv 7) pa_nil))))) (by intro _; rfl))) (pss_one (ps_ret pe_bl)) pss_nil)))))
      (pss_one (ps_ret (pe_cmpR (op_eqD hr.units) (pe_lc (own := [("_law_found", 11), ("_law_kept", 12)]) (g := (gTup K 2 (gCons (gName 11) (gCons (gName 12) gNil)))) (tt := (tTest (tOp (rNeD K) (tVar 11) (tVar 12)))) (te := (tC (.int 1))) (by rfl) sc_law.nd (pi_any (pv 7)) (blkOk_by (own := [("_law_found", 11), ("_law_kept", 12)]) (N := N_law) (sc := defScope s_law) (by decide +kernel)) (fun _ _ _ _ _ => by exact (pg_tup rfl (pgs_cons (pg_name (i := 11) sc_law.nd rfl (by wtm_at "oi")) (pgs_cons (pg_name (i := 12) sc_law.nd rfl (by wtm_at "oi")) pgs_nil)))) (fun _ _ _ _ _ => by exact (pts_one (pt_cmpR (op_neD hr.units) (pv 11) (pv 12) (nomark _)))) (fun _ _ _ _ _ => by exact pe_int)) (pe_lst pa_nil) (nomark _)))))))))))))))))))
    (d_law)
end
/-! ### the end -/
theorem lawStart (K : PySem.W.Frag) (ns : List Int) (hl : ns.length ≤ 63) : c_law K [.rdl (ns.map D.int)] (tabsM K tq) (fun d _ => d = .bl true) (fun _ _ _ => False) := ⟨ns, rfl, hl, ⟨0, rfl⟩, fun _ => rfl⟩
set_option maxHeartbeats 0 in
theorem facts {P : Program} {w : World} {K : PySem.W.Frag} {h : Heap} {mg : Str → Option Value} {f : Addr} (X : K.In h) (G : h.Ns mainGlobals mg) (hfa : mg ("law" : Str) = some (.ref f)) (c : He.SaysD fas fns K) (cx : exAll exs K = true) :
    ∃ fd : FuncData, (∀ (s : Shared) (v : Value), BindsTo s fd ⟨[v], []⟩ [("_law_script", v)]) ∧ ∀ base : Heap, K.In base → base.Ns mainGlobals mg → (∀ p ∈ tq.map fun z => He.cT K z.1, LamX.TabB base mg p.1 p.2) → FnOk P w K mg base (L2.CX P w) 8 f fd ["_law_script"] (spD K (c_law K)) := by
  have e := hfa.symm.trans (He.glo_ok X G (c.fact 61 (f := .glo "law") rfl))
  cases e
  have q0 := He.free_ok X G (c.fact 0 (f := .free "len") rfl)
  have q1 := He.free_ok X G (c.fact 1 (f := .free "range") rfl)
  have q2 := He.glo_ok X G (c.fact 2 (f := .glo "_law_next") rfl)
  have q3 := He.free_ok X G (c.fact 5 (f := .free "isinstance") rfl)
  have q4 := He.free_ok X G (c.fact 6 (f := .free "bool") rfl)
  have q5 := He.free_ok X G (c.fact 11 (f := .free "list") rfl)
  have q6 := He.exc_ok (c.fact 15 (f := .exc "BadBook") rfl)
  have q7 := He.glo_ok X G (c.fact 16 (f := .glo "BadBook") rfl)
  have q8 := He.cls_ok (c.fact 17 (f := .cls "Book") rfl)
  have q9 := He.noat_ok (c.fact 18 (f := .noat "Book" "parts") rfl)
  have q10 := He.free_ok X G (c.fact 19 (f := .free "sum") rfl)
  have q11 := He.free_ok X G (c.fact 20 (f := .free "enumerate") rfl)
  have q12 := He.glo_ok X G (c.fact 21 (f := .glo "_law_long") rfl)
  have q13 := He.glo_ok X G (c.fact 22 (f := .glo "_law_blocks") rfl)
  have q14 := He.free_ok X G (c.fact 23 (f := .free "max") rfl)
  have q15 := He.meth_ok (c.fact 25 (f := .meth "Book" "blocks") rfl)
  have q16 := He.exc_ok (c.fact 26 (f := .exc "BadNumber") rfl)
  have q17 := He.glo_ok X G (c.fact 27 (f := .glo "BadNumber") rfl)
  have q18 := He.meth_ok (c.fact 28 (f := .meth "Book" "long") rfl)
  have q19 := He.glo_ok X G (c.fact 29 (f := .glo "ReadError") rfl)
  have q20 := He.glo_ok X G (c.fact 31 (f := .glo "TooTight") rfl)
  have q21 := He.glo_ok X G (c.fact 34 (f := .glo "fewest") rfl)
  have q22 := He.meth_ok (c.fact 35 (f := .meth "Book" "many") rfl)
  obtain ⟨fd_law_state, G0_law_state⟩ := c.def_ 0 (d := dd_law_state) rfl
  have G_law_state : GD K "_law_state" "_law_state" s_law_state (He.ga K "_law_state") fd_law_state := G0_law_state
  have B_law_state : Binds K fd_law_state ["_law_script", "_law_k"] [] := G_law_state.bindsN fun _ _ _ _ _ _ us hl => match us, hl with | [_, _], _ => rfl
  obtain ⟨fd_law_next, G0_law_next⟩ := c.def_ 1 (d := dd_law_next) rfl
  have G_law_next : GD K "_law_next" "_law_next" s_law_next (He.ga K "_law_next") fd_law_next := G0_law_next
  have B_law_next : Binds K fd_law_next ["_law_draw", "_law_amount"] [] := G_law_next.bindsN fun _ _ _ _ _ _ us hl => match us, hl with | [_, _], _ => rfl
  obtain ⟨fd_law_pick, G0_law_pick⟩ := c.def_ 2 (d := dd_law_pick) rfl
  have G_law_pick : GD K "_law_pick" "_law_pick" s_law_pick (He.ga K "_law_pick") fd_law_pick := G0_law_pick
  have B_law_pick : Binds K fd_law_pick ["_law_draw", "_law_some"] [] := G_law_pick.bindsN fun _ _ _ _ _ _ us hl => match us, hl with | [_, _], _ => rfl
  obtain ⟨fd_law_sections, G0_law_sections⟩ := c.def_ 3 (d := dd_law_sections) rfl
  have G_law_sections : GD K "_law_sections" "_law_sections" s_law_sections (He.ga K "_law_sections") fd_law_sections := G0_law_sections
  have B_law_sections : Binds K fd_law_sections ["_law_draw", "_law_most"] [] := G_law_sections.bindsN fun _ _ _ _ _ _ us hl => match us, hl with | [_, _], _ => rfl
  obtain ⟨fd_is_number, G0_is_number⟩ := c.def_ 4 (d := dd_is_number) rfl
  have G_is_number : GD K "is_number" "is_number" s_is_number (He.ga K "is_number") fd_is_number := G0_is_number
  have B_is_number : Binds K fd_is_number ["thing", "least", "most"] [] := G_is_number.bindsN fun _ _ _ _ _ _ us hl => match us, hl with | [_, _, _], _ => rfl
  obtain ⟨fd_is_section, G0_is_section⟩ := c.def_ 5 (d := dd_is_section) rfl
  have G_is_section : GD K "is_section" "is_section" s_is_section (He.ga K "is_section") fd_is_section := G0_is_section
  have B_is_section : Binds K fd_is_section ["thing"] [] := G_is_section.bindsN fun _ _ _ _ _ _ us hl => match us, hl with | [_], _ => rfl
  obtain ⟨fd_are_sections, G0_are_sections⟩ := c.def_ 6 (d := dd_are_sections) rfl
  have G_are_sections : GD K "are_sections" "are_sections" s_are_sections (He.ga K "are_sections") fd_are_sections := G0_are_sections
  have B_are_sections : Binds K fd_are_sections ["thing"] [] := G_are_sections.bindsN fun _ _ _ _ _ _ us hl => match us, hl with | [_], _ => rfl
  obtain ⟨fd_Book_init, G0_Book_init⟩ := c.def_ 7 (d := dd_Book_init) rfl
  have G_Book_init : GD K "__init__" "Book.__init__" s_Book_init (He.ma K (He.ga K "Book") "__init__") fd_Book_init := G0_Book_init
  have B_Book_init : Binds K fd_Book_init ["self", "sections"] [] := G_Book_init.bindsN fun _ _ _ _ _ _ us hl => match us, hl with | [_, _], _ => rfl
  obtain ⟨fd_law_long, G0_law_long⟩ := c.def_ 8 (d := dd_law_long) rfl
  have G_law_long : GD K "_law_long" "_law_long" s_law_long (He.ga K "_law_long") fd_law_long := G0_law_long
  have B_law_long : Binds K fd_law_long ["_law_sections_here", "_law_first", "_law_end"] [] := G_law_long.bindsN fun _ _ _ _ _ _ us hl => match us, hl with | [_, _, _], _ => rfl
  obtain ⟨fd_law_blocks, G0_law_blocks⟩ := c.def_ 9 (d := dd_law_blocks) rfl
  have G_law_blocks : GD K "_law_blocks" "_law_blocks" s_law_blocks (He.ga K "_law_blocks") fd_law_blocks := G0_law_blocks
  have B_law_blocks : Binds K fd_law_blocks ["_law_sections_here"] [] := G_law_blocks.bindsN fun _ _ _ _ _ _ us hl => match us, hl with | [_], _ => rfl
  obtain ⟨fd_law_limit, G0_law_limit⟩ := c.def_ 10 (d := dd_law_limit) rfl
  have G_law_limit : GD K "_law_limit" "_law_limit" s_law_limit (He.ga K "_law_limit") fd_law_limit := G0_law_limit
  have B_law_limit : Binds K fd_law_limit ["_law_draw", "_law_sections_here"] [] := G_law_limit.bindsN fun _ _ _ _ _ _ us hl => match us, hl with | [_, _], _ => rfl
  obtain ⟨fd_Book_sections, G0_Book_sections⟩ := c.def_ 11 (d := dd_Book_sections) rfl
  have G_Book_sections : GD K "sections" "Book.sections" s_Book_sections (He.ma K (He.ga K "Book") "sections") fd_Book_sections := G0_Book_sections
  have B_Book_sections : Binds K fd_Book_sections ["self"] [] := G_Book_sections.bindsN fun _ _ _ _ _ _ us hl => match us, hl with | [_], _ => rfl
  obtain ⟨fd_Book_blocks, G0_Book_blocks⟩ := c.def_ 12 (d := dd_Book_blocks) rfl
  have G_Book_blocks : GD K "blocks" "Book.blocks" s_Book_blocks (He.ma K (He.ga K "Book") "blocks") fd_Book_blocks := G0_Book_blocks
  have B_Book_blocks : Binds K fd_Book_blocks ["self"] [] := G_Book_blocks.bindsN fun _ _ _ _ _ _ us hl => match us, hl with | [_], _ => rfl
  obtain ⟨fd_law_lists, G0_law_lists⟩ := c.def_ 13 (d := dd_law_lists) rfl
  have G_law_lists : GD K "_law_lists" "_law_lists" s_law_lists (He.ga K "_law_lists") fd_law_lists := G0_law_lists
  have B_law_lists : Binds K fd_law_lists ["_law_draw", "_law_book", "_law_sections_here", "_law_way"] [] := G_law_lists.bindsN fun _ _ _ _ _ _ us hl => match us, hl with | [_, _, _, _], _ => rfl
  obtain ⟨fd_Book_many, G0_Book_many⟩ := c.def_ 14 (d := dd_Book_many) rfl
  have G_Book_many : GD K "many" "Book.many" s_Book_many (He.ma K (He.ga K "Book") "many") fd_Book_many := G0_Book_many
  have B_Book_many : Binds K fd_Book_many ["self"] [] := G_Book_many.bindsN fun _ _ _ _ _ _ us hl => match us, hl with | [_], _ => rfl
  obtain ⟨fd_Book_long, G0_Book_long⟩ := c.def_ 15 (d := dd_Book_long) rfl
  have G_Book_long : GD K "long" "Book.long" s_Book_long (He.ma K (He.ga K "Book") "long") fd_Book_long := G0_Book_long
  have B_Book_long : Binds K fd_Book_long ["self", "first", "end"] [] := G_Book_long.bindsN fun _ _ _ _ _ _ us hl => match us, hl with | [_, _, _], _ => rfl
  obtain ⟨fd_longest_block, G0_longest_block⟩ := c.def_ 16 (d := dd_longest_block) rfl
  have G_longest_block : GD K "longest_block" "longest_block" s_longest_block (He.ga K "longest_block") fd_longest_block := G0_longest_block
  have B_longest_block : Binds K fd_longest_block ["book"] [] := G_longest_block.bindsN fun _ _ _ _ _ _ us hl => match us, hl with | [_], _ => rfl
  obtain ⟨fd_first_too_long, G0_first_too_long⟩ := c.def_ 17 (d := dd_first_too_long) rfl
  have G_first_too_long : GD K "first_too_long" "first_too_long" s_first_too_long (He.ga K "first_too_long") fd_first_too_long := G0_first_too_long
  have B_first_too_long : Binds K fd_first_too_long ["book", "limit"] [] := G_first_too_long.bindsN fun _ _ _ _ _ _ us hl => match us, hl with | [_, _], _ => rfl
  obtain ⟨fd_TooTight_init, G0_TooTight_init⟩ := c.def_ 18 (d := dd_TooTight_init) rfl
  have G_TooTight_init : GD K "__init__" "TooTight.__init__" s_TooTight_init (He.ma K (He.ga K "TooTight") "__init__") fd_TooTight_init := G0_TooTight_init
  have B_TooTight_init : Binds K fd_TooTight_init ["self", "block"] [] := G_TooTight_init.bindsN fun _ _ _ _ _ _ us hl => match us, hl with | [_, _], _ => rfl
  obtain ⟨fd_fewest, G0_fewest⟩ := c.def_ 19 (d := dd_fewest) rfl
  have G_fewest : GD K "fewest" "fewest" s_fewest (He.ga K "fewest") fd_fewest := G0_fewest
  have B_fewest : Binds K fd_fewest ["book", "limit"] [] := G_fewest.bindsN fun _ _ _ _ _ _ us hl => match us, hl with | [_, _], _ => rfl
  obtain ⟨fd_least_limit, G0_least_limit⟩ := c.def_ 20 (d := dd_least_limit) rfl
  have G_least_limit : GD K "least_limit" "least_limit" s_least_limit (He.ga K "least_limit") fd_least_limit := G0_least_limit
  have B_least_limit : Binds K fd_least_limit ["book", "many"] [] := G_least_limit.bindsN fun _ _ _ _ _ _ us hl => match us, hl with | [_, _], _ => rfl
  obtain ⟨fd_law_cut, G0_law_cut⟩ := c.def_ 21 (d := dd_law_cut) rfl
  have G_law_cut : GD K "_law_cut" "_law_cut" s_law_cut (He.ga K "_law_cut") fd_law_cut := G0_law_cut
  have B_law_cut : Binds K fd_law_cut ["_law_sections_here", "_law_limit_here"] [] := G_law_cut.bindsN fun _ _ _ _ _ _ us hl => match us, hl with | [_, _], _ => rfl
  obtain ⟨fd_law_word, G0_law_word⟩ := c.def_ 22 (d := dd_law_word) rfl
  have G_law_word : GD K "_law_word" "_law_word" s_law_word (He.ga K "_law_word") fd_law_word := G0_law_word
  have B_law_word : Binds K fd_law_word ["_law_e"] [] := G_law_word.bindsN fun _ _ _ _ _ _ us hl => match us, hl with | [_], _ => rfl
  obtain ⟨fd_law_tried, G0_law_tried⟩ := c.def_ 23 (d := dd_law_tried) rfl
  have G_law_tried : GD K "_law_tried" "_law_tried" s_law_tried (He.ga K "_law_tried") fd_law_tried := G0_law_tried
  have B_law_tried : Binds K fd_law_tried ["_law_deed"] [] := G_law_tried.bindsN fun _ _ _ _ _ _ us hl => match us, hl with | [_], _ => rfl
  obtain ⟨fd_is_cut, G0_is_cut⟩ := c.def_ 24 (d := dd_is_cut) rfl
  have G_is_cut : GD K "is_cut" "is_cut" s_is_cut (He.ga K "is_cut") fd_is_cut := G0_is_cut
  have B_is_cut : Binds K fd_is_cut ["book", "pieces"] [] := G_is_cut.bindsN fun _ _ _ _ _ _ us hl => match us, hl with | [_, _], _ => rfl
  obtain ⟨fd_law_asked, G0_law_asked⟩ := c.def_ 25 (d := dd_law_asked) rfl
  have G_law_asked : GD K "_law_asked" "_law_asked" s_law_asked (He.ga K "_law_asked") fd_law_asked := G0_law_asked
  have B_law_asked : Binds K fd_law_asked ["_law_draw", "_law_book", "_law_sections_here", "_law_held"] [] := G_law_asked.bindsN fun _ _ _ _ _ _ us hl => match us, hl with | [_, _, _, _], _ => rfl
  obtain ⟨fd_law, G0_law⟩ := c.def_ 26 (d := dd_law) rfl
  have G_law : GD K "law" "law" s_law (He.ga K "law") fd_law := G0_law
  have b := FunD.bindsA (ps := ["_law_script"]) G_law fun _ _ _ _ _ _ us hl => match us, hl with | [_], _ => rfl
  refine ⟨fd_law, fun s v => b s [v] rfl, fun base _ _ hTB => ?_⟩
  have F_law_state : FnOk P w K mg base (L2.CX P w) 1 _ fd_law_state ["_law_script", "_law_k"] (spD K (c_law_state K)) := ok_law_state G_law_state q0 q1
  have F_law_next : FnOk P w K mg base (L2.CX P w) 1 _ fd_law_next ["_law_draw", "_law_amount"] (spD K (c_law_next K)) := ok_law_next G_law_next 
  have F_law_pick : FnOk P w K mg base (L2.CX P w) 2 _ fd_law_pick ["_law_draw", "_law_some"] (spD K (c_law_pick K)) := ok_law_pick G_law_pick F_law_next B_law_next q2 G_law_next.kp q0
  have F_law_sections : FnOk P w K mg base (L2.CX P w) 3 _ fd_law_sections ["_law_draw", "_law_most"] (spD K (c_law_sections K)) := ok_law_sections G_law_sections F_law_pick B_law_pick (He.glo_ok X G (c.fact 3 (f := .glo "_law_pick") rfl)) G_law_pick.kp F_law_next B_law_next q2 G_law_next.kp q1
  have F_is_number : FnOk P w K mg base (L2.CX P w) 1 _ fd_is_number ["thing", "least", "most"] (spD K (c_is_number K)) := ok_is_number G_is_number (He.free_ok X G (c.fact 4 (f := .free "int") rfl)) q3 q4
  have F_is_section : FnOk P w K mg base (L2.CX P w) 2 _ fd_is_section ["thing"] (spD K (c_is_section K)) := ok_is_section G_is_section F_is_number B_is_number (He.glo_ok X G (c.fact 7 (f := .glo "is_number") rfl)) G_is_number.kp (He.free_ok X G (c.fact 8 (f := .free "tuple") rfl)) q3 q0 q4 (He.int_ok X G (c.fact 9 (f := .int "LONGEST" 1000000000000) rfl))
  have F_are_sections : FnOk P w K mg base (L2.CX P w) 3 _ fd_are_sections ["thing"] (spD K (c_are_sections K)) := ok_are_sections G_are_sections F_is_section B_is_section (He.glo_ok X G (c.fact 10 (f := .glo "is_section") rfl)) G_is_section.kp q5 q3 q0 (He.int_ok X G (c.fact 12 (f := .int "MOST_SECTIONS" 60) rfl)) (He.free_ok X G (c.fact 13 (f := .free "all") rfl))
  have F_Book_init : FnOk P w K mg base (L2.CX P w) 4 _ fd_Book_init ["self", "sections"] (spD K (c_Book_init K)) := ok_Book_init G_Book_init F_are_sections B_are_sections (He.glo_ok X G (c.fact 14 (f := .glo "are_sections") rfl)) G_are_sections.kp ⟨q6.1, q7, q6.2.1, q6.2.2.1, q6.2.2.2⟩ q5 (⟨q8, q9⟩)
  have F_law_long : FnOk P w K mg base (L2.CX P w) 1 _ fd_law_long ["_law_sections_here", "_law_first", "_law_end"] (spD K (c_law_long K)) := ok_law_long G_law_long q10
  have F_law_blocks : FnOk P w K mg base (L2.CX P w) 1 _ fd_law_blocks ["_law_sections_here"] (spD K (c_law_blocks K)) := ok_law_blocks G_law_blocks q11
  have F_law_limit : FnOk P w K mg base (L2.CX P w) 2 _ fd_law_limit ["_law_draw", "_law_sections_here"] (spD K (c_law_limit K)) := ok_law_limit G_law_limit F_law_next B_law_next q2 G_law_next.kp F_law_long B_law_long q12 G_law_long.kp F_law_blocks B_law_blocks q13 G_law_blocks.kp q0 q14
  have F_Book_sections : FnOk P w K mg base (L2.CX P w) 1 _ fd_Book_sections ["self"] (spD K (c_Book_sections K)) := ok_Book_sections G_Book_sections q5 (⟨q8, q9⟩)
  have F_Book_blocks : FnOk P w K mg base (L2.CX P w) 1 _ fd_Book_blocks ["self"] (spD K (c_Book_blocks K)) := ok_Book_blocks G_Book_blocks q11 (⟨q8, q9⟩)
  have F_law_lists : FnOk P w K mg base (L2.CX P w) 2 _ fd_law_lists ["_law_draw", "_law_book", "_law_sections_here", "_law_way"] (spD K (c_law_lists K)) := ok_law_lists G_law_lists F_law_blocks B_law_blocks q13 G_law_blocks.kp F_Book_sections B_Book_sections F_Book_blocks B_Book_blocks F_law_next B_law_next q2 G_law_next.kp q5 q1 q8 (He.meth_ok (c.fact 24 (f := .meth "Book" "sections") rfl)) q15 q0
  have F_Book_many : FnOk P w K mg base (L2.CX P w) 1 _ fd_Book_many ["self"] (spD K (c_Book_many K)) := ok_Book_many G_Book_many q0 (⟨q8, q9⟩)
  have F_Book_long : FnOk P w K mg base (L2.CX P w) 1 _ fd_Book_long ["self", "first", "end"] (spD K (c_Book_long K)) := ok_Book_long G_Book_long q0 ⟨q16.1, q17, q16.2.1, q16.2.2.1, q16.2.2.2⟩ q10 (⟨q8, q9⟩)
  have F_longest_block : FnOk P w K mg base (L2.CX P w) 2 _ fd_longest_block ["book"] (spD K (c_longest_block K)) := ok_longest_block G_longest_block F_Book_blocks B_Book_blocks F_Book_long B_Book_long q8 q15 q18 q14
  have F_first_too_long : FnOk P w K mg base (L2.CX P w) 2 _ fd_first_too_long ["book", "limit"] (spD K (c_first_too_long K)) := ok_first_too_long G_first_too_long F_Book_blocks B_Book_blocks F_Book_long B_Book_long q8 q15 q18
  have F_TooTight_init : FnOk P w K mg base (L2.CX P w) 1 _ fd_TooTight_init ["self", "block"] (spX (He.ga K "TooTight") ["block"]) := ok_TooTight_init G_TooTight_init q19 (reiB_ok (exAll_at cx 0 (e := reiB "ReadError") rfl)) (kxfB_ok (exAll_at cx 1 (e := kxfB "TooTight" ["block"]) rfl))
  have F_fewest : FnOk P w K mg base (L2.CX P w) 3 _ fd_fewest ["book", "limit"] (spD K (c_fewest K)) := ok_fewest G_fewest F_first_too_long B_first_too_long (He.glo_ok X G (c.fact 30 (f := .glo "first_too_long") rfl)) G_first_too_long.kp F_TooTight_init B_TooTight_init F_Book_blocks B_Book_blocks F_Book_long B_Book_long ⟨q16.1, q17, q16.2.1, q16.2.2.1, q16.2.2.2⟩ q20 (kxfB_ok (exAll_at cx 1 (e := kxfB "TooTight" ["block"]) rfl)) (He.meth_ok (c.fact 32 (f := .meth "TooTight" "__init__") rfl)) q8 q15 q18
  have F_least_limit : FnOk P w K mg base (L2.CX P w) 4 _ fd_least_limit ["book", "many"] (spD K (c_least_limit K)) := ok_least_limit G_least_limit F_longest_block B_longest_block (He.glo_ok X G (c.fact 33 (f := .glo "longest_block") rfl)) G_longest_block.kp F_Book_many B_Book_many F_Book_long B_Book_long F_fewest B_fewest q21 G_fewest.kp ⟨q16.1, q17, q16.2.1, q16.2.2.1, q16.2.2.2⟩ q8 q22 q18 q0
  have F_law_cut : FnOk P w K mg base (L2.CX P w) 2 _ fd_law_cut ["_law_sections_here", "_law_limit_here"] (spD K (c_law_cut K)) := ok_law_cut G_law_cut F_law_blocks B_law_blocks q13 G_law_blocks.kp F_law_long B_law_long q12 G_law_long.kp q0
  have F_law_word : FnOk P w K mg base (L2.CX P w) 1 _ fd_law_word ["_law_e"] (spD K (c_law_word K)) := ok_law_word G_law_word (He.glo_ok X G (c.fact 36 (f := .glo "BadRow") rfl)) q3 (He.glo_ok X G (c.fact 37 (f := .glo "BadFeast") rfl)) (He.glo_ok X G (c.fact 38 (f := .glo "BadCalendar") rfl)) q7 (He.glo_ok X G (c.fact 39 (f := .glo "NoRow") rfl)) (He.glo_ok X G (c.fact 40 (f := .glo "NoDay") rfl)) q17 (He.glo_ok X G (c.fact 41 (f := .glo "BadHouse") rfl)) (He.glo_ok X G (c.fact 42 (f := .glo "NeverDone") rfl)) q20 (He.glo_ok X G (c.fact 43 (f := .glo "NoPiece") rfl)) (He.glo_ok X G (c.fact 44 (f := .glo "BadText") rfl)) (He.glo_ok X G (c.fact 45 (f := .glo "NoDeed") rfl)) (He.glo_ok X G (c.fact 46 (f := .glo "TooFar") rfl)) (He.free_ok X G (c.fact 47 (f := .free "zip") rfl)) q0 (He.free_ok X G (c.fact 48 (f := .free "ValueError") rfl)) (kexcB_ok (exAll_at cx 2 (e := kexcB excNames) rfl))
  have F_is_cut : FnOk P w K mg base (L2.CX P w) 2 _ fd_is_cut ["book", "pieces"] (spD K (c_is_cut K)) := ok_is_cut G_is_cut F_Book_blocks B_Book_blocks F_Book_many B_Book_many q8 q15 q22
  have F_law_asked : FnOk P w K mg base (L2.CX P w) 7 _ fd_law_asked ["_law_draw", "_law_book", "_law_sections_here", "_law_held"] (spD K (c_law_asked K)) := ok_law_asked G_law_asked F_law_next B_law_next q2 G_law_next.kp F_law_limit B_law_limit (He.glo_ok X G (c.fact 49 (f := .glo "_law_limit") rfl)) G_law_limit.kp F_law_lists B_law_lists (He.glo_ok X G (c.fact 50 (f := .glo "_law_lists") rfl)) G_law_lists.kp F_Book_many B_Book_many F_Book_long B_Book_long F_law_long B_law_long q12 G_law_long.kp F_least_limit B_least_limit (He.glo_ok X G (c.fact 51 (f := .glo "least_limit") rfl)) G_least_limit.kp F_law_cut B_law_cut (He.glo_ok X G (c.fact 52 (f := .glo "_law_cut") rfl)) G_law_cut.kp F_fewest B_fewest q21 G_fewest.kp F_law_word B_law_word (He.glo_ok X G (c.fact 53 (f := .glo "_law_word") rfl)) G_law_word.kp G_law_tried B_law_tried (He.glo_ok X G (c.fact 54 (f := .glo "_law_tried") rfl)) F_is_cut B_is_cut (He.glo_ok X G (c.fact 55 (f := .glo "is_cut") rfl)) G_is_cut.kp q0 q8 q22 q18 q19 q5 (kexcB_ok (exAll_at cx 2 (e := kexcB excNames) rfl)) (hTB (He.cT K ("_law_asked", none)) (by simp [tq]))
  exact ok_law (base := base) G_law F_law_state B_law_state (He.glo_ok X G (c.fact 56 (f := .glo "_law_state") rfl)) G_law_state.kp F_law_next B_law_next q2 G_law_next.kp F_law_sections B_law_sections (He.glo_ok X G (c.fact 57 (f := .glo "_law_sections") rfl)) G_law_sections.kp F_Book_init B_Book_init (He.mkr_ok (c.fact 58 (f := .mkr "Book") rfl)) F_law_asked B_law_asked (He.glo_ok X G (c.fact 59 (f := .glo "_law_asked") rfl)) G_law_asked.kp q5 (He.glo_ok X G (c.fact 60 (f := .glo "Book") rfl)) q0 q1
end Dl
open PySem PySem.W PySem.Calls PyProof.Rows
set_option maxRecDepth 100000
set_option maxHeartbeats 0
theorem PySem.Challenge.cw_readround_k09_again_and_shared_holds : PySem.Challenge.rw_readround_k09_again_and_shared.Holds := by
  refine Dl.lawOf ?hc
  case hc =>
    refine LamX.walk_ofTsE (l := PySem.Challenge.rw_readround_k09_again_and_shared) (n := 63) (k := 8) (x := "_law_script") (CX := fun w => L2.CX (PySem.Challenge.rw_readround_k09_again_and_shared).prog w) rfl (by decide) Dl.law_dflt ⟨rfl, by decide, by decide⟩ ?F ?X
    case X => exact fun w H s e s2 c => by obtain ⟨_, _, _, _, _, _, _, _, _, _, _, _, z⟩ := c; exact z
    case F =>
    intro w mg fa h Y G hmg0
    obtain ⟨K, KX, c, cx, st⟩ := Y
    have hmg : mg ("law" : PySem.Str) = some (.ref fa) := by
      rw [← Dl.law_name]
      exact hmg0
    obtain ⟨fd, hb, hF⟩ := Dl.facts (P := (PySem.Challenge.rw_readround_k09_again_and_shared).prog) (w := w) KX G hmg c cx
    have nd : (Dl.tq.map fun z => (He.cT K z.1).2).Nodup := of_decide_eq_true (Dl.exAll_at cx 3 (e := Dl.tndB) rfl)
    have key : ∀ p ∈ Dl.tq.map (fun z => He.cT K z.1), ∃ z ∈ Dl.tq.map (·.1), p = He.cT K z := fun p hp => by obtain ⟨z, hz, rfl⟩ := List.mem_map.mp hp; exact ⟨z.1, List.mem_map.mpr ⟨z, hz, rfl⟩, rfl⟩
    exact ⟨K, KX, fd, Dl.tq.map (fun z => He.cT K z.1), _, fun p hp => by obtain ⟨z, hz, rfl⟩ := key p hp; exact st.empty z hz, fun p hp => by obtain ⟨z, hz, rfl⟩ := key p hp; exact st.out z hz, fun p hp => by obtain ⟨z, hz, rfl⟩ := key p hp; exact codeHd_of_K KX (st.hd z hz), hb,
      fun H a ns hl _ hT hS => Dl.law_spT (tq := Dl.tq) nd (fun z hz => hT _ (List.mem_map.mpr ⟨z, hz, rfl⟩)) (fun z hz => st.out z.1 (List.mem_map.mpr ⟨z, hz, rfl⟩)) hS (Dl.lawStart K ns hl), hF⟩
