import PyProof.Rows.All
import Wide.All
import OpenK.AllK
import Wide.FinOn
import HandS.ForMost
import HandS.ForExc
import HandS.Lambda
import HandS.IsInst
import HandS.Wide
import HandS.Defaults
import HandS.Zip
import HandS.Strs
import HandS.Style
import HandS.HeadHook2
import HandS.Ends
import HandS.HeadEnd
import HandS.Head2
import PyProof.Rows.SetListFold
import HandS.Conv
import HandS.Text
import HandS.NoneIn
import HandS.Codes
import PyProof.LongRange
import HandS.SortKw
import KE.DataMinMax
import PyProof.ListRange
import HandS.SetFor
import HandS.ExcIs
import HandS.ExcInit
import HandS.ExcField
import HandS.CallSlots
import HandS.Iter
import HandS.HeadHook4
import HandS.HeadWalk
import HandS.Deep
import HandS.DictComp
import HandS.SortInts
import HandS.More
import PyProof.InstEq
import PySem.Challenge.RW_readround_k10_calendars
set_option Elab.async false
set_option linter.all false
set_option maxRecDepth 100000
/-! Dl: a layer of data over the hand layer's readings: what is frozen is told as data (D), what may still change stands in a list (Mu) -/
namespace Dl
open PySem L2
/-- data -/
inductive D where
  | non | bl (b : Bool) | int (i : Int) | str (x : Str) | ty (n : String)
  | tup (xs : List D) | lst (xs : List D)
  /-- a list, a tuple that is read alone (the script, a written one) -/
  | rdl (xs : List D) | rdt (xs : List D)
  | obj (C : Addr) (fs : List (Str × D))
  | dct (kvs : List (Key × D))
  /-- the k-th thing that may change -/
  | own (k : Nat)
  /-- an object of the written part -/
  | loc (a : Addr)
  /-- a caught exception: its class, its fields -/
  | exc (C : Addr) (fs : List (Str × D))
deriving Inhabited
/-- a caught exception in the heap: its class, its own dict -/
def ExV (cls : Value) (d : Option Addr) (a : Addr) : HO := .ext fun h => ∃ (oe : Obj) (vs : Array Value), h.get? a = some oe ∧ Zc cls d oe ∧ oe.data = .fields vs
/-- the own dict of an exception -/
def ExD (G : Hp) (d : Option Addr) (fs : List (Str × V)) : Prop := (d = none ∧ fs = []) ∨ ∃ dx, d = some dx ∧ G dx = some (.xd fs)
theorem ExD.mono {G G' : Hp} (s : Same G G') {d : Option Addr} {fs : List (Str × V)} (h : ExD G d fs) : ExD G' d fs := h.imp id fun ⟨dx, e, g⟩ => ⟨dx, e, s _ _ g⟩
/-- what a thing that may change is now -/
inductive MO where
  | dead
  | lst (xs : List D)
  | ins (C : Addr) (fs : List (Str × D))
  | dK (kvs : List (Key × D))
  | dT (kvs : List (List Key × D))
  /-- the table at p of code objects of the name q -/
  | tab (p : Addr) (q : Str)
deriving Inhabited
abbrev Mu := List MO
abbrev En := List (Option D)
section
variable (K : PySem.W.Frag) (G : Hp) (al : List Addr)
mutual
inductive Rp : V → D → Prop
  | non : Rp .non .non
  | bl (b : Bool) : Rp (.bl b) (.bl b)
  | int (i : Int) : Rp (.int i) (.int i)
  | str (x : Str) : Rp (.str x) (.str x)
  | ty (n : String) : Rp (.ty n) (.ty n)
  | tup {a : Addr} {vs : List V} {ds : List D} : G a = some (.tup vs) → Rps vs ds → Rp (.ref a) (.tup ds)
  | lst {a : Addr} {vs : List V} {ds : List D} : G a = some (.lst vs) → Rps vs ds → Rp (.ref a) (.lst ds)
  | rdl {a : Addr} {vs : List V} {ds : List D} : SqL K G a vs → Rps vs ds → Rp (.ref a) (.rdl ds)
  | rdt {a : Addr} {vs : List V} {ds : List D} : SqT K G a vs → Rps vs ds → Rp (.ref a) (.rdt ds)
  | obj {a C dx : Addr} {fs : List (Str × V)} {gs : List (Str × D)} : G a = some (.ins C dx fs) → Rpf fs gs → Rp (.ref a) (.obj C gs)
  | dct {a : Addr} {kvs : List (Key × V)} {gs : List (Key × D)} : Rd G a (.dK kvs) → Rpk kvs gs → Rp (.ref a) (.dct gs)
  | own {a : Addr} {k : Nat} : al[k]? = some a → Rp (.ref a) (.own k)
  | loc (a : Addr) : Rp (.ref a) (.loc a)
  | exc {a C : Addr} {dd : Option Addr} {fs : List (Str × V)} {gs : List (Str × D)} : G a = some (ExV (.ref C) dd a) → ExD G dd fs → Rpf fs gs → Rp (.ref a) (.exc C gs)
inductive Rps : List V → List D → Prop
  | nil : Rps [] []
  | cons {v : V} {vs : List V} {d : D} {ds : List D} : Rp v d → Rps vs ds → Rps (v :: vs) (d :: ds)
inductive Rpf : List (Str × V) → List (Str × D) → Prop
  | nil : Rpf [] []
  | cons {f : Str} {v : V} {vs : List (Str × V)} {d : D} {ds : List (Str × D)} : Rp v d → Rpf vs ds → Rpf ((f, v) :: vs) ((f, d) :: ds)
inductive Rpk : List (Key × V) → List (Key × D) → Prop
  | nil : Rpk [] []
  | cons {f : Key} {v : V} {vs : List (Key × V)} {d : D} {ds : List (Key × D)} : Rp v d → Rpk vs ds → Rpk ((f, v) :: vs) ((f, d) :: ds)
end
end
theorem rd_mono {H H' : Hp} {a : Addr} {u : HO} (s : Same H H') (h : Rd H a u) : Rd H' a u := by
  rcases h with h | ⟨o, h⟩
  · exact .inl (s _ _ h)
  · exact .inr ⟨o, s _ _ h⟩
theorem sql_mono {K : PySem.W.Frag} {H H' : Hp} {a : Addr} {xs : List V} (e : Same H H') (h : SqL K H a xs) : SqL K H' a xs := e.seq h
theorem sqt_mono {K : PySem.W.Frag} {H H' : Hp} {a : Addr} {xs : List V} (e : Same H H') (h : SqT K H a xs) : SqT K H' a xs := by
  rcases h with (h | ⟨o, h⟩) | h
  · exact .inl (.inl (e _ _ h))
  · exact .inl (.inr ⟨o, e _ _ h⟩)
  · exact .inr h
/-- al' goes on from al -/
def Pre (al al' : List Addr) : Prop := ∃ be, al' = al ++ be
theorem Pre.refl (al : List Addr) : Pre al al := ⟨[], by simp⟩
theorem Pre.trans {a b c : List Addr} (h : Pre a b) (h' : Pre b c) : Pre a c := by
  obtain ⟨x, rfl⟩ := h
  obtain ⟨y, rfl⟩ := h'
  exact ⟨x ++ y, by simp⟩
theorem Pre.get {al al' : List Addr} (h : Pre al al') {k : Nat} {a : Addr} (e : al[k]? = some a) : al'[k]? = some a := by
  obtain ⟨x, rfl⟩ := h
  rw [List.getElem?_append_left (List.getElem?_eq_some_iff.mp e).1]
  exact e
section
variable {K : PySem.W.Frag} {G G' : Hp} {al al' : List Addr}
mutual
theorem Rp.mono (s : Same G G') (p : Pre al al') : ∀ {v : V} {d : D}, Rp K G al v d → Rp K G' al' v d
  | _, _, .non => .non
  | _, _, .bl b => .bl b
  | _, _, .int i => .int i
  | _, _, .str x => .str x
  | _, _, .ty x => .ty x
  | _, _, .tup h r => .tup (s _ _ h) (Rps.mono s p r)
  | _, _, .lst h r => .lst (s _ _ h) (Rps.mono s p r)
  | _, _, .rdl h r => .rdl (sql_mono s h) (Rps.mono s p r)
  | _, _, .rdt h r => .rdt (sqt_mono s h) (Rps.mono s p r)
  | _, _, .obj h r => .obj (s _ _ h) (Rpf.mono s p r)
  | _, _, .dct h r => .dct (rd_mono s h) (Rpk.mono s p r)
  | _, _, .own h => .own (p.get h)
  | _, _, .loc a => .loc a
  | _, _, .exc h hd r => .exc (s _ _ h) (hd.mono s) (Rpf.mono s p r)
theorem Rps.mono (s : Same G G') (p : Pre al al') : ∀ {v : List V} {d : List D}, Rps K G al v d → Rps K G' al' v d
  | _, _, .nil => .nil
  | _, _, .cons h r => .cons (Rp.mono s p h) (Rps.mono s p r)
theorem Rpf.mono (s : Same G G') (p : Pre al al') : ∀ {v : List (Str × V)} {d : List (Str × D)}, Rpf K G al v d → Rpf K G' al' v d
  | _, _, .nil => .nil
  | _, _, .cons h r => .cons (Rp.mono s p h) (Rpf.mono s p r)
theorem Rpk.mono (s : Same G G') (p : Pre al al') : ∀ {v : List (Key × V)} {d : List (Key × D)}, Rpk K G al v d → Rpk K G' al' v d
  | _, _, .nil => .nil
  | _, _, .cons h r => .cons (Rp.mono s p h) (Rpk.mono s p r)
end
theorem Rps.length {vs : List V} {ds : List D} (h : Rps K G al vs ds) : vs.length = ds.length := by
  induction ds generalizing vs with
  | nil => cases h; rfl
  | cons d ds ih => cases h with | cons _ r => simp [ih r]
theorem Rps.get {vs : List V} {ds : List D} (h : Rps K G al vs ds) : ∀ {i : Nat} {d : D}, ds[i]? = some d → ∃ v, vs[i]? = some v ∧ Rp K G al v d := by
  induction ds generalizing vs with
  | nil => intro i d e; simp at e
  | cons x xs ih =>
    intro i d e
    cases h with
    | cons r t =>
      cases i with
      | zero => simp at e; subst e; exact ⟨_, rfl, r⟩
      | succ i => simp at e; simpa using ih t e
theorem Rps.getV {vs : List V} {ds : List D} (h : Rps K G al vs ds) {i : Nat} {v : V} (e : vs[i]? = some v) : ∃ d, ds[i]? = some d ∧ Rp K G al v d := by
  have hi : i < ds.length := by rw [← h.length]; exact (List.getElem?_eq_some_iff.mp e).1
  obtain ⟨w, e2, r⟩ := h.get (List.getElem?_eq_getElem hi)
  rw [e] at e2; cases e2
  exact ⟨_, List.getElem?_eq_getElem hi, r⟩
theorem Rps.append {vs ws : List V} {ds es : List D} (h : Rps K G al vs ds) (h' : Rps K G al ws es) : Rps K G al (vs ++ ws) (ds ++ es) := by
  induction ds generalizing vs with
  | nil => cases h; exact h'
  | cons d ds ih => cases h with | cons r t => exact .cons r (ih t)
theorem Rps.take {vs : List V} {ds : List D} (h : Rps K G al vs ds) (n : Nat) : Rps K G al (vs.take n) (ds.take n) := by
  induction n generalizing vs ds with
  | zero => simp; exact .nil
  | succ n ih => cases h with
    | nil => simp; exact .nil
    | cons r t => simpa using .cons r (ih t)
theorem Rps.drop {vs : List V} {ds : List D} (h : Rps K G al vs ds) (n : Nat) : Rps K G al (vs.drop n) (ds.drop n) := by
  induction n generalizing vs ds with
  | zero => simpa using h
  | succ n ih => cases h with
    | nil => simp; exact .nil
    | cons r t => simpa using ih t
theorem Rps.reverse {vs : List V} {ds : List D} (h : Rps K G al vs ds) : Rps K G al vs.reverse ds.reverse := by
  induction ds generalizing vs with
  | nil => cases h; exact .nil
  | cons d ds ih => cases h with | cons r t => simpa using (ih t).append (.cons r .nil)
theorem Rps.set {vs : List V} {ds : List D} (h : Rps K G al vs ds) (i : Nat) {v : V} {d : D} (r : Rp K G al v d) : Rps K G al (vs.set i v) (ds.set i d) := by
  induction ds generalizing vs i with
  | nil => cases h; simp; exact .nil
  | cons x xs ih => cases h with
    | cons r' t => cases i with
      | zero => exact .cons r t
      | succ i => exact .cons r' (ih t i)
theorem Rps.ints : ∀ {vs : List V} {ns : List Int}, Rps K G al vs (ns.map D.int) → vs = ns.map V.int
  | _, [], h => by cases h; rfl
  | _, n :: ns, h => by
    cases h with
    | cons r t => cases r; rw [Rps.ints (ns := ns) t]; rfl
theorem Rps.of_ints : ∀ (ns : List Int), Rps K G al (ns.map V.int) (ns.map D.int)
  | [] => .nil
  | n :: ns => .cons (.int n) (Rps.of_ints ns)
theorem Rps.bools : ∀ {vs : List V} {ns : List Bool}, Rps K G al vs (ns.map D.bl) → vs = ns.map V.bl
  | _, [], h => by cases h; rfl
  | _, n :: ns, h => by
    cases h with
    | cons r t => cases r; rw [Rps.bools (ns := ns) t]; rfl
theorem Rpf.look {fs : List (Str × V)} {gs : List (Str × D)} (h : Rpf K G al fs gs) {f : Str} {d : D} (e : gs.lookup f = some d) : ∃ v, fs.lookup f = some v ∧ Rp K G al v d := by
  induction gs generalizing fs with
  | nil => simp at e
  | cons x xs ih =>
    cases h with
    | cons r t =>
      rw [List.lookup_cons] at e ⊢
      split at e
      · cases e; exact ⟨_, rfl, r⟩
      · exact ih t e
theorem Rpf.none {fs : List (Str × V)} {gs : List (Str × D)} (h : Rpf K G al fs gs) {f : Str} (e : gs.lookup f = Option.none) : fs.lookup f = Option.none := by
  induction gs generalizing fs with
  | nil => cases h; rfl
  | cons x xs ih =>
    cases h with
    | cons r t =>
      rw [List.lookup_cons] at e ⊢
      split at e
      · cases e
      · exact ih t e
theorem Rpf.length {fs : List (Str × V)} {gs : List (Str × D)} (h : Rpf K G al fs gs) : fs.length = gs.length := by
  induction gs generalizing fs with
  | nil => cases h; rfl
  | cons d ds ih => cases h with | cons _ r => simp [ih r]
end
/-- a field put -/
def putD (f : Str) (v : D) : List (Str × D) → List (Str × D)
  | [] => [(f, v)]
  | (g, x) :: r => if g = f then (g, v) :: r else (g, x) :: putD f v r
theorem Rpf.put {K : PySem.W.Frag} {G : Hp} {al : List Addr} {fs : List (Str × V)} {gs : List (Str × D)} (h : Rpf K G al fs gs) (f : Str) {v : V} {d : D} (r : Rp K G al v d) : Rpf K G al (putF f v fs) (putD f d gs) := by
  induction gs generalizing fs with
  | nil => cases h; exact .cons r .nil
  | cons x xs ih =>
    cases h with
    | cons r' t =>
      unfold putF putD
      split
      · exact .cons r t
      · exact .cons r' (ih t)
/-! ### the slots -/
def RpS (K : PySem.W.Frag) (G : Hp) (al : List Addr) (σ : St) (ρ : En) : Prop := σ.length = ρ.length ∧ ∀ (i : Nat) (d : D), ρ[i]? = some (some d) → ∃ v, σ[i]? = some (some v) ∧ Rp K G al v d
section
variable {K : PySem.W.Frag} {G G' : Hp} {al al' : List Addr} {σ : St} {ρ : En}
theorem RpS.mono (s : Same G G') (p : Pre al al') (h : RpS K G al σ ρ) : RpS K G' al' σ ρ := ⟨h.1, fun i d e => by
  obtain ⟨v, e1, r⟩ := h.2 i d e
  exact ⟨v, e1, r.mono s p⟩⟩
theorem RpS.set (h : RpS K G al σ ρ) (i : Nat) {v : V} {d : D} (r : Rp K G al v d) : RpS K G al (σ.set i (some v)) (ρ.set i (some d)) := by
  refine ⟨by simp [h.1], fun j e hj => ?_⟩
  rw [List.getElem?_set] at hj ⊢
  by_cases hij : i = j
  · subst hij
    rw [if_pos rfl] at hj ⊢
    by_cases hl : i < ρ.length
    · rw [if_pos hl] at hj
      have hl2 : i < σ.length := by rw [h.1]; exact hl
      rw [if_pos hl2]
      cases hj
      exact ⟨v, rfl, r⟩
    · rw [if_neg hl] at hj; cases hj
  · rw [if_neg hij] at hj ⊢
    exact h.2 j e hj
/-- a slot's value forgotten -/
theorem RpS.forget (h : RpS K G al σ ρ) (i : Nat) (x : Option V) : RpS K G al (σ.set i x) (ρ.set i none) := by
  refine ⟨by simp [h.1], fun j e hj => ?_⟩
  rw [List.getElem?_set] at hj ⊢
  by_cases hij : i = j
  · subst hij
    rw [if_pos rfl] at hj
    by_cases hl : i < ρ.length
    · rw [if_pos hl] at hj; cases hj
    · rw [if_neg hl] at hj; cases hj
  · rw [if_neg hij] at hj ⊢
    exact h.2 j e hj
end
/-! ### what may change -/
def OkO (K : PySem.W.Frag) (G H : Hp) (al : List Addr) (a : Addr) : MO → Prop
  | .dead => True
  | .lst ds => G a = none ∧ ∃ vs, H a = some (.lst vs) ∧ Rps K G al vs ds
  | .ins C gs => G a = none ∧ ∃ dx fs, H a = some (.ins C dx fs) ∧ Rpf K G al fs gs
  | .dK gs => G a = none ∧ ∃ kvs, H a = some (.dK kvs) ∧ Rpk K G al kvs gs
  | .dT gs => G a = none ∧ ∃ kvs : List (List Key × V), H a = some (.dT kvs) ∧ kvs.map (·.1) = gs.map (·.1) ∧ Rps K G al (kvs.map (·.2)) (gs.map (·.2))
  | .tab p q => G a = none ∧ a = p ∧ ∃ ps : Array Value, H a = some (.tbl ps) ∧ TriplesOk ps.toList ∧ ∀ (pos : Pos) (cv : Value), codeAmong pos ps.toList = some cv → ∃ c, cv = .ref c ∧ G c = some (LamX.CodeO c q)
structure As (K : PySem.W.Frag) (G H : Hp) (al : List Addr) (μ : Mu) : Prop where
  sub : Same G H
  nd : al.Nodup
  len : al.length = μ.length
  here : ∀ a ∈ al, H a ≠ none
  ok : ∀ (k : Nat) (a : Addr) (o : MO), al[k]? = some a → μ[k]? = some o → OkO K G H al a o
/-- a later state -/
structure Nx (G H : Hp) (al : List Addr) (G' H' : Hp) (al' : List Addr) : Prop where
  g : Same G G'
  p : Pre al al'
  keep : ∀ a o, H a = some o → a ∉ al → H' a = some o
  out : ∀ a, H a ≠ none → a ∉ al → G a = none → G' a = none
  new : ∀ a ∈ al', a ∈ al ∨ H a = none
section
variable {K : PySem.W.Frag} {G G1 G2 H H1 H2 : Hp} {al al1 al2 : List Addr} {μ : Mu}
theorem Nx.refl : Nx G H al G H al := ⟨Same.refl _, Pre.refl _, fun _ _ h _ => h, fun _ _ _ h => h, fun _ h => .inl h⟩
theorem Nx.trans (a : Nx G H al G1 H1 al1) (b : Nx G1 H1 al1 G2 H2 al2) : Nx G H al G2 H2 al2 := by
  have nin : ∀ x o, H x = some o → x ∉ al → x ∉ al1 := fun x o h n m => by
    rcases a.new x m with z | z
    · exact n z
    · rw [h] at z; cases z
  refine ⟨a.g.trans b.g, a.p.trans b.p, fun x o h n => b.keep x o (a.keep x o h n) (nin x o h n), fun x h n g => ?_, fun x m => ?_⟩
  · cases q : H x with
    | none => exact absurd q h
    | some o =>
      have h1 := a.keep x o q n
      exact b.out x (by rw [h1]; simp) (nin x o q n) (a.out x h n g)
  · rcases b.new x m with z | z
    · exact a.new x z
    · by_cases hx : x ∈ al
      · exact .inl hx
      · refine .inr ?_
        cases q : H x with
        | none => rfl
        | some o => rw [a.keep x o q hx] at z; cases z
theorem Rp.nx (n : Nx G H al G1 H1 al1) {v : V} {d : D} (h : Rp K G al v d) : Rp K G1 al1 v d := h.mono n.g n.p
theorem Rps.nx (n : Nx G H al G1 H1 al1) {v : List V} {d : List D} (h : Rps K G al v d) : Rps K G1 al1 v d := h.mono n.g n.p
theorem RpS.nx (n : Nx G H al G1 H1 al1) {σ : St} {ρ : En} (h : RpS K G al σ ρ) : RpS K G1 al1 σ ρ := h.mono n.g n.p
theorem OkO.mono {a : Addr} {o : MO} (s : Same G G1) (p : Pre al al1) (hg : o ≠ .dead → G a = none → G1 a = none) (hh : H1 a = H a) (h : OkO K G H al a o) : OkO K G1 H1 al1 a o := by
  cases o with
  | dead => trivial
  | lst ds => obtain ⟨g, vs, e, r⟩ := h; exact ⟨hg (by simp) g, vs, hh.trans e, r.mono s p⟩
  | ins C gs => obtain ⟨g, dx, vs, e, r⟩ := h; exact ⟨hg (by simp) g, dx, vs, hh.trans e, r.mono s p⟩
  | dK gs => obtain ⟨g, vs, e, r⟩ := h; exact ⟨hg (by simp) g, vs, hh.trans e, r.mono s p⟩
  | dT gs => obtain ⟨g, vs, e, k, r⟩ := h; exact ⟨hg (by simp) g, vs, hh.trans e, k, r.mono s p⟩
  | tab p q => obtain ⟨g, ep, ps, e, k, r⟩ := h; exact ⟨hg (by simp) g, ep, ps, hh.trans e, k, fun pos cv hc => let ⟨c, e1, e2⟩ := r pos cv hc; ⟨c, e1, s _ _ e2⟩⟩
/-- a new frozen thing -/
theorem As.frz {p : Addr} {o : HO} (A : As K G H al μ) (hp : H p = none) : As K (upd G p o) (upd H p o) al μ ∧ Nx G H al (upd G p o) (upd H p o) al := by
  have gp : G p = none := A.sub.free hp
  have s1 : Same G (upd G p o) := fun b u e => by rw [upd_ne (ne_of_none e gp)]; exact e
  have npal : p ∉ al := fun m => A.here p m hp
  refine ⟨⟨fun b u e => ?_, A.nd, A.len, fun a m => ?_, fun k a ob e1 e2 => ?_⟩, ⟨s1, Pre.refl _, fun a u h _ => ?_, fun a h n g => ?_, fun a m => .inl m⟩⟩
  · by_cases hb : b = p
    · subst hb; rw [upd_same] at e ⊢; exact e
    · rw [upd_ne hb] at e ⊢; exact A.sub _ _ e
  · have : a ≠ p := fun z => npal (z ▸ m)
    rw [upd_ne this]; exact A.here a m
  · have : a ≠ p := fun z => npal (z ▸ List.mem_of_getElem? e1)
    exact OkO.mono s1 (Pre.refl _) (fun _ g => by rw [upd_ne this]; exact g) (by rw [upd_ne this]) (A.ok k a ob e1 e2)
  · rw [upd_ne (ne_of_none h hp)]; exact h
  · have z : a ≠ p := fun z => h (by rw [z]; exact hp)
    rw [upd_ne z]; exact g
/-- a new thing that may change -/
theorem As.own {p : Addr} {o : HO} {m : MO} (A : As K G H al μ) (hp : H p = none) (ok : OkO K G (upd H p o) (al ++ [p]) p m) : As K G (upd H p o) (al ++ [p]) (μ ++ [m]) ∧ Nx G H al G (upd H p o) (al ++ [p]) := by
  have npal : p ∉ al := fun m => A.here p m hp
  have gp : G p = none := A.sub.free hp
  refine ⟨⟨fun b u e => ?_, ?_, by simp [A.len], fun a m => ?_, fun k a ob e1 e2 => ?_⟩, ⟨Same.refl _, ⟨[p], rfl⟩, fun a u h _ => ?_, fun a h n g => g, fun a m => ?_⟩⟩
  · rw [upd_ne (ne_of_none e gp)]; exact A.sub _ _ e
  · rw [List.nodup_append]
    exact ⟨A.nd, by simp, fun a ha b hb => by simp at hb; subst hb; exact fun z => npal (z ▸ ha)⟩
  · rcases List.mem_append.mp m with m | m
    · have : a ≠ p := fun z => npal (z ▸ m)
      rw [upd_ne this]; exact A.here a m
    · simp at m; subst m; rw [upd_same]; simp
  · by_cases hk : k < al.length
    · rw [List.getElem?_append_left hk] at e1
      rw [List.getElem?_append_left (by rw [← A.len]; exact hk)] at e2
      have : a ≠ p := fun z => npal (z ▸ List.mem_of_getElem? e1)
      exact OkO.mono (Same.refl _) ⟨[p], rfl⟩ (fun _ g => g) (by rw [upd_ne this]) (A.ok k a ob e1 e2)
    · have hk1 := (List.getElem?_eq_some_iff.mp e1).1
      have hk' : k = al.length := by simp at hk1; omega
      subst hk'
      simp at e1
      rw [A.len] at e2
      simp at e2
      subst e1 e2
      exact ok
  · rw [upd_ne (ne_of_none h hp)]; exact h
  · rcases List.mem_append.mp m with m | m
    · exact .inl m
    · simp at m; subst m; exact .inr hp
/-- a thing that may change is changed -/
theorem As.put {k : Nat} {a : Addr} {o : HO} {m m' : MO} (A : As K G H al μ) (hk : al[k]? = some a) (hm : μ[k]? = some m) (hd : m ≠ .dead) (ok : OkO K G (upd H a o) al a m') : As K G (upd H a o) al (μ.set k m') ∧ Nx G H al G (upd H a o) al := by
  have ga : G a = none := by
    have := A.ok k a m hk hm
    cases m with
    | dead => exact absurd rfl hd
    | lst _ => exact this.1
    | ins _ _ => exact this.1
    | dK _ => exact this.1
    | dT _ => exact this.1
    | tab _ _ => exact this.1
  have ma : a ∈ al := List.mem_of_getElem? hk
  refine ⟨⟨fun b u e => ?_, A.nd, by simp [A.len], fun b m => ?_, fun j b ob e1 e2 => ?_⟩, ⟨Same.refl _, Pre.refl _, fun b u h n => ?_, fun _ _ _ g => g, fun _ m => .inl m⟩⟩
  · rw [upd_ne (ne_of_none e ga)]; exact A.sub _ _ e
  · by_cases hb : b = a
    · subst hb; rw [upd_same]; simp
    · rw [upd_ne hb]; exact A.here b m
  · rw [List.getElem?_set] at e2
    by_cases hj : k = j
    · subst hj
      rw [if_pos rfl] at e2
      split at e2
      · cases e2; rw [hk] at e1; cases e1; exact ok
      · cases e2
    · rw [if_neg hj] at e2
      have hne : b ≠ a := fun z => by
        subst z
        exact hj (nd_ix A.nd hk e1)
      exact OkO.mono (Same.refl _) (Pre.refl _) (fun _ g => g) (by rw [upd_ne hne]) (A.ok j b ob e1 e2)
  · have z : b ≠ a := fun z => n (by rw [z]; exact ma)
    rw [upd_ne z]; exact h
/-- .. it is frozen -/
theorem As.freeze {k : Nat} {a : Addr} {o : HO} (A : As K G H al μ) (hk : al[k]? = some a) (ha : H a = some o) (ga : G a = none) : As K (upd G a o) H al (μ.set k .dead) ∧ Nx G H al (upd G a o) H al := by
  have ma : a ∈ al := List.mem_of_getElem? hk
  have s1 : Same G (upd G a o) := fun b u e => by rw [upd_ne (ne_of_none e ga)]; exact e
  refine ⟨⟨fun b u e => ?_, A.nd, by simp [A.len], A.here, fun j b ob e1 e2 => ?_⟩, ⟨s1, Pre.refl _, fun b u h n => h, fun b h n g => ?_, fun _ m => .inl m⟩⟩
  · by_cases hb : b = a
    · subst hb; rw [upd_same] at e; rw [← e]; exact ha
    · rw [upd_ne hb] at e; exact A.sub _ _ e
  · rw [List.getElem?_set] at e2
    by_cases hj : k = j
    · subst hj
      rw [if_pos rfl] at e2
      split at e2
      · cases e2; trivial
      · cases e2
    · rw [if_neg hj] at e2
      have hne : b ≠ a := fun z => by
        subst z
        exact hj (nd_ix A.nd hk e1)
      exact OkO.mono s1 (Pre.refl _) (fun _ g => by rw [upd_ne hne]; exact g) rfl (A.ok j b ob e1 e2)
  · have z : b ≠ a := fun z => n (by rw [z]; exact ma)
    rw [upd_ne z]; exact g
theorem As.get {k : Nat} {m : MO} (A : As K G H al μ) (hm : μ[k]? = some m) : ∃ a, al[k]? = some a ∧ OkO K G H al a m := by
  have hk : k < al.length := by rw [A.len]; exact (List.getElem?_eq_some_iff.mp hm).1
  exact ⟨al[k], List.getElem?_eq_getElem hk, A.ok k _ m (List.getElem?_eq_getElem hk) hm⟩
end
end Dl
set_option Elab.async false
set_option linter.all false
set_option maxRecDepth 100000
namespace Dl
open PySem L2
/-! ### judgements over data -/
structure Bs where
  G : Hp
  H : Hp
  al : List Addr
abbrev Bs.le (B : Bs) (G H : Hp) (al : List Addr) : Prop := Nx B.G B.H B.al G H al
section
variable (K : PySem.W.Frag)
def KV (G H : Hp) (al : List Addr) (P : D → Mu → Prop) (Q : VK) : Prop := ∀ v d μ' G' H' al', Nx G H al G' H' al' → As K G' H' al' μ' → Rp K G' al' v d → P d μ' → Q v H'
def KT (G H : Hp) (al : List Addr) (P : Bool → Mu → Prop) (Q : Bool → Hp → Prop) : Prop := ∀ b μ' G' H' al', Nx G H al G' H' al' → As K G' H' al' μ' → P b μ' → Q b H'
def KA (G H : Hp) (al : List Addr) (P : List D → Mu → Prop) (Q : List V → Hp → Prop) : Prop := ∀ vs ds μ' G' H' al', Nx G H al G' H' al' → As K G' H' al' μ' → Rps K G' al' vs ds → P ds μ' → Q vs H'
def KS (G H : Hp) (al : List Addr) (P : En → Mu → Prop) (Q : St → Hp → Prop) : Prop := ∀ σ' ρ' μ' G' H' al', Nx G H al G' H' al' → RpS K G' al' σ' ρ' → As K G' H' al' μ' → P ρ' μ' → Q σ' H'
def DE (B : Bs) (te : TE) (ρ : En) (μ : Mu) (P : D → Mu → Prop) : Prop := ∀ σ G H al, B.le G H al → RpS K G al σ ρ → As K G H al μ → ∀ Q, KV K G H al P Q → te σ H Q
def DT (B : Bs) (tt : TT) (ρ : En) (μ : Mu) (P : Bool → Mu → Prop) : Prop := ∀ σ G H al, B.le G H al → RpS K G al σ ρ → As K G H al μ → ∀ Q, KT K G H al P Q → tt σ H Q
def DA (B : Bs) (ta : TA) (ρ : En) (μ : Mu) (P : List D → Mu → Prop) : Prop := ∀ σ G H al, B.le G H al → RpS K G al σ ρ → As K G H al μ → ∀ Q, KA K G H al P Q → ta σ H Q
/-- a part of a slice -/
def DO (B : Bs) (to : TO) (ρ : En) (μ : Mu) (P : Option Int → Mu → Prop) : Prop := ∀ σ G H al, B.le G H al → RpS K G al σ ρ → As K G H al μ → ∀ Q : Option Int → Hp → Prop, (∀ o μ' G' H' al', Nx G H al G' H' al' → As K G' H' al' μ' → P o μ' → Q o H') → to σ H Q
def DG (B : Bs) (g : TG) (d : D) (ρ : En) (μ : Mu) (P : En → Mu → Prop) : Prop := ∀ σ G H al v, B.le G H al → RpS K G al σ ρ → As K G H al μ → Rp K G al v d → ∀ Q, KS K G H al P Q → g v σ H Q
def DGs (B : Bs) (g : TGs) (ds : List D) (ρ : En) (μ : Mu) (P : En → Mu → Prop) : Prop := ∀ σ G H al vs, B.le G H al → RpS K G al σ ρ → As K G H al μ → Rps K G al vs ds → ∀ Q, KS K G H al P Q → g vs σ H Q
/-- operations on values -/
def RO (r : R2) (x y : D) (μ : Mu) (P : D → Mu → Prop) : Prop := ∀ G H al v w, As K G H al μ → Rp K G al v x → Rp K G al w y → ∀ Q, KV K G H al P Q → r v w H Q
def RU (r : V → Hp → VK → Prop) (x : D) (μ : Mu) (P : D → Mu → Prop) : Prop := ∀ G H al v, As K G H al μ → Rp K G al v x → ∀ Q, KV K G H al P Q → r v H Q
def RC (r : List V → Hp → VK → Prop) (xs : List D) (μ : Mu) (P : D → Mu → Prop) : Prop := ∀ G H al vs, As K G H al μ → Rps K G al vs xs → ∀ Q, KV K G H al P Q → r vs H Q
def RM (r : V → List V → Hp → VK → Prop) (x : D) (xs : List D) (μ : Mu) (P : D → Mu → Prop) : Prop := ∀ G H al v vs, As K G H al μ → Rp K G al v x → Rps K G al vs xs → ∀ Q, KV K G H al P Q → r v vs H Q
def RS (r : V → Option Int → Option Int → Hp → VK → Prop) (x : D) (lo hi : Option Int) (μ : Mu) (P : D → Mu → Prop) : Prop := ∀ G H al v, As K G H al μ → Rp K G al v x → ∀ Q, KV K G H al P Q → r v lo hi H Q
def RSet (r : V → V → V → Hp → (Hp → Prop) → Prop) (o i d : D) (μ : Mu) (P : Mu → Prop) : Prop := ∀ G H al v w u, As K G H al μ → Rp K G al v o → Rp K G al w i → Rp K G al u d → ∀ Q : Hp → Prop, (∀ μ' G' H' al', Nx G H al G' H' al' → As K G' H' al' μ' → P μ' → Q H') → r v w u H Q
end
structure DEnds where
  nx : En → Mu → Prop
  rt : D → Mu → Prop
  bk : En → Mu → Prop := fun _ _ => False
  ct : En → Mu → Prop := fun _ _ => False
structure Ag (K : PySem.W.Frag) (G H : Hp) (al : List Addr) (P : DEnds) (De : Ends) : Prop where
  nx : KS K G H al P.nx De.nx
  rt : KV K G H al P.rt De.rt
  bk : KS K G H al P.bk De.bk
  ct : KS K G H al P.ct De.ct
def DS (K : PySem.W.Frag) (B : Bs) (t : TS) (ρ : En) (μ : Mu) (P : DEnds) : Prop := ∀ σ G H al, B.le G H al → RpS K G al σ ρ → As K G H al μ → ∀ De, Ag K G H al P De → t De σ H
section
variable {K : PySem.W.Frag} {B : Bs} {G H G1 H1 : Hp} {al al1 : List Addr}
theorem KV.nx {P : D → Mu → Prop} {Q : VK} (n : Nx G H al G1 H1 al1) (h : KV K G H al P Q) : KV K G1 H1 al1 P Q := fun v d μ' G' H' al' n' A r p => h v d μ' G' H' al' (n.trans n') A r p
theorem KT.nx {P : Bool → Mu → Prop} {Q : Bool → Hp → Prop} (n : Nx G H al G1 H1 al1) (h : KT K G H al P Q) : KT K G1 H1 al1 P Q := fun v μ' G' H' al' n' A p => h v μ' G' H' al' (n.trans n') A p
theorem KA.nx {P : List D → Mu → Prop} {Q : List V → Hp → Prop} (n : Nx G H al G1 H1 al1) (h : KA K G H al P Q) : KA K G1 H1 al1 P Q := fun v d μ' G' H' al' n' A r p => h v d μ' G' H' al' (n.trans n') A r p
theorem KS.nx {P : En → Mu → Prop} {Q : St → Hp → Prop} (n : Nx G H al G1 H1 al1) (h : KS K G H al P Q) : KS K G1 H1 al1 P Q := fun v d μ' G' H' al' n' A r p => h v d μ' G' H' al' (n.trans n') A r p
theorem Ag.nx' {P : DEnds} {De : Ends} (n : Nx G H al G1 H1 al1) (h : Ag K G H al P De) : Ag K G1 H1 al1 P De := ⟨h.nx.nx n, h.rt.nx n, h.bk.nx n, h.ct.nx n⟩
theorem KV.now {P : D → Mu → Prop} {Q : VK} {v : V} {d : D} {μ : Mu} (h : KV K G H al P Q) (A : As K G H al μ) (r : Rp K G al v d) (p : P d μ) : Q v H := h v d μ G H al .refl A r p
variable {ρ : En} {μ : Mu} {P : D → Mu → Prop} {ta tb te tc : TE}
/-! ### expressions -/
theorem DE.imp {P' : D → Mu → Prop} (h : DE K B te ρ μ P') (i : ∀ d μ', P' d μ' → P d μ') : DE K B te ρ μ P := fun σ G H al hB hσ hA Q hQ => h σ G H al hB hσ hA Q fun v d μ' G' H' al' n A r p => hQ v d μ' G' H' al' n A r (i d μ' p)
theorem de_var {i : Nat} {d : D} (e : ρ[i]? = some (some d)) (h : P d μ) : DE K B (tVar i) ρ μ P := fun σ G H al hB hσ hA Q hQ => by
  obtain ⟨v, e1, r⟩ := hσ.2 i d e
  exact ⟨v, e1, hQ.now hA r h⟩
theorem de_int {i : Int} (h : P (.int i) μ) : DE K B (tC (.int i)) ρ μ P := fun σ G H al hB hσ hA Q hQ => hQ.now hA (.int i) h
theorem de_bl {i : Bool} (h : P (.bl i) μ) : DE K B (tC (.bl i)) ρ μ P := fun σ G H al hB hσ hA Q hQ => hQ.now hA (.bl i) h
theorem de_non (h : P .non μ) : DE K B (tC .non) ρ μ P := fun σ G H al hB hσ hA Q hQ => hQ.now hA .non h
theorem de_str {x : Str} (h : P (.str x) μ) : DE K B (tC (.str x)) ρ μ P := fun σ G H al hB hσ hA Q hQ => hQ.now hA (.str x) h
theorem de_ty {x : String} (h : P (.ty x) μ) : DE K B (tC (.ty x)) ρ μ P := fun σ G H al hB hσ hA Q hQ => hQ.now hA (.ty x) h
theorem de_loc {x : Addr} (h : P (.loc x) μ) : DE K B (tC (.ref x)) ρ μ P := fun σ G H al hB hσ hA Q hQ => hQ.now hA (.loc x) h
theorem de_op {r : R2} (h : DE K B ta ρ μ fun x μ1 => DE K B tb ρ μ1 fun y μ2 => RO K r x y μ2 P) : DE K B (tOp r ta tb) ρ μ P := fun σ G H al hB hσ hA Q hQ =>
  h σ G H al hB hσ hA _ fun v d μ1 G1 H1 al1 n1 A1 r1 p1 => p1 σ G1 H1 al1 (hB.trans n1) (hσ.nx n1) A1 _ fun w e μ2 G2 H2 al2 n2 A2 r2 p2 => p2 G2 H2 al2 v w A2 (r1.nx n2) r2 Q (hQ.nx (n1.trans n2))
theorem de_un {r : V → Hp → VK → Prop} (h : DE K B ta ρ μ fun x μ1 => RU K r x μ1 P) : DE K B (tUn r ta) ρ μ P := fun σ G H al hB hσ hA Q hQ =>
  h σ G H al hB hσ hA _ fun v d μ1 G1 H1 al1 n1 A1 r1 p1 => p1 G1 H1 al1 v A1 r1 Q (hQ.nx n1)
theorem de_chain {r r' : R2} (h : DE K B ta ρ μ fun x μ1 => DE K B tb ρ μ1 fun y μ2 => RO K r x y μ2 fun z μ3 => ∃ b, z = .bl b ∧ (b = true → DE K B tc ρ μ3 fun w μ4 => RO K r' y w μ4 P) ∧ (b = false → P (.bl false) μ3)) :
    DE K B (tChain r r' ta tb tc) ρ μ P := fun σ G H al hB hσ hA Q hQ =>
  h σ G H al hB hσ hA _ fun v d μ1 G1 H1 al1 n1 A1 r1 p1 => p1 σ G1 H1 al1 (hB.trans n1) (hσ.nx n1) A1 _ fun w e μ2 G2 H2 al2 n2 A2 r2 p2 =>
    p2 G2 H2 al2 v w A2 (r1.nx n2) r2 _ fun z dz μ3 G3 H3 al3 n3 A3 r3 p3 => by
      obtain ⟨b, rfl, pt, pf⟩ := p3
      cases r3
      refine ⟨b, rfl, ?_⟩
      cases b with
      | true =>
        rw [if_pos rfl]
        exact pt rfl σ G3 H3 al3 ((hB.trans n1).trans (n2.trans n3)) (((hσ.nx n1).nx n2).nx n3) A3 _ fun u du μ4 G4 H4 al4 n4 A4 r4 p4 => p4 G4 H4 al4 w u A4 ((r2.nx n3).nx n4) r4 Q (hQ.nx (((n1.trans n2).trans n3).trans n4))
      | false =>
        rw [if_neg (by simp)]
        exact hQ (.bl false) _ μ3 G3 H3 al3 ((n1.trans n2).trans n3) A3 (.bl _) (pf rfl)
theorem de_andV (h : DE K B ta ρ μ fun x μ1 => ∃ b, x = .bl b ∧ (b = true → DE K B tb ρ μ1 P) ∧ (b = false → P (.bl false) μ1)) : DE K B (tAndV ta tb) ρ μ P := fun σ G H al hB hσ hA Q hQ =>
  h σ G H al hB hσ hA _ fun v d μ1 G1 H1 al1 n1 A1 r1 p1 => by
    obtain ⟨b, rfl, pt, pf⟩ := p1
    cases r1
    refine ⟨b, rfl, ?_⟩
    cases b with
    | true => rw [if_pos rfl]; exact pt rfl σ G1 H1 al1 (hB.trans n1) (hσ.nx n1) A1 Q (hQ.nx n1)
    | false => rw [if_neg (by simp)]; exact hQ (.bl false) _ μ1 G1 H1 al1 n1 A1 (.bl _) (pf rfl)
theorem de_orV (h : DE K B ta ρ μ fun x μ1 => ∃ b, x = .bl b ∧ (b = false → DE K B tb ρ μ1 P) ∧ (b = true → P (.bl true) μ1)) : DE K B (tOrV ta tb) ρ μ P := fun σ G H al hB hσ hA Q hQ =>
  h σ G H al hB hσ hA _ fun v d μ1 G1 H1 al1 n1 A1 r1 p1 => by
    obtain ⟨b, rfl, pt, pf⟩ := p1
    cases r1
    refine ⟨b, rfl, ?_⟩
    cases b with
    | false => rw [if_neg (by simp)]; exact pt rfl σ G1 H1 al1 (hB.trans n1) (hσ.nx n1) A1 Q (hQ.nx n1)
    | true => rw [if_pos rfl]; exact hQ (.bl true) _ μ1 G1 H1 al1 n1 A1 (.bl _) (pf rfl)
theorem de_notV (h : DE K B ta ρ μ fun x μ1 => ∃ b, x = .bl b ∧ P (.bl (!b)) μ1) : DE K B (tNotV ta) ρ μ P := fun σ G H al hB hσ hA Q hQ =>
  h σ G H al hB hσ hA _ fun v d μ1 G1 H1 al1 n1 A1 r1 p1 => by
    obtain ⟨b, rfl, pt⟩ := p1
    cases r1
    exact ⟨b, rfl, hQ _ _ μ1 G1 H1 al1 n1 A1 (.bl _) pt⟩
theorem de_if {t : TT} (h : DT K B t ρ μ fun b μ1 => (b = true → DE K B ta ρ μ1 P) ∧ (b = false → DE K B tb ρ μ1 P)) : DE K B (tIf t ta tb) ρ μ P := fun σ G H al hB hσ hA Q hQ =>
  h σ G H al hB hσ hA _ fun b μ1 G1 H1 al1 n1 A1 p1 => by
    cases b with
    | true => rw [if_pos rfl]; exact p1.1 rfl σ G1 H1 al1 (hB.trans n1) (hσ.nx n1) A1 Q (hQ.nx n1)
    | false => rw [if_neg (by simp)]; exact p1.2 rfl σ G1 H1 al1 (hB.trans n1) (hσ.nx n1) A1 Q (hQ.nx n1)
theorem de_isN (h : DE K B ta ρ μ fun x μ1 => ∃ b, (b = true ↔ x = .non) ∧ P (.bl b) μ1) : DE K B (tIsN ta) ρ μ P := fun σ G H al hB hσ hA Q hQ =>
  h σ G H al hB hσ hA _ fun v d μ1 G1 H1 al1 n1 A1 r1 p1 => by
    obtain ⟨b, hb, p⟩ := p1
    have e : decide (v = .non) = b := by
      cases d with
      | non => cases r1; simp at hb; simp [hb]
      | _ => cases r1 <;> simp at hb <;> simp [hb]
    rw [e]
    exact hQ _ _ μ1 G1 H1 al1 n1 A1 (.bl _) p
theorem de_notN (h : DE K B ta ρ μ fun x μ1 => ∃ b, (b = true ↔ x = .non) ∧ P (.bl (!b)) μ1) : DE K B (tNotN ta) ρ μ P := fun σ G H al hB hσ hA Q hQ =>
  h σ G H al hB hσ hA _ fun v d μ1 G1 H1 al1 n1 A1 r1 p1 => by
    obtain ⟨b, hb, p⟩ := p1
    have e : decide (v = .non) = b := by
      cases d with
      | non => cases r1; simp at hb; simp [hb]
      | _ => cases r1 <;> simp at hb <;> simp [hb]
    rw [e]
    exact hQ _ _ μ1 G1 H1 al1 n1 A1 (.bl _) p
/-! tests -/
variable {PT' : Bool → Mu → Prop} {t u : TT}
theorem dt_test (h : DE K B te ρ μ fun x μ1 => ∃ b, x = .bl b ∧ PT' b μ1) : DT K B (tTest te) ρ μ PT' := fun σ G H al hB hσ hA Q hQ =>
  h σ G H al hB hσ hA _ fun v d μ1 G1 H1 al1 n1 A1 r1 p1 => by
    obtain ⟨b, rfl, p⟩ := p1
    cases r1
    exact ⟨b, rfl, hQ b μ1 G1 H1 al1 n1 A1 p⟩
theorem dt_B (h : DE K B te ρ μ fun x μ1 => ∃ b, x = .bl b ∧ PT' b μ1) : DT K B (tB te) ρ μ PT' := dt_test h
theorem dt_and (h : DT K B t ρ μ fun b μ1 => (b = true → DT K B u ρ μ1 PT') ∧ (b = false → PT' false μ1)) : DT K B (tAnd t u) ρ μ PT' := fun σ G H al hB hσ hA Q hQ =>
  h σ G H al hB hσ hA _ fun b μ1 G1 H1 al1 n1 A1 p1 => by
    cases b with
    | true => rw [if_pos rfl]; exact p1.1 rfl σ G1 H1 al1 (hB.trans n1) (hσ.nx n1) A1 Q (hQ.nx n1)
    | false => rw [if_neg (by simp)]; exact hQ false μ1 G1 H1 al1 n1 A1 (p1.2 rfl)
theorem dt_or (h : DT K B t ρ μ fun b μ1 => (b = false → DT K B u ρ μ1 PT') ∧ (b = true → PT' true μ1)) : DT K B (tOr t u) ρ μ PT' := fun σ G H al hB hσ hA Q hQ =>
  h σ G H al hB hσ hA _ fun b μ1 G1 H1 al1 n1 A1 p1 => by
    cases b with
    | false => rw [if_neg (by simp)]; exact p1.1 rfl σ G1 H1 al1 (hB.trans n1) (hσ.nx n1) A1 Q (hQ.nx n1)
    | true => rw [if_pos rfl]; exact hQ true μ1 G1 H1 al1 n1 A1 (p1.2 rfl)
theorem dt_not (h : DT K B t ρ μ fun b μ1 => PT' (!b) μ1) : DT K B (tNot t) ρ μ PT' := fun σ G H al hB hσ hA Q hQ =>
  h σ G H al hB hσ hA _ fun b μ1 G1 H1 al1 n1 A1 p1 => hQ (!b) μ1 G1 H1 al1 n1 A1 p1
/-! arguments -/
variable {PA' : List D → Mu → Prop} {tr : TA}
theorem da_nil (h : PA' [] μ) : DA K B tNil ρ μ PA' := fun σ G H al hB hσ hA Q hQ => hQ [] [] μ G H al .refl hA .nil h
theorem da_cons (h : DE K B ta ρ μ fun x μ1 => DA K B tr ρ μ1 fun xs μ2 => PA' (x :: xs) μ2) : DA K B (tCons ta tr) ρ μ PA' := fun σ G H al hB hσ hA Q hQ =>
  h σ G H al hB hσ hA _ fun v d μ1 G1 H1 al1 n1 A1 r1 p1 => p1 σ G1 H1 al1 (hB.trans n1) (hσ.nx n1) A1 _ fun vs ds μ2 G2 H2 al2 n2 A2 r2 p2 => hQ (v :: vs) (d :: ds) μ2 G2 H2 al2 (n1.trans n2) A2 (.cons (r1.nx n2) r2) p2
theorem de_tup {ts : TA} (h : DA K B ts ρ μ fun xs μ1 => xs.length ≤ 100000 ∧ P (.tup xs) μ1) : DE K B (tTup ts) ρ μ P := fun σ G H al hB hσ hA Q hQ =>
  h σ G H al hB hσ hA _ fun vs ds μ1 G1 H1 al1 n1 A1 r1 p1 => by
    refine ⟨by rw [r1.length]; exact Nat.le_trans p1.1 (by decide), fun p hp => ?_⟩
    obtain ⟨A2, n2⟩ := A1.frz (o := .tup vs) hp
    exact hQ _ _ μ1 _ _ al1 (n1.trans n2) A2 (.tup upd_same (r1.nx n2)) p1.2
/-- a list, frozen at once -/
theorem de_lst {ts : TA} (h : DA K B ts ρ μ fun xs μ1 => xs.length ≤ 100000 ∧ P (.lst xs) μ1) : DE K B (tLst ts) ρ μ P := fun σ G H al hB hσ hA Q hQ =>
  h σ G H al hB hσ hA _ fun vs ds μ1 G1 H1 al1 n1 A1 r1 p1 => by
    refine ⟨by rw [r1.length]; exact Nat.le_trans p1.1 (by decide), fun p hp => ?_⟩
    obtain ⟨A2, n2⟩ := A1.frz (o := .lst vs) hp
    exact hQ _ _ μ1 _ _ al1 (n1.trans n2) A2 (.lst upd_same (r1.nx n2)) p1.2
/-- a list that will change -/
theorem de_lstO {ts : TA} (h : DA K B ts ρ μ fun xs μ1 => xs.length ≤ 100000 ∧ P (.own μ1.length) (μ1 ++ [.lst xs])) : DE K B (tLst ts) ρ μ P := fun σ G H al hB hσ hA Q hQ =>
  h σ G H al hB hσ hA _ fun vs ds μ1 G1 H1 al1 n1 A1 r1 p1 => by
    refine ⟨by rw [r1.length]; exact Nat.le_trans p1.1 (by decide), fun p hp => ?_⟩
    obtain ⟨A2, n2⟩ := A1.own (o := .lst vs) (m := .lst ds) hp ⟨A1.sub.free hp, vs, upd_same, r1.mono (Same.refl _) ⟨[p], rfl⟩⟩
    exact hQ _ _ _ _ _ _ (n1.trans n2) A2 (.own (by rw [← A1.len]; simp)) p1.2
theorem de_cb {r : List V → Hp → VK → Prop} {ts : TA} (h : DA K B ts ρ μ fun xs μ1 => RC K r xs μ1 P) : DE K B (tCB r ts) ρ μ P := fun σ G H al hB hσ hA Q hQ =>
  h σ G H al hB hσ hA _ fun vs ds μ1 G1 H1 al1 n1 A1 r1 p1 => p1 G1 H1 al1 vs A1 r1 Q (hQ.nx n1)
theorem do_no {PO : Option Int → Mu → Prop} (h : PO none μ) : DO K B tNoPart ρ μ PO := fun σ G H al hB hσ hA Q hQ => hQ none μ G H al .refl hA h
theorem do_part {PO : Option Int → Mu → Prop} (h : DE K B te ρ μ fun x μ1 => ∃ i, x = .int i ∧ PO (some i) μ1) : DO K B (tPart te) ρ μ PO := fun σ G H al hB hσ hA Q hQ =>
  h σ G H al hB hσ hA _ fun v d μ1 G1 H1 al1 n1 A1 r1 p1 => by
    obtain ⟨i, rfl, p⟩ := p1
    cases r1
    exact ⟨i, rfl, hQ _ μ1 G1 H1 al1 n1 A1 p⟩
theorem de_sl {r : V → Option Int → Option Int → Hp → VK → Prop} {tl th : TO} (h : DE K B te ρ μ fun x μ1 => DO K B tl ρ μ1 fun lo μ2 => DO K B th ρ μ2 fun hi μ3 => RS K r x lo hi μ3 P) : DE K B (tSl r te tl th) ρ μ P := fun σ G H al hB hσ hA Q hQ =>
  h σ G H al hB hσ hA _ fun v d μ1 G1 H1 al1 n1 A1 r1 p1 => p1 σ G1 H1 al1 (hB.trans n1) (hσ.nx n1) A1 _ fun lo μ2 G2 H2 al2 n2 A2 p2 =>
    p2 σ G2 H2 al2 ((hB.trans n1).trans n2) ((hσ.nx n1).nx n2) A2 _ fun hi μ3 G3 H3 al3 n3 A3 p3 => p3 G3 H3 al3 v A3 ((r1.nx n2).nx n3) Q (hQ.nx ((n1.trans n2).trans n3))
/-! fields, methods of built-in types -/
theorem de_fld {f : Str} (h : DE K B te ρ μ fun x μ1 => ∃ C gs d, (x = .obj C gs ∨ ∃ k, x = .own k ∧ μ1[k]? = some (.ins C gs)) ∧ Cls K C ∧ NoAttr K C f ∧ gs.lookup f = some d ∧ P d μ1) : DE K B (tFld K te f) ρ μ P := fun σ G H al hB hσ hA Q hQ =>
  h σ G H al hB hσ hA _ fun v d μ1 G1 H1 al1 n1 A1 r1 p1 => by
    obtain ⟨C, gs, z, hx, cl, na, lk, p⟩ := p1
    rcases hx with rfl | ⟨k, rfl, hk⟩
    · cases r1 with
      | obj e rf =>
        obtain ⟨w, lw, rw'⟩ := rf.look lk
        exact ⟨_, C, _, _, w, rfl, A1.sub _ _ e, cl, na, lw, hQ _ _ μ1 _ _ _ n1 A1 rw' p⟩
    · obtain ⟨a, ha, ok⟩ := A1.get hk
      cases r1 with
      | own e =>
        rw [ha] at e
        cases e
        obtain ⟨ga, dx, fs, hv, rf⟩ := ok
        obtain ⟨w, lw, rw'⟩ := rf.look lk
        exact ⟨_, C, _, _, w, rfl, hv, cl, na, lw, hQ _ _ μ1 _ _ _ n1 A1 rw' p⟩
theorem de_bm {T : String} {r : V → List V → Hp → VK → Prop} {ts : TA} (h : DE K B te ρ μ fun x μ1 => (∀ G H al v, As K G H al μ1 → Rp K G al v x → tyV K T v H) ∧ DA K B ts ρ μ1 fun xs μ2 => RM K r x xs μ2 P) : DE K B (tBM K T r te ts) ρ μ P := fun σ G H al hB hσ hA Q hQ =>
  h σ G H al hB hσ hA _ fun v d μ1 G1 H1 al1 n1 A1 r1 p1 => ⟨p1.1 G1 H1 al1 v A1 r1, p1.2 σ G1 H1 al1 (hB.trans n1) (hσ.nx n1) A1 _ fun vs ds μ2 G2 H2 al2 n2 A2 r2 p2 => p2 G2 H2 al2 v vs A2 (r1.nx n2) r2 Q (hQ.nx (n1.trans n2))⟩
theorem de_bm0 {T : String} {r : V → List V → Hp → VK → Prop} (h : DE K B te ρ μ fun x μ1 => (∀ G H al v, As K G H al μ1 → Rp K G al v x → tyV K T v H) ∧ RM K r x [] μ1 P) : DE K B (tBM0 K T r te) ρ μ P := fun σ G H al hB hσ hA Q hQ =>
  h σ G H al hB hσ hA _ fun v d μ1 G1 H1 al1 n1 A1 r1 p1 => ⟨p1.1 G1 H1 al1 v A1 r1, p1.2 G1 H1 al1 v [] A1 r1 .nil Q (hQ.nx n1)⟩
end
/-! ### targets, statements -/
section
variable {K : PySem.W.Frag} {B : Bs} {ρ : En} {μ : Mu} {P : DEnds} {te ta tb : TE} {t u : TS} {PG' : En → Mu → Prop}
theorem dg_name {i : Nat} {d : D} (h : PG' (ρ.set i (some d)) μ) : DG K B (gName i) d ρ μ PG' := fun σ G H al v hB hσ hA r Q hQ => hQ _ _ μ G H al .refl (hσ.set i r) hA h
theorem dgs_nil (h : PG' ρ μ) : DGs K B gNil [] ρ μ PG' := fun σ G H al vs hB hσ hA r Q hQ => by
  cases r
  exact ⟨rfl, hQ _ _ μ G H al .refl hσ hA h⟩
theorem dgs_cons {g : TG} {gs : TGs} {d : D} {ds : List D} (h : DG K B g d ρ μ fun ρ1 μ1 => DGs K B gs ds ρ1 μ1 PG') : DGs K B (gCons g gs) (d :: ds) ρ μ PG' := fun σ G H al vs hB hσ hA r Q hQ => by
  cases r with
  | cons r1 rs => exact ⟨_, _, rfl, h σ G H al _ hB hσ hA r1 _ fun σ1 ρ1 μ1 G1 H1 al1 n1 hσ1 A1 p1 => p1 σ1 G1 H1 al1 _ (hB.trans n1) hσ1 A1 (rs.nx n1) Q (hQ.nx n1)⟩
theorem dg_tup {n : Nat} {gs : TGs} {ds : List D} (hn : ds.length = n) (h : DGs K B gs ds ρ μ PG') : DG K B (gTup K n gs) (.tup ds) ρ μ PG' := fun σ G H al v hB hσ hA r Q hQ => by
  cases r with
  | tup e rs => exact ⟨_, _, rfl, .inl (.inl (hA.sub _ _ e)), rs.length.trans hn, h σ G H al _ hB hσ hA rs Q hQ⟩
theorem dg_sub {to ti : TE} {r : TSet} {d : D} (h : DE K B to ρ μ fun o μ1 => DE K B ti ρ μ1 fun i μ2 => RSet K r o i d μ2 fun μ3 => PG' ρ μ3) : DG K B (gSub to ti r) d ρ μ PG' := fun σ G H al v hB hσ hA rv Q hQ =>
  h σ G H al hB hσ hA _ fun vo o μ1 G1 H1 al1 n1 A1 r1 p1 => p1 σ G1 H1 al1 (hB.trans n1) (hσ.nx n1) A1 _ fun vi i μ2 G2 H2 al2 n2 A2 r2 p2 =>
    p2 G2 H2 al2 vo vi v A2 (r1.nx n2) r2 ((rv.nx n1).nx n2) _ fun μ3 G3 H3 al3 n3 A3 p3 => hQ _ _ μ3 G3 H3 al3 ((n1.trans n2).trans n3) (((hσ.nx n1).nx n2).nx n3) A3 p3
theorem ds_next (h : P.nx ρ μ) : DS K B tNext ρ μ P := fun σ G H al hB hσ hA De hD => hD.nx _ _ μ G H al .refl hσ hA h
theorem ds_seq (h : DS K B t ρ μ { P with nx := fun ρ1 μ1 => DS K B u ρ1 μ1 P }) : DS K B (tSeq t u) ρ μ P := fun σ G H al hB hσ hA De hD =>
  h σ G H al hB hσ hA _ ⟨fun σ1 ρ1 μ1 G1 H1 al1 n1 hσ1 A1 p1 => p1 σ1 G1 H1 al1 (hB.trans n1) hσ1 A1 De (hD.nx' n1), hD.rt, hD.bk, hD.ct⟩
/-- a statement behind which the ways meet again -/
theorem ds_cut {M : En → Mu → Prop} (h : DS K B t ρ μ { P with nx := M }) (k : ∀ ρ1 μ1, M ρ1 μ1 → DS K B u ρ1 μ1 P) : DS K B (tSeq t u) ρ μ P := fun σ G H al hB hσ hA De hD =>
  h σ G H al hB hσ hA _ ⟨fun σ1 ρ1 μ1 G1 H1 al1 n1 hσ1 A1 p1 => k ρ1 μ1 p1 σ1 G1 H1 al1 (hB.trans n1) hσ1 A1 De (hD.nx' n1), hD.rt, hD.bk, hD.ct⟩
theorem ds_asg {g : TG} (h : DE K B te ρ μ fun d μ1 => DG K B g d ρ μ1 P.nx) : DS K B (tAsg te g) ρ μ P := fun σ G H al hB hσ hA De hD =>
  h σ G H al hB hσ hA _ fun v d μ1 G1 H1 al1 n1 A1 r1 p1 => p1 σ G1 H1 al1 v (hB.trans n1) (hσ.nx n1) A1 r1 _ (hD.nx.nx n1)
theorem ds_set {i : Nat} (h : DE K B te ρ μ fun d μ1 => P.nx (ρ.set i (some d)) μ1) : DS K B (tAsg te (gName i)) ρ μ P := ds_asg (h.imp fun d μ1 p => dg_name p)
theorem ds_drop (h : DE K B te ρ μ fun d μ1 => P.nx ρ μ1) : DS K B (tDrop te) ρ μ P := fun σ G H al hB hσ hA De hD =>
  h σ G H al hB hσ hA _ fun v d μ1 G1 H1 al1 n1 A1 r1 p1 => hD.nx _ _ μ1 G1 H1 al1 n1 (hσ.nx n1) A1 p1
theorem ds_ret (h : DE K B te ρ μ P.rt) : DS K B (tRet te) ρ μ P := fun σ G H al hB hσ hA De hD => h σ G H al hB hσ hA _ hD.rt
theorem ds_retN (h : P.rt .non μ) : DS K B tRetN ρ μ P := fun σ G H al hB hσ hA De hD => hD.rt _ _ μ G H al .refl hA .non h
theorem ds_if {c : TT} (h : DT K B c ρ μ fun b μ1 => (b = true → DS K B t ρ μ1 P) ∧ (b = false → DS K B u ρ μ1 P)) : DS K B (tIfS c t u) ρ μ P := fun σ G H al hB hσ hA De hD =>
  h σ G H al hB hσ hA _ fun b μ1 G1 H1 al1 n1 A1 p1 => by
    cases b with
    | true => rw [if_pos rfl]; exact p1.1 rfl σ G1 H1 al1 (hB.trans n1) (hσ.nx n1) A1 De (hD.nx' n1)
    | false => rw [if_neg (by simp)]; exact p1.2 rfl σ G1 H1 al1 (hB.trans n1) (hσ.nx n1) A1 De (hD.nx' n1)
theorem ds_par {i j : Nat} {ts : TA} (h : DA K B ts ρ μ fun ds μ1 => ∃ x y, ds = [x, y] ∧ P.nx ((ρ.set i (some x)).set j (some y)) μ1) : DS K B (tPar i j ts) ρ μ P := fun σ G H al hB hσ hA De hD =>
  h σ G H al hB hσ hA _ fun vs ds μ1 G1 H1 al1 n1 A1 r1 p1 => by
    obtain ⟨x, y, rfl, p⟩ := p1
    cases r1 with
    | cons rx r2 => cases r2 with
      | cons ry r3 =>
        cases r3
        exact ⟨_, _, rfl, hD.nx _ _ μ1 G1 H1 al1 n1 (((hσ.nx n1).set i rx).set j ry) A1 p⟩
theorem ds_fld {f : Str} (h : DE K B tb ρ μ fun y μ1 => DE K B ta ρ μ1 fun x μ2 => ∃ k C gs, x = .own k ∧ μ2[k]? = some (.ins C gs) ∧ Cls K C ∧ NoAttr K C f ∧ gs.length < 1000 ∧ P.nx ρ (μ2.set k (.ins C (putD f y gs)))) : DS K B (sFld K ta tb f) ρ μ P := fun σ G H al hB hσ hA De hD =>
  h σ G H al hB hσ hA _ fun vy y μ1 G1 H1 al1 n1 A1 r1 p1 => p1 σ G1 H1 al1 (hB.trans n1) (hσ.nx n1) A1 _ fun vx x μ2 G2 H2 al2 n2 A2 r2 p2 => by
    obtain ⟨k, C, gs, rfl, hk, cl, na, hl, p⟩ := p2
    obtain ⟨a, ha, ok⟩ := A2.get hk
    cases r2 with
    | own e =>
      rw [ha] at e
      cases e
      obtain ⟨ga, dx, fs, hv, rf⟩ := ok
      obtain ⟨A3, n3⟩ := A2.put (o := .ins C dx (putF f vy fs)) (m' := .ins C (putD f y gs)) ha hk (by simp) ⟨ga, dx, _, upd_same, rf.put f (r1.nx n2)⟩
      exact ⟨_, C, dx, fs, rfl, hv, cl, na, by rw [rf.length]; exact hl, hD.nx _ _ _ _ _ _ ((n1.trans n2).trans n3) (((hσ.nx n1).nx n2).nx n3) A3 p⟩
theorem ds_fldAug {f : Str} {r : V → V → Hp → VK → Prop} (h : DE K B ta ρ μ fun x μ1 => ∃ k C gs d, x = .own k ∧ μ1[k]? = some (.ins C gs) ∧ Cls K C ∧ NoAttr K C f ∧ gs.lookup f = some d ∧
      DE K B tb ρ μ1 fun y μ2 => RO K r d y μ2 fun z μ3 => ∃ gs', μ3[k]? = some (.ins C gs') ∧ gs'.length < 1000 ∧ P.nx ρ (μ3.set k (.ins C (putD f z gs')))) : DS K B (sFldAug K ta tb r f) ρ μ P := fun σ G H al hB hσ hA De hD =>
  h σ G H al hB hσ hA _ fun vx x μ1 G1 H1 al1 n1 A1 r1 p1 => by
    obtain ⟨k, C, gs, d, rfl, hk, cl, na, lk, p⟩ := p1
    obtain ⟨a, ha, ok⟩ := A1.get hk
    cases r1 with
    | own e =>
      rw [ha] at e
      cases e
      obtain ⟨ga, dx, fs, hv, rf⟩ := ok
      obtain ⟨w, lw, rw'⟩ := rf.look lk
      refine ⟨_, C, dx, fs, w, rfl, hv, cl, na, lw, p σ G1 H1 al1 (hB.trans n1) (hσ.nx n1) A1 _ fun vy y μ2 G2 H2 al2 n2 A2 r2 p2 => p2 G2 H2 al2 w vy A2 (rw'.nx n2) r2 _ fun vz z μ3 G3 H3 al3 n3 A3 r3 p3 => ?_⟩
      obtain ⟨gs', hk3, hl, p⟩ := p3
      obtain ⟨a3, ha3, ok3⟩ := A3.get hk3
      have ea : a3 = _ := Option.some.inj (ha3.symm.trans (n3.p.get (n2.p.get ha)))
      subst ea
      obtain ⟨ga3, dx3, fs3, hv3, rf3⟩ := ok3
      obtain ⟨A4, n4⟩ := A3.put (o := .ins C dx3 (putF f vz fs3)) (m' := .ins C (putD f z gs')) ha3 hk3 (by simp) ⟨ga3, dx3, _, upd_same, rf3.put f r3⟩
      exact ⟨dx3, fs3, hv3, by rw [rf3.length]; exact hl, hD.nx _ _ _ _ _ _ (((n1.trans n2).trans n3).trans n4) ((((hσ.nx n1).nx n2).nx n3).nx n4) A4 p⟩
end
end Dl
set_option Elab.async false
set_option linter.all false
set_option maxRecDepth 100000
namespace Dl
open PySem L2
/-! ### lists that are read -/
inductive Ls (μ : Mu) : D → List D → Prop
  | lst (ds : List D) : Ls μ (.lst ds) ds
  | rdl (ds : List D) : Ls μ (.rdl ds) ds
  | own {k : Nat} {ds : List D} (h : μ[k]? = some (.lst ds)) : Ls μ (.own k) ds
/-- .. and stand in the heap itself -/
inductive Lt (μ : Mu) : D → List D → Prop
  | lst (ds : List D) : Lt μ (.lst ds) ds
  | own {k : Nat} {ds : List D} (h : μ[k]? = some (.lst ds)) : Lt μ (.own k) ds
inductive Ts : D → List D → Prop
  | tup (ds : List D) : Ts (.tup ds) ds
  | rdt (ds : List D) : Ts (.rdt ds) ds
section
variable {K : PySem.W.Frag} {G H : Hp} {al : List Addr} {μ : Mu} {v : V} {d : D} {ds : List D}
theorem Lt.get (h : Lt μ d ds) (A : As K G H al μ) (r : Rp K G al v d) : ∃ a vs, v = .ref a ∧ H a = some (.lst vs) ∧ Rps K G al vs ds := by
  cases h with
  | lst => cases r with | lst e rs => exact ⟨_, _, rfl, A.sub _ _ e, rs⟩
  | own hk =>
    obtain ⟨a, ha, ga, vs, hv, rs⟩ := A.get hk
    cases r with
    | own e => rw [ha] at e; cases e; exact ⟨_, vs, rfl, hv, rs⟩
theorem Ls.get (h : Ls μ d ds) (A : As K G H al μ) (r : Rp K G al v d) : ∃ a vs, v = .ref a ∧ SqL K H a vs ∧ Rps K G al vs ds := by
  cases h with
  | lst => cases r with | lst e rs => exact ⟨_, _, rfl, .inl (.inl (A.sub _ _ e)), rs⟩
  | rdl => cases r with | rdl e rs => exact ⟨_, _, rfl, sql_mono A.sub e, rs⟩
  | own hk =>
    obtain ⟨a, ha, ga, vs, hv, rs⟩ := A.get hk
    cases r with
    | own e => rw [ha] at e; cases e; exact ⟨_, vs, rfl, .inl (.inl hv), rs⟩
theorem Ts.get (h : Ts d ds) (A : As K G H al μ) (r : Rp K G al v d) : ∃ a vs, v = .ref a ∧ SqT K H a vs ∧ Rps K G al vs ds := by
  cases h with
  | tup => cases r with | tup e rs => exact ⟨_, _, rfl, .inl (.inl (A.sub _ _ e)), rs⟩
  | rdt => cases r with | rdt e rs => exact ⟨_, _, rfl, sqt_mono A.sub e, rs⟩
end
theorem rps_cons {K : PySem.W.Frag} {G : Hp} {al : List Addr} {vs : List V} {d : D} {ds : List D} (h : Rps K G al vs (d :: ds)) : ∃ v ws, vs = v :: ws ∧ Rp K G al v d ∧ Rps K G al ws ds := by
  cases h with | cons r t => exact ⟨_, _, rfl, r, t⟩
theorem rps_nil {K : PySem.W.Frag} {G : Hp} {al : List Addr} {vs : List V} (h : Rps K G al vs []) : vs = [] := by cases h; rfl
theorem rps1 {K : PySem.W.Frag} {G : Hp} {al : List Addr} {vs : List V} {d : D} (h : Rps K G al vs [d]) : ∃ v, vs = [v] ∧ Rp K G al v d := by
  obtain ⟨v, ws, rfl, r, t⟩ := rps_cons h
  cases t; exact ⟨v, rfl, r⟩
theorem rps2 {K : PySem.W.Frag} {G : Hp} {al : List Addr} {vs : List V} {d e : D} (h : Rps K G al vs [d, e]) : ∃ v w, vs = [v, w] ∧ Rp K G al v d ∧ Rp K G al w e := by
  obtain ⟨v, ws, rfl, r, t⟩ := rps_cons h
  obtain ⟨w, rfl, q⟩ := rps1 t
  exact ⟨v, w, rfl, r, q⟩
/-- an item by an index of any sign -/
theorem atI_rps {K : PySem.W.Frag} {G : Hp} {al : List Addr} {vs : List V} {ds : List D} {i : Int} {d : D} (h : Rps K G al vs ds) (e : atI ds i = some d) : ∃ v, atI vs i = some v ∧ Rp K G al v d := by
  unfold atI at e ⊢
  rw [h.length]
  cases q : ixN ds.length i with
  | none => rw [q] at e; cases e
  | some j =>
    rw [q] at e
    exact h.get e
def cutD (xs : List D) (lo hi : Option Int) : List D := (xs.drop (HT.sIx xs.length 0 lo)).take (HT.sIx xs.length xs.length hi - HT.sIx xs.length 0 lo)
theorem cut_rps {K : PySem.W.Frag} {G : Hp} {al : List Addr} {vs : List V} {ds : List D} (h : Rps K G al vs ds) (lo hi : Option Int) : Rps K G al (cutV vs lo hi) (cutD ds lo hi) := by
  unfold cutV cutD
  rw [h.length]
  exact (h.drop _).take _
section
variable {K : PySem.W.Frag} {μ : Mu} {P : D → Mu → Prop} {i j : Int} {x y d : D} {ds es : List D}
/-! ### numbers -/
theorem ro_i {f : Int → Int → Int} (h : P (.int (f i j)) μ) : RO K (rI0 fun i j => .int (f i j)) (.int i) (.int j) μ P := fun G H al v w A r1 r2 Q hQ => by
  cases r1; cases r2
  exact ⟨i, j, rfl, rfl, hQ.now A (.int _) h⟩
theorem ro_b {f : Int → Int → Bool} (h : P (.bl (f i j)) μ) : RO K (rI0 fun i j => .bl (f i j)) (.int i) (.int j) μ P := fun G H al v w A r1 r2 Q hQ => by
  cases r1; cases r2
  exact ⟨i, j, rfl, rfl, hQ.now A (.bl _) h⟩
theorem ro_ic {C : Int → Int → Prop} {f : Int → Int → Int} (hc : C i j) (h : P (.int (f i j)) μ) : RO K (rI C fun i j => .int (f i j)) (.int i) (.int j) μ P := fun G H al v w A r1 r2 Q hQ => by
  cases r1; cases r2
  exact ⟨i, j, rfl, rfl, hc, hQ.now A (.int _) h⟩
theorem ro_ip {f : Int → Int → Int} (h : P (.int (f i j)) μ) : RO K (ipI f) (.int i) (.int j) μ P := fun G H al v w A r1 r2 Q hQ => by
  cases r1; cases r2
  exact ⟨i, j, rfl, rfl, hQ.now A (.int _) h⟩
theorem ro_add (h : P (.int (i + j)) μ) : RO K rAdd (.int i) (.int j) μ P := fun G H al v w A r1 r2 Q hQ => by
  cases r1; cases r2
  exact ⟨i, j, rfl, rfl, hQ.now A (.int _) h⟩
theorem ru_i {f : Int → Int} (h : P (.int (f i)) μ) : RU K (rU fun i => .int (f i)) (.int i) μ P := fun G H al v A r1 Q hQ => by
  cases r1
  exact ⟨i, rfl, hQ.now A (.int _) h⟩
theorem rc_max2 (h : P (.int (max i j)) μ) : RC K (fun xs H Q => ∃ i j, xs = [.int i, .int j] ∧ Q (.int (if j > i then j else i)) H) [.int i, .int j] μ P := fun G H al vs A r Q hQ => by
  obtain ⟨v, w, rfl, r1, r2⟩ := rps2 r
  cases r1; cases r2
  refine ⟨i, j, rfl, ?_⟩
  have e : (if j > i then j else i) = max i j := by rw [Int.max_def]; split <;> split <;> omega
  rw [e]
  exact hQ.now A (.int _) h
theorem rc_min2 (h : P (.int (min i j)) μ) : RC K (fun xs H Q => ∃ i j, xs = [.int i, .int j] ∧ Q (.int (if j < i then j else i)) H) [.int i, .int j] μ P := fun G H al vs A r Q hQ => by
  obtain ⟨v, w, rfl, r1, r2⟩ := rps2 r
  cases r1; cases r2
  refine ⟨i, j, rfl, ?_⟩
  have e : (if j < i then j else i) = min i j := by rw [Int.min_def]; split <;> split <;> omega
  rw [e]
  exact hQ.now A (.int _) h
/-! ### lengths, items, slices, joins -/
theorem rc_len (hl : Ls μ x ds) (h : P (.int (ds.length : Int)) μ) : RC K (fun xs H Q => ∃ x n, xs = [x] ∧ LenV K x H n ∧ Q (.int (n : Nat)) H) [x] μ P := fun G H al vs A r Q hQ => by
  obtain ⟨v, rfl, r1⟩ := rps1 r
  obtain ⟨a, ws, rfl, s, rs⟩ := hl.get A r1
  exact ⟨.ref a, ds.length, rfl, .inl ⟨ws, s, rs.length.symm⟩, hQ.now A (.int _) h⟩
theorem rc_lenT (hl : Ts x ds) (h : P (.int (ds.length : Int)) μ) : RC K (fun xs H Q => ∃ x n, xs = [x] ∧ LenV K x H n ∧ Q (.int (n : Nat)) H) [x] μ P := fun G H al vs A r Q hQ => by
  obtain ⟨v, rfl, r1⟩ := rps1 r
  obtain ⟨a, ws, rfl, s, rs⟩ := hl.get A r1
  exact ⟨.ref a, ds.length, rfl, .inr ⟨ws, s, rs.length.symm⟩, hQ.now A (.int _) h⟩
theorem ro_ixL (hl : Ls μ x ds) (e : atI ds i = some d) (h : P d μ) : RO K (rIx K) x (.int i) μ P := fun G H al v w A r1 r2 Q hQ => by
  cases r2
  obtain ⟨a, ws, rfl, s, rs⟩ := hl.get A r1
  obtain ⟨z, ez, rz⟩ := atI_rps rs e
  exact .inl ⟨a, ws, i, z, rfl, rfl, s, ez, hQ.now A rz h⟩
theorem ro_ixT (hl : Ts x ds) (e : atI ds i = some d) (h : P d μ) : RO K (rIx K) x (.int i) μ P := fun G H al v w A r1 r2 Q hQ => by
  cases r2
  obtain ⟨a, ws, rfl, s, rs⟩ := hl.get A r1
  obtain ⟨z, ez, rz⟩ := atI_rps rs e
  exact .inr (.inl ⟨a, ws, i, z, rfl, rfl, s, ez, hQ.now A rz h⟩)
theorem rs_lst {lo hi : Option Int} (hl : Ls μ x ds) (h : P (.lst (cutD ds lo hi)) μ) : RS K (rSlL K) x lo hi μ P := fun G H al v A r Q hQ => by
  obtain ⟨a, ws, rfl, s, rs⟩ := hl.get A r
  refine ⟨a, ws, rfl, s, fun p hp => ?_⟩
  obtain ⟨A2, n2⟩ := A.frz (o := .lst (cutV ws lo hi)) hp
  exact hQ _ _ μ _ _ _ n2 A2 (.lst upd_same ((cut_rps rs lo hi).nx n2)) h
theorem ro_cat (h1 : Lt μ x ds) (h2 : Lt μ y es) (hs : ds.length + es.length ≤ 100000) (h : P (.lst (ds ++ es)) μ) : RO K rCat x y μ P := fun G H al v w A r1 r2 Q hQ => by
  obtain ⟨a, ws, rfl, s1, rs1⟩ := h1.get A r1
  obtain ⟨b, us, rfl, s2, rs2⟩ := h2.get A r2
  refine ⟨a, b, ws, us, rfl, rfl, s1, s2, by rw [rs1.length, rs2.length]; exact Nat.le_trans hs (by decide), fun p hp => ?_⟩
  obtain ⟨A2, n2⟩ := A.frz (o := .lst (ws ++ us)) hp
  exact hQ _ _ μ _ _ _ n2 A2 (.lst upd_same ((rs1.append rs2).nx n2)) h
/-! ### lists that change -/
theorem ty_list (hl : Ls μ x ds) : ∀ G H al v, As K G H al μ → Rp K G al v x → tyV K "list" v H := fun G H al v A r => by
  obtain ⟨a, ws, rfl, s, rs⟩ := hl.get A r
  exact .inl ⟨rfl, ws, s⟩
theorem rm_app {k : Nat} (hk : μ[k]? = some (.lst ds)) (hs : ds.length < 100000) (h : P .non (μ.set k (.lst (ds ++ [d])))) : RM K rAppend (.own k) [d] μ P := fun G H al v vs A r rs Q hQ => by
  obtain ⟨a, ha, ga, ws, hv, rw'⟩ := A.get hk
  obtain ⟨u, rfl, ru⟩ := rps1 rs
  cases r with
  | own e =>
    rw [ha] at e; cases e
    refine ⟨a, ws, u, rfl, rfl, hv, by rw [rw'.length]; exact Nat.lt_of_lt_of_le hs (by decide), ?_⟩
    obtain ⟨A2, n2⟩ := A.put (o := .lst (ws ++ [u])) (m' := .lst (ds ++ [d])) ha hk (by simp) ⟨ga, _, upd_same, rw'.append (.cons ru .nil)⟩
    exact hQ _ _ _ _ _ _ n2 A2 .non h
theorem rm_reverse {k : Nat} (hk : μ[k]? = some (.lst ds)) (h : P .non (μ.set k (.lst ds.reverse))) : RM K rReverse (.own k) [] μ P := fun G H al v vs A r rs Q hQ => by
  obtain ⟨a, ha, ga, ws, hv, rw'⟩ := A.get hk
  have := rps_nil rs
  subst this
  cases r with
  | own e =>
    rw [ha] at e; cases e
    obtain ⟨A2, n2⟩ := A.put (o := .lst ws.reverse) (m' := .lst ds.reverse) ha hk (by simp) ⟨ga, _, upd_same, rw'.reverse⟩
    exact ⟨a, ws, rfl, rfl, hv, hQ _ _ _ _ _ _ n2 A2 .non h⟩
theorem rset_lst {k j : Nat} {PM : Mu → Prop} (hk : μ[k]? = some (.lst ds)) (hj : ixN ds.length i = some j) (h : PM (μ.set k (.lst (ds.set j d)))) : RSet K rSetL (.own k) (.int i) d μ PM := fun G H al v w u A r1 r2 r3 Q hQ => by
  obtain ⟨a, ha, ga, ws, hv, rw'⟩ := A.get hk
  cases r2
  cases r1 with
  | own e =>
    rw [ha] at e; cases e
    obtain ⟨A2, n2⟩ := A.put (o := .lst (ws.set j u)) (m' := .lst (ds.set j d)) ha hk (by simp) ⟨ga, _, upd_same, rw'.set j r3⟩
    exact ⟨a, ws, i, j, rfl, rfl, hv, by rw [rw'.length]; exact hj, hQ _ _ _ _ n2 A2 h⟩
/-! ### sums, all, any -/
theorem rc_sum {ns : List Int} (hl : Ls μ x (ns.map D.int)) (h : P (.int ns.sum) μ) : RC K (rSum K) [x] μ P := fun G H al vs A r Q hQ => by
  obtain ⟨v, rfl, r1⟩ := rps1 r
  obtain ⟨a, ws, rfl, s, rs⟩ := hl.get A r1
  have e := rs.ints
  subst e
  exact ⟨a, ns, rfl, s, hQ.now A (.int _) h⟩
theorem rc_all {bs : List Bool} (hl : Ls μ x (bs.map D.bl)) (h : P (.bl (bs.all id)) μ) : RC K (rAll K) [x] μ P := fun G H al vs A r Q hQ => by
  obtain ⟨v, rfl, r1⟩ := rps1 r
  obtain ⟨a, ws, rfl, s, rs⟩ := hl.get A r1
  have e := rs.bools
  subst e
  exact ⟨a, bs, rfl, s, hQ.now A (.bl _) h⟩
end
/-! ### isinstance -/
/-- a built-in type's name -/
def tyD (μ : Mu) : D → Option String
  | .non => some "NoneType"
  | .bl _ => some "bool"
  | .int _ => some "int"
  | .str _ => some "str"
  | .tup _ => some "tuple"
  | .lst _ => some "list"
  | .rdl _ => some "list"
  | .rdt _ => some "tuple"
  | .dct _ => some "dict"
  | .own k => match μ[k]? with
    | some (.lst _) => some "list"
    | some (.dK _) => some "dict"
    | some (.dT _) => some "dict"
    | _ => none
  | _ => none
/-- what isinstance asks of an own class -/
structure ObT (K : PySem.W.Frag) (C : Addr) : Prop where
  cl : Cls K C
  ha : PySem.W.findIn K (.ref C) "__class__" = some (some (.builtin "object.__class__"))
  hn : PySem.W.specialIn K (.builtin "object.__class__") "__get__" = some (some (.builtin "getset_descriptor.__get__"))
  htk : PySem.W.takesIn K (.builtin "object.__class__") = some true
  hm : PySem.W.mroIn K C (.type "object") = some true
/-- the type of a datum as the deciders take it -/
inductive TyDV (K : PySem.W.Frag) (μ : Mu) : D → Value → Prop
  | ty {d : D} {n : String} (h : tyD μ d = some n) : TyDV K μ d (.type n)
  | obj {C : Addr} {gs : List (Str × D)} (o : ObT K C) : TyDV K μ (.obj C gs) (.ref C)
  | own {C : Addr} {gs : List (Str × D)} {k : Nat} (h : μ[k]? = some (.ins C gs)) (o : ObT K C) : TyDV K μ (.own k) (.ref C)
inductive ClD : D → Value → Prop
  | ty (n : String) : ClD (.ty n) (.type n)
  | loc (C : Addr) : ClD (.loc C) (.ref C)
theorem TyDV.tyx {K : PySem.W.Frag} {G H : Hp} {al : List Addr} {μ : Mu} {v : V} {d : D} {t : Value} (h : TyDV K μ d t) (A : As K G H al μ) (r : Rp K G al v d) : TyX K H v t := by
  cases h with
  | obj o =>
    cases r with
    | obj e rf => exact .base (.ins (A.sub _ _ e) o.cl o.ha o.hn o.htk o.hm)
  | own hk o =>
    obtain ⟨a, ha, ga, dx, fs, hv, rf⟩ := A.get hk
    cases r with
    | own e => rw [ha] at e; cases e; exact .base (.ins hv o.cl o.ha o.hn o.htk o.hm)
  | ty ht =>
    cases r with
    | non => cases ht; exact .base .non
    | bl b => cases ht; exact .base (.bl b)
    | int i => cases ht; exact .base (.int i)
    | str x => cases ht; exact .base (.str x)
    | ty n => cases ht
    | tup e rs => cases ht; exact .base (.tup (A.sub _ _ e))
    | lst e rs => cases ht; exact .base (.lst (A.sub _ _ e))
    | rdl e rs =>
      cases ht
      rcases e with (e | ⟨o, e⟩) | ⟨o, its, n, hk, hc, hd, hs, hz, _⟩
      · exact .base (.lst (A.sub _ _ e))
      · exact .base (.frz (A.sub _ _ e))
      · exact .kList hk hc
    | rdt e rs =>
      cases ht
      rcases e with (e | ⟨o, e⟩) | ⟨o, its, n, hk, hc, hs, hz, _⟩
      · exact .base (.tup (A.sub _ _ e))
      · exact .fTuple (A.sub _ _ e)
      · exact .kTuple hk hc
    | obj e rf => cases ht
    | dct e rf =>
      cases ht
      rcases e with e | ⟨o, e⟩
      · exact .base (.dK (A.sub _ _ e))
      · exact .fDict (A.sub _ _ e)
    | own e =>
      rename_i a k
      simp only [tyD] at ht
      cases hk : μ[k]? with
      | none => rw [hk] at ht; cases ht
      | some m =>
        rw [hk] at ht
        obtain ⟨a', ha, ok⟩ := A.get hk
        rw [ha] at e; cases e
        cases m with
        | lst ds => cases ht; obtain ⟨ga, vs, hv, _⟩ := ok; exact .base (.lst hv)
        | dK ds => cases ht; obtain ⟨ga, vs, hv, _⟩ := ok; exact .base (.dK hv)
        | dT ds => cases ht; obtain ⟨ga, vs, hv, _⟩ := ok; exact .base (.dT hv)
        | dead => cases ht
        | ins _ _ => cases ht
        | tab _ _ => cases ht
    | loc a => cases ht
    | exc _ _ _ => cases ht
section
variable {K : PySem.W.Frag} {μ : Mu} {P : D → Mu → Prop} {x c : D}
theorem rc_isi {t u : Value} {b : Bool} (ht : TyDV K μ x t) (hc : ClD c u) (hk : PySem.W.kitOne K t u = some b) (h : P (.bl b) μ) : RC K (rIsi K) [x, c] μ P := fun G H al vs A r Q hQ => by
  obtain ⟨v, w, rfl, r1, r2⟩ := rps2 r
  have tx := ht.tyx A r1
  cases hc with
  | ty n => cases r2; exact ⟨v, _, t, _, b, rfl, .ty n, tx, hk, hQ.now A (.bl b) h⟩
  | loc C => cases r2; exact ⟨v, _, t, _, b, rfl, .own C, tx, hk, hQ.now A (.bl b) h⟩
theorem rc_isiB {n m : String} {b : Bool} (ht : tyD μ x = some n) (hk : kitB n m = some b) (h : P (.bl b) μ) : RC K (rIsi K) [x, .ty m] μ P := rc_isi (.ty ht) (.ty m) (kit_ty hk) h
end
/-! ### == of data -/
mutual
def D.py : D → PyData
  | .non => .none
  | .bl b => .bool b
  | .int i => .int i
  | .str x => .str x
  | .ty _ => .none
  | .tup xs => .tuple (pyL xs)
  | .lst xs => .list (pyL xs)
  | .rdl xs => .list (pyL xs)
  | .rdt xs => .tuple (pyL xs)
  | .obj _ _ => .none
  | .dct _ => .none
  | .own _ => .none
  | .loc _ => .none
  | .exc _ _ => .none
def pyL : List D → List PyData
  | [] => []
  | x :: xs => D.py x :: pyL xs
end
mutual
/-- data that == goes through: how deep -/
def D.shp : D → Nat → Bool
  | .non, _ => true
  | .bl _, _ => true
  | .int _, _ => true
  | .str x, _ => PyData.strOk x
  | .tup xs, n => decide (0 < n) && shpL xs (n - 1)
  | .lst xs, n => decide (0 < n) && shpL xs (n - 1)
  | .rdl xs, n => decide (0 < n) && shpL xs (n - 1)
  | .rdt xs, n => decide (0 < n) && shpL xs (n - 1)
  | .ty _, _ => false
  | .obj _ _, _ => false
  | .dct _, _ => false
  | .own _, _ => false
  | .loc _, _ => false
  | .exc _ _, _ => false
def shpL : List D → Nat → Bool
  | [], _ => true
  | x :: xs, n => D.shp x n && shpL xs n
end
section
variable {K : PySem.W.Frag} {G H : Hp} {al : List Addr}
mutual
theorem dp_of (s : Same G H) : ∀ {d : D} {n : Nat} {v : V}, d.shp n = true → Rp K G al v d → Dp K H v d.py
  | .non, _, _, _, .non => by unfold D.py; exact .non
  | .bl _, _, _, _, .bl b => by unfold D.py; exact .bl b
  | .int _, _, _, _, .int i => by unfold D.py; exact .int i
  | .str _, _, _, _, .str x => by unfold D.py; exact .str x
  | .tup xs, n, _, h, .tup e r => by
    unfold D.py; unfold D.shp at h; simp at h
    exact .tup (.inl (.inl (s _ _ e))) (dpAll_of s h.2 r)
  | .lst xs, n, _, h, .lst e r => by
    unfold D.py; unfold D.shp at h; simp at h
    exact .lst (.inl (.inl (s _ _ e))) (dpAll_of s h.2 r)
  | .rdl xs, n, _, h, .rdl e r => by
    unfold D.py; unfold D.shp at h; simp at h
    exact .lst (sql_mono s e) (dpAll_of s h.2 r)
  | .rdt xs, n, _, h, .rdt e r => by
    unfold D.py; unfold D.shp at h; simp at h
    exact .tup (sqt_mono s e) (dpAll_of s h.2 r)
  | .ty _, _, _, h, _ => by unfold D.shp at h; cases h
  | .obj _ _, _, _, h, _ => by unfold D.shp at h; cases h
  | .dct _, _, _, h, _ => by unfold D.shp at h; cases h
  | .own _, _, _, h, _ => by unfold D.shp at h; cases h
  | .loc _, _, _, h, _ => by unfold D.shp at h; cases h
  | .exc _ _, _, _, h, _ => by unfold D.shp at h; cases h
theorem dpAll_of (s : Same G H) : ∀ {ds : List D} {n : Nat} {vs : List V}, shpL ds n = true → Rps K G al vs ds → DpAll K H vs (pyL ds)
  | [], _, _, _, .nil => by unfold pyL; exact .nil
  | d :: ds, n, _, h, .cons r t => by
    unfold pyL; unfold shpL at h; simp at h
    exact .cons (dp_of s h.1 r) (dpAll_of s h.2 t)
end
end
mutual
theorem can_of : ∀ {d : D} {n : Nat}, d.shp n = true → d.py.canLay0 = true ∧ d.py.depth ≤ n
  | .non, n, _ => by simp [D.py, PyData.canLay0, PyData.depth]
  | .bl _, n, _ => by simp [D.py, PyData.canLay0, PyData.depth]
  | .int _, n, _ => by simp [D.py, PyData.canLay0, PyData.depth]
  | .str x, n, h => by
    unfold D.shp at h
    simp [D.py, PyData.canLay0, PyData.depth, h]
  | .tup xs, n, h => by
    unfold D.shp at h; simp at h
    have q := canL_of h.2
    simp [D.py, PyData.canLay0, PyData.depth, q.1]
    omega
  | .lst xs, n, h => by
    unfold D.shp at h; simp at h
    have q := canL_of h.2
    simp [D.py, PyData.canLay0, PyData.depth, q.1]
    omega
  | .rdl xs, n, h => by
    unfold D.shp at h; simp at h
    have q := canL_of h.2
    simp [D.py, PyData.canLay0, PyData.depth, q.1]
    omega
  | .rdt xs, n, h => by
    unfold D.shp at h; simp at h
    have q := canL_of h.2
    simp [D.py, PyData.canLay0, PyData.depth, q.1]
    omega
  | .ty _, _, h => by unfold D.shp at h; cases h
  | .obj _ _, _, h => by unfold D.shp at h; cases h
  | .dct _, _, h => by unfold D.shp at h; cases h
  | .own _, _, h => by unfold D.shp at h; cases h
  | .loc _, _, h => by unfold D.shp at h; cases h
  | .exc _ _, _, h => by unfold D.shp at h; cases h
theorem canL_of : ∀ {ds : List D} {n : Nat}, shpL ds n = true → PyData.canLayAll0 (pyL ds) = true ∧ PyData.depthAll (pyL ds) ≤ n
  | [], n, _ => by simp [pyL, PyData.canLayAll0, PyData.depthAll]
  | d :: ds, n, h => by
    unfold shpL at h; simp at h
    have q1 := can_of h.1
    have q2 := canL_of h.2
    simp [pyL, PyData.canLayAll0, PyData.depthAll, q1.1, q2.1]
    have := q1.2; have := q2.2; omega
end
theorem shaped_of {d : D} {n : Nat} (hn : n ≤ 64) (h : d.shp n = true) : SeqAt.shaped d.py = true := by
  have q := can_of h
  unfold SeqAt.shaped
  simp [q.1]
  omega
theorem beq_dec {α : Type} [BEq α] [LawfulBEq α] [DecidableEq α] (a b : α) : (a == b) = decide (a = b) := by
  rw [Bool.eq_iff_iff, beq_iff_eq, decide_eq_true_eq]
/-- what == says of two data -/
def eqvD (x y : D) : Bool := PyData.eqv x.py y.py
def eqvL (xs ys : List D) : Bool := PyData.eqvAll (pyL xs) (pyL ys)
@[simp] theorem eqvD_int (i j : Int) : eqvD (.int i) (.int j) = decide (i = j) := by
  simp only [eqvD, D.py, PyData.eqv]
  exact beq_dec i j
@[simp] theorem eqvD_bl (i j : Bool) : eqvD (.bl i) (.bl j) = decide (i = j) := by
  simp only [eqvD, D.py, PyData.eqv]
  exact beq_dec i j
@[simp] theorem eqvD_str (i j : Str) : eqvD (.str i) (.str j) = decide (i = j) := by
  simp only [eqvD, D.py, PyData.eqv]
  exact beq_dec i j
@[simp] theorem eqvD_tup (xs ys : List D) : eqvD (.tup xs) (.tup ys) = eqvL xs ys := by simp only [eqvD, eqvL, D.py, PyData.eqv]
@[simp] theorem eqvD_lst (xs ys : List D) : eqvD (.lst xs) (.lst ys) = eqvL xs ys := by simp only [eqvD, eqvL, D.py, PyData.eqv]
@[simp] theorem eqvD_rdl (xs ys : List D) : eqvD (.rdl xs) (.lst ys) = eqvL xs ys := by simp only [eqvD, eqvL, D.py, PyData.eqv]
@[simp] theorem eqvL_nil : eqvL [] [] = true := by simp only [eqvL, pyL, PyData.eqvAll]
@[simp] theorem eqvL_cons (x y : D) (xs ys : List D) : eqvL (x :: xs) (y :: ys) = (eqvD x y && eqvL xs ys) := by simp only [eqvL, eqvD, pyL, PyData.eqvAll]
@[simp] theorem eqvL_nc (y : D) (ys : List D) : eqvL [] (y :: ys) = false := by simp only [eqvL, pyL, PyData.eqvAll]
@[simp] theorem eqvL_cn (y : D) (ys : List D) : eqvL (y :: ys) [] = false := by simp only [eqvL, pyL, PyData.eqvAll]
@[simp] theorem eqvD_nn : eqvD .non .non = true := by simp only [eqvD, D.py, PyData.eqv]
theorem eqvL_map {α : Type} [DecidableEq α] {f : α → D} (hf : ∀ a b, eqvD (f a) (f b) = decide (a = b)) : ∀ xs ys : List α, eqvL (xs.map f) (ys.map f) = decide (xs = ys)
  | [], [] => by simp
  | [], _ :: _ => by simp
  | _ :: _, [] => by simp
  | x :: xs, y :: ys => by
    rw [List.map_cons, List.map_cons, eqvL_cons, hf, eqvL_map hf xs ys, ← Bool.decide_and]
    exact decide_eq_decide.mpr (by rw [List.cons.injEq])
theorem shpL_map {α : Type} {f : α → D} {n : Nat} {xs : List α} (h : ∀ x ∈ xs, (f x).shp n = true) : shpL (xs.map f) n = true := by
  induction xs with
  | nil => simp [shpL]
  | cons x xs ih =>
    simp [shpL, h x (by simp)]
    exact ih fun y hy => h y (by simp [hy])
/-- one that may still change is looked at as it is now -/
inductive Fz (μ : Mu) : D → D → Prop
  | id (d : D) : Fz μ d d
  | own {k : Nat} {ds : List D} (h : μ[k]? = some (.lst ds)) : Fz μ (.own k) (.lst ds)
theorem Fz.dp {K : PySem.W.Frag} {G H : Hp} {al : List Addr} {μ : Mu} {v : V} {x d : D} {n : Nat} (h : Fz μ x d) (A : As K G H al μ) (hs : d.shp n = true) (r : Rp K G al v x) : Dp K H v d.py := by
  cases h with
  | id => exact dp_of A.sub hs r
  | own hk =>
    obtain ⟨a, ha, ga, ws, hv, rw'⟩ := A.get hk
    cases r with
    | own e =>
      rw [ha] at e; cases e
      unfold D.py; unfold D.shp at hs; simp at hs
      exact .lst (.inl (.inl hv)) (dpAll_of A.sub hs.2 rw')
section
variable {K : PySem.W.Frag} {μ : Mu} {P : D → Mu → Prop} {x y d e : D}
theorem ro_eqD {n m : Nat} (hx : Fz μ x d) (hy : Fz μ y e) (h1 : d.shp n = true) (h2 : e.shp m = true) (h : P (.bl (eqvD d e)) μ) (hn : n ≤ 64 := by decide) (hm : m ≤ 64 := by decide) : RO K (rEqD K) x y μ P := fun G H al v w A r1 r2 Q hQ =>
  ⟨d.py, e.py, hx.dp A h1 r1, hy.dp A h2 r2, shaped_of hn h1, shaped_of hm h2, hQ.now A (.bl _) h⟩
theorem ro_neD {n m : Nat} (hx : Fz μ x d) (hy : Fz μ y e) (h1 : d.shp n = true) (h2 : e.shp m = true) (h : P (.bl (!eqvD d e)) μ) (hn : n ≤ 64 := by decide) (hm : m ≤ 64 := by decide) : RO K (rNeD K) x y μ P := fun G H al v w A r1 r2 Q hQ =>
  ⟨d.py, e.py, hx.dp A h1 r1, hy.dp A h2 r2, shaped_of hn h1, shaped_of hm h2, hQ.now A (.bl _) h⟩
theorem ro_eqI {i j : Int} (h : P (.bl (decide (i = j))) μ) : RO K (rEqD K) (.int i) (.int j) μ P := ro_eqD (n := 0) (m := 0) (.id _) (.id _) rfl rfl (by rw [eqvD_int]; exact h)
theorem ro_neI {i j : Int} (h : P (.bl (!decide (i = j))) μ) : RO K (rNeD K) (.int i) (.int j) μ P := ro_neD (n := 0) (m := 0) (.id _) (.id _) rfl rfl (by rw [eqvD_int]; exact h)
theorem ro_eqB {i j : Bool} (h : P (.bl (decide (i = j))) μ) : RO K (rEqD K) (.bl i) (.bl j) μ P := ro_eqD (n := 0) (m := 0) (.id _) (.id _) rfl rfl (by rw [eqvD_bl]; exact h)
theorem ro_neB {i j : Bool} (h : P (.bl (!decide (i = j))) μ) : RO K (rNeD K) (.bl i) (.bl j) μ P := ro_neD (n := 0) (m := 0) (.id _) (.id _) rfl rfl (by rw [eqvD_bl]; exact h)
end
end Dl
set_option Elab.async false
set_option linter.all false
set_option maxRecDepth 100000
namespace Dl
open PySem L2
/-! ### what is walked -/
/-- J walks ds, as long as S holds of what may change -/
def ItOk (K : PySem.W.Frag) (J : It) (ds : List D) (S : Mu → Prop) (G H : Hp) (al : List Addr) : Prop := ∀ G2 H2 al2 μ2, Nx G H al G2 H2 al2 → As K G2 H2 al2 μ2 → S μ2 →
  (∀ i, i < ds.length → J.go i H2) ∧ (∀ i, ds.length ≤ i → J.stop i H2) ∧ ∀ i x H3, J.yld i H2 x H3 → ∀ d, ds[i]? = some d → ∃ G3, Nx G2 H2 al2 G3 H3 al2 ∧ As K G3 H3 al2 μ2 ∧ Rp K G3 al2 x d
def DI (K : PySem.W.Frag) (B : Bs) (wi : TI) (ρ : En) (μ : Mu) (P : List D → (Mu → Prop) → Mu → Prop) : Prop := ∀ σ G H al, B.le G H al → RpS K G al σ ρ → As K G H al μ → ∀ R : It → Hp → Prop,
  (∀ J ds S μ' G' H' al', Nx G H al G' H' al' → As K G' H' al' μ' → ItOk K J ds S G' H' al' → P ds S μ' → R J H') → wi σ H R
section
variable {K : PySem.W.Frag} {B : Bs} {ρ : En} {μ : Mu} {te : TE} {ts : TA} {PI' : List D → (Mu → Prop) → Mu → Prop}
theorem itl_ok {G H : Hp} {al : List Addr} {a : Addr} {ds : List D} {S : Mu → Prop} (h : ∀ G2 H2 al2 μ2, Nx G H al G2 H2 al2 → As K G2 H2 al2 μ2 → S μ2 → ∃ vs, SqL K H2 a vs ∧ Rps K G2 al2 vs ds) : ItOk K (Itl K a) ds S G H al := fun G2 H2 al2 μ2 n A s => by
  obtain ⟨vs, sq, r⟩ := h G2 H2 al2 μ2 n A s
  refine ⟨fun i hi => ⟨vs, vs[i]'(by rw [r.length]; exact hi), sq, by simp⟩, fun i hi => ⟨vs, sq, by rw [r.length]; exact hi⟩, fun i x H3 y d hd => ?_⟩
  obtain ⟨rfl, y⟩ := y
  obtain ⟨d', hd', r'⟩ := r.getV (y vs sq)
  rw [hd] at hd'; cases hd'
  exact ⟨G2, .refl, A, r'⟩
/-- lo, lo + 1, .. -/
def rangeD (lo : Int) (n : Nat) : List D := (List.range n).map fun (i : Nat) => D.int (lo + (i : Int))
theorem rangeD_length (lo : Int) (n : Nat) : (rangeD lo n).length = n := by simp [rangeD]
theorem rangeD_get {lo : Int} {n i : Nat} (h : i < n) : (rangeD lo n)[i]? = some (.int (lo + (i : Int))) := by simp [rangeD, h]
theorem rangeD_some {lo : Int} {n i : Nat} {d : D} (h : (rangeD lo n)[i]? = some d) : i < n ∧ d = .int (lo + (i : Int)) := by
  have hi : i < n := by
    have := (List.getElem?_eq_some_iff.mp h).1
    rw [rangeD_length] at this
    exact this
  rw [rangeD_get hi] at h
  exact ⟨hi, (Option.some.inj h).symm⟩
theorem itr_ok {lo : Int} {n : Nat} {G H : Hp} {al : List Addr} : ItOk K (Itr lo n) (rangeD lo n) (fun _ => True) G H al := fun G2 H2 al2 μ2 _ A _ => by
  refine ⟨fun i hi => by rw [rangeD_length] at hi; exact hi, fun i hi => by rw [rangeD_length] at hi; exact hi, fun i x H3 y d hd => ?_⟩
  obtain ⟨rfl, rfl⟩ := y
  obtain ⟨_, rfl⟩ := rangeD_some hd
  exact ⟨G2, .refl, A, .int _⟩
theorem di_range1 (h : DA K B ts ρ μ fun xs μ1 => ∃ n : Int, xs = [.int n] ∧ -(2 ^ 62) ≤ n ∧ n < 2 ^ 62 ∧ PI' (rangeD 0 n.toNat) (fun _ => True) μ1) : DI K B (iRng1 ts) ρ μ PI' := fun σ G H al hB hσ hA R hR =>
  h σ G H al hB hσ hA _ fun vs ds μ1 G1 H1 al1 n1 A1 r1 p1 => by
    obtain ⟨n, rfl, h1, h2, p⟩ := p1
    obtain ⟨v, rfl, r⟩ := rps1 r1
    cases r
    exact ⟨n, rfl, h1, h2, hR _ _ _ μ1 G1 H1 al1 n1 A1 itr_ok p⟩
theorem di_range2 (h : DA K B ts ρ μ fun xs μ1 => ∃ lo n : Int, xs = [.int lo, .int n] ∧ (-(2 ^ 62) ≤ lo ∧ lo < 2 ^ 62 ∧ -(2 ^ 62) ≤ n ∧ n < 2 ^ 62) ∧ PI' (rangeD lo (n - lo).toNat) (fun _ => True) μ1) : DI K B (iRng2 ts) ρ μ PI' := fun σ G H al hB hσ hA R hR =>
  h σ G H al hB hσ hA _ fun vs ds μ1 G1 H1 al1 n1 A1 r1 p1 => by
    obtain ⟨lo, n, rfl, h1, p⟩ := p1
    obtain ⟨v, w, rfl, r, r'⟩ := rps2 r1
    cases r; cases r'
    exact ⟨lo, n, rfl, h1, hR _ _ _ μ1 G1 H1 al1 n1 A1 itr_ok p⟩
/-- enumerate -/
def enumD (ds : List D) : List D := ds.mapIdx fun i d => .tup [.int (i : Int), d]
theorem enumD_length (ds : List D) : (enumD ds).length = ds.length := by simp [enumD]
theorem enumD_some {ds : List D} {i : Nat} {d : D} (h : (enumD ds)[i]? = some d) : ∃ x, ds[i]? = some x ∧ d = .tup [.int (i : Int), x] := by
  simp only [enumD, List.getElem?_mapIdx] at h
  cases q : ds[i]? with
  | none => rw [q] at h; cases h
  | some x => rw [q] at h; exact ⟨x, rfl, (Option.some.inj h).symm⟩
theorem di_enum (h : DA K B ts ρ μ fun xs μ1 => ∃ x ds, xs = [x] ∧ ((x = .lst ds ∧ PI' (enumD ds) (fun _ => True) μ1) ∨ (x = .rdl ds ∧ PI' (enumD ds) (fun _ => True) μ1) ∨ ∃ k, x = .own k ∧ μ1[k]? = some (.lst ds) ∧ PI' (enumD ds) (fun μ' => μ'[k]? = some (.lst ds)) μ1)) : DI K B (iEnum K ts) ρ μ PI' := fun σ G H al hB hσ hA R hR =>
  h σ G H al hB hσ hA _ fun vs ds μ1 G1 H1 al1 n1 A1 r1 p1 => by
    obtain ⟨x, xs, rfl, p1⟩ := p1
    obtain ⟨v, rfl, r⟩ := rps1 r1
    have key : ∃ a S, v = .ref a ∧ PI' (enumD xs) S μ1 ∧ S μ1 ∧ ∀ G2 H2 al2 μ2, Nx G1 H1 al1 G2 H2 al2 → As K G2 H2 al2 μ2 → S μ2 → ∃ vs, SqL K H2 a vs ∧ Rps K G2 al2 vs xs := by
      rcases p1 with ⟨rfl, p⟩ | ⟨rfl, p⟩ | ⟨k, rfl, hk, p⟩
      · cases r with | lst e rs => exact ⟨_, _, rfl, p, trivial, fun G2 H2 al2 μ2 n2 A2 _ => ⟨_, .inl (.inl (A2.sub _ _ (n2.g _ _ e))), rs.nx n2⟩⟩
      · cases r with | rdl e rs => exact ⟨_, _, rfl, p, trivial, fun G2 H2 al2 μ2 n2 A2 _ => ⟨_, sql_mono A2.sub (sql_mono n2.g e), rs.nx n2⟩⟩
      · obtain ⟨a, ha, ga, vs, hv, rs⟩ := A1.get hk
        cases r with
        | own e =>
          rw [ha] at e; cases e
          refine ⟨_, _, rfl, p, hk, fun G2 H2 al2 μ2 n2 A2 s => ?_⟩
          obtain ⟨a2, ha2, ga2, vs2, hv2, rs2⟩ := A2.get s
          rw [n2.p.get ha] at ha2; cases ha2
          exact ⟨vs2, .inl (.inl hv2), rs2⟩
    obtain ⟨a, S, rfl, p, s1, key⟩ := key
    obtain ⟨vs1, sq1, _⟩ := key G1 H1 al1 μ1 .refl A1 s1
    refine ⟨a, vs1, rfl, sq1, hR _ _ S μ1 G1 H1 al1 n1 A1 (fun G2 H2 al2 μ2 n2 A2 s => ?_) p⟩
    obtain ⟨vs, sq, r⟩ := key G2 H2 al2 μ2 n2 A2 s
    rw [enumD_length]
    refine ⟨fun i hi => ⟨vs, vs[i]'(by rw [r.length]; exact hi), sq, by simp⟩, fun i hi => ⟨vs, sq, by rw [r.length]; exact hi⟩, fun i x H3 y d hd => ?_⟩
    obtain ⟨T, z, rfl, hT, rfl, y⟩ := y
    obtain ⟨w, hw, rfl⟩ := enumD_some hd
    obtain ⟨d', hd', r'⟩ := r.getV (y vs sq)
    rw [hw] at hd'; cases hd'
    obtain ⟨A3, n3⟩ := A2.frz (o := .tup [.int (i : Nat), z]) hT
    exact ⟨_, n3, A3, .tup upd_same (.cons (.int _) (.cons (r'.nx n3) .nil))⟩
/-- the signs of a text -/
def signsD (x : Str) : List D := x.cps.toList.map fun c => .str ⟨#[c]⟩
/-! ### for -/
theorem ds_for {wi : TI} {g : TG} {tb : TS} {P : DEnds} (h : DI K B wi ρ μ fun ds S μ1 => ∃ Iv : Nat → En → Mu → Prop, Iv 0 ρ μ1 ∧ (∀ i ρ' μ', i ≤ ds.length → Iv i ρ' μ' → S μ') ∧
      (∀ i d ρ' μ', ds[i]? = some d → Iv i ρ' μ' → DG K B g d ρ' μ' fun ρ2 μ2 => DS K B tb ρ2 μ2 { P with nx := Iv (i + 1), ct := Iv (i + 1), bk := P.nx }) ∧ (∀ ρ' μ', Iv ds.length ρ' μ' → P.nx ρ' μ')) : DS K B (tFor wi g tb) ρ μ P := fun σ G H al hB hσ hA De hD =>
  h σ G H al hB hσ hA _ fun J ds S μ1 G1 H1 al1 n1 A1 ok p1 => by
    obtain ⟨Iv, h0, hS, hs, hd⟩ := p1
    refine ⟨fun i m σ' H' => m = ds.length - i ∧ i ≤ ds.length ∧ ∃ G' al' ρ' μ', Nx G1 H1 al1 G' H' al' ∧ RpS K G' al' σ' ρ' ∧ As K G' H' al' μ' ∧ Iv i ρ' μ', ⟨ds.length, by simp, Nat.zero_le _, G1, al1, ρ, μ1, .refl, hσ.nx n1, A1, h0⟩, ?_⟩
    rintro i m σ' H' ⟨rfl, hi, G', al', ρ', μ', n', hσ', A', iv⟩
    obtain ⟨go, stop, yld⟩ := ok G' H' al' μ' n' A' (hS i ρ' μ' hi iv)
    by_cases hlt : i < ds.length
    · refine .inr ⟨go i hlt, fun σ2 H2 => ∃ G2 al2 ρ2 μ2, Nx G1 H1 al1 G2 H2 al2 ∧ RpS K G2 al2 σ2 ρ2 ∧ As K G2 H2 al2 μ2 ∧ Iv (i + 1) ρ2 μ2, fun σ2 H2 q => ⟨ds.length - (i + 1), by omega, rfl, hlt, q⟩, fun x H3 y => ?_⟩
      obtain ⟨G3, n3, A3, r3⟩ := yld i x H3 y _ (List.getElem?_eq_getElem hlt)
      have q := hs i _ ρ' μ' (List.getElem?_eq_getElem hlt) iv σ' G3 H3 al' x (((hB.trans n1).trans n').trans n3) (hσ'.nx n3) A3 r3
      refine q _ fun σ4 ρ4 μ4 G4 H4 al4 n4 hσ4 A4 p4 => ?_
      have nn : Nx G1 H1 al1 G4 H4 al4 := (n'.trans n3).trans n4
      exact p4 σ4 G4 H4 al4 ((hB.trans n1).trans nn) hσ4 A4 _ ⟨fun σ5 ρ5 μ5 G5 H5 al5 n5 hσ5 A5 p5 => ⟨G5, al5, ρ5, μ5, nn.trans n5, hσ5, A5, p5⟩, hD.rt.nx (n1.trans nn), hD.nx.nx (n1.trans nn), fun σ5 ρ5 μ5 G5 H5 al5 n5 hσ5 A5 p5 => ⟨G5, al5, ρ5, μ5, nn.trans n5, hσ5, A5, p5⟩⟩
    · have e : i = ds.length := by omega
      subst e
      exact .inl ⟨stop _ (Nat.le_refl _), hD.nx _ _ μ' G' H' al' (n1.trans n') hσ' A' (hd ρ' μ' iv)⟩
/-! ### while -/
end
/-! ### comprehensions -/
def wipeD (ρ : En) : List Nat → En
  | [] => ρ
  | v :: vs => (wipeD ρ vs).set v none
theorem wipe_rps {K : PySem.W.Frag} {G : Hp} {al : List Addr} {σ : St} {ρ : En} (h : RpS K G al σ ρ) : ∀ vs : List Nat, RpS K G al (wipe σ vs) (wipeD ρ vs)
  | [] => h
  | v :: vs => (wipe_rps h vs).forget v none
theorem wipe_set {σ : St} {j : Nat} {x : Option V} : ∀ {vs : List Nat}, j ∈ vs → wipe (σ.set j x) vs = wipe σ vs
  | [], h => by simp at h
  | v :: vs, h => by
    by_cases hv : j ∈ vs
    · unfold wipe; rw [wipe_set hv]
    · have e : j = v := by simpa [hv] using h
      subst e
      have q : ∀ (ws : List Nat), j ∉ ws → wipe (σ.set j x) ws = (wipe σ ws).set j x := by
        intro ws
        induction ws with
        | nil => intro _; rfl
        | cons w ws ih =>
          intro hn
          simp only [List.mem_cons, not_or] at hn
          unfold wipe
          rw [ih hn.2, List.set_comm _ _ (fun z => hn.1 z)]
      unfold wipe
      rw [q vs hv, List.set_set]
theorem wipe_wipe (σ : St) : ∀ vs ws : List Nat, (∀ w ∈ ws, w ∈ vs) → wipe (wipe σ ws) vs = wipe σ vs
  | vs, [], _ => rfl
  | vs, w :: ws, h => by
    show wipe ((wipe σ ws).set w none) vs = wipe σ vs
    rw [wipe_set (h w (by simp)), wipe_wipe σ vs ws fun x hx => h x (by simp [hx])]
/-- a target that stores in vs alone -/
def GW (g : TG) (vs : List Nat) : Prop := ∀ x σ H (Q : St → Hp → Prop), g x σ H Q → g x σ H fun σ2 H2 => wipe σ2 vs = wipe σ vs ∧ Q σ2 H2
theorem gw_name {i : Nat} {vs : List Nat} (h : i ∈ vs) : GW (gName i) vs := fun x σ H Q q => ⟨wipe_set h, q⟩
section
variable {K : PySem.W.Frag} {B : Bs} {ρ : En} {μ : Mu} {te : TE} {tt : TT} {wi : TI} {g : TG} {vs : List Nat} {P : D → Mu → Prop}
/-- the list that a comprehension makes is frozen at its end -/
theorem de_lc (hg : GW g vs) (h : DI K B wi ρ μ fun ds S μ1 => ds.length ≤ 100000 ∧ ∃ Iv : Nat → List D → Mu → Prop, Iv 0 [] μ1 ∧ (∀ i acc μ', i ≤ ds.length → Iv i acc μ' → S μ') ∧
      (∀ i d acc μ', ds[i]? = some d → Iv i acc μ' → DG K B g d (wipeD ρ vs) μ' fun ρ2 μ2 => DT K B tt ρ2 μ2 fun b μ3 => (b = true → DE K B te ρ2 μ3 fun y μ4 => Iv (i + 1) (acc ++ [y]) μ4) ∧ (b = false → Iv (i + 1) acc μ3)) ∧
      (∀ acc μ', Iv ds.length acc μ' → P (.lst acc) μ')) : DE K B (tLc wi g tt te vs) ρ μ P := fun σ G H al hB hσ hA Q hQ =>
  h σ G H al hB hσ hA _ fun J ds S μ1 G1 H1 al1 n1 A1 ok p1 => by
    obtain ⟨hlen, Iv, h0, hS, hs, hd⟩ := p1
    intro Dl hDl
    have nDl : Dl ∉ al1 := fun m => A1.here Dl m hDl
    have gDl : G1 Dl = none := A1.sub.free hDl
    -- a store to the list that is made
    have store : ∀ {G' H' al' μ' ac}, Nx G1 H1 al1 G' H' al' → As K G' H' al' μ' → G' Dl = none → Dl ∉ al' → As K G' (upd H' Dl (.lst ac)) al' μ' ∧ Nx G1 H1 al1 G' (upd H' Dl (.lst ac)) al' := by
      intro G' H' al' μ' ac n A g' nal
      refine ⟨⟨fun b u e => by rw [upd_ne (ne_of_none e g')]; exact A.sub _ _ e, A.nd, A.len, fun a m => ?_, fun k a o e1 e2 => ?_⟩, ⟨n.g, n.p, fun a u h m => ?_, n.out, n.new⟩⟩
      · have z : a ≠ Dl := fun z => nal (z ▸ m)
        rw [upd_ne z]; exact A.here a m
      · have z : a ≠ Dl := fun z => nal (z ▸ List.mem_of_getElem? e1)
        exact OkO.mono (Same.refl _) (Pre.refl _) (fun _ g => g) (by rw [upd_ne z]) (A.ok k a o e1 e2)
      · rw [upd_ne (ne_of_none h hDl)]; exact n.keep a u h m
    -- Dl stays where it is through a step
    have stay : ∀ {G' H' al' G'' H'' al'' u}, Nx G' H' al' G'' H'' al'' → H' Dl = some u → G' Dl = none → Dl ∉ al' → H'' Dl = some u ∧ G'' Dl = none ∧ Dl ∉ al'' := by
      intro G' H' al' G'' H'' al'' u n h g' nal
      refine ⟨n.keep Dl u h nal, n.out Dl (by rw [h]; simp) nal g', fun m => ?_⟩
      rcases n.new Dl m with z | z
      · exact nal z
      · rw [h] at z; cases z
    obtain ⟨A0, N0⟩ := store (ac := []) .refl A1 gDl nDl
    refine ⟨fun i m H' => m = ds.length - i ∧ i ≤ ds.length ∧ ∃ G' al' μ' acc vacc, Nx G1 H1 al1 G' H' al' ∧ As K G' H' al' μ' ∧ H' Dl = some (.lst vacc) ∧ Rps K G' al' vacc acc ∧ G' Dl = none ∧ Dl ∉ al' ∧ acc.length ≤ i ∧ Iv i acc μ',
      ⟨ds.length, by simp, Nat.zero_le _, G1, al1, μ1, [], [], N0, A0, upd_same, .nil, gDl, nDl, Nat.le_refl _, h0⟩, ?_⟩
    rintro i m H' ⟨rfl, hi, G', al', μ', acc, vacc, n', A', hv, rv, g', nal, hacc, iv⟩
    obtain ⟨go, stop, yld⟩ := ok G' H' al' μ' n' A' (hS i acc μ' hi iv)
    by_cases hlt : i < ds.length
    · refine .inr ⟨go i hlt, fun H2 => ∃ G2 al2 μ2 acc vacc, Nx G1 H1 al1 G2 H2 al2 ∧ As K G2 H2 al2 μ2 ∧ H2 Dl = some (.lst vacc) ∧ Rps K G2 al2 vacc acc ∧ G2 Dl = none ∧ Dl ∉ al2 ∧ acc.length ≤ i + 1 ∧ Iv (i + 1) acc μ2, fun H2 q => ⟨ds.length - (i + 1), by omega, rfl, hlt, q⟩, fun x H3 y => ?_⟩
      obtain ⟨G3, n3, A3, r3⟩ := yld i x H3 y _ (List.getElem?_eq_getElem hlt)
      obtain ⟨hv3, g3, nal3⟩ := stay n3 hv g' nal
      have nn3 := n'.trans n3
      have hw : RpS K G3 al' (wipe σ vs) (wipeD ρ vs) := wipe_rps ((hσ.nx n1).nx nn3) vs
      have q := hs i _ acc μ' (List.getElem?_eq_getElem hlt) iv (wipe σ vs) G3 H3 al' x (((hB.trans n1).trans n').trans n3) hw A3 r3
      have q2 := hg x (wipe σ vs) H3 _ (q (fun σ2 H2 => tt σ2 H2 fun b H3 => if b = true then te σ2 H3 fun y H4 => ∃ acc, H4 Dl = some (.lst acc) ∧ acc.length < sizeLine ∧ (∃ G2 al2 μ2 acc' vacc, Nx G1 H1 al1 G2 (upd H4 Dl (.lst (acc ++ [y]))) al2 ∧ As K G2 (upd H4 Dl (.lst (acc ++ [y]))) al2 μ2 ∧ (upd H4 Dl (.lst (acc ++ [y]))) Dl = some (.lst vacc) ∧ Rps K G2 al2 vacc acc' ∧ G2 Dl = none ∧ Dl ∉ al2 ∧ acc'.length ≤ i + 1 ∧ Iv (i + 1) acc' μ2)
          else (∃ G2 al2 μ2 acc' vacc, Nx G1 H1 al1 G2 H3 al2 ∧ As K G2 H3 al2 μ2 ∧ H3 Dl = some (.lst vacc) ∧ Rps K G2 al2 vacc acc' ∧ G2 Dl = none ∧ Dl ∉ al2 ∧ acc'.length ≤ i + 1 ∧ Iv (i + 1) acc' μ2)) fun σ4 ρ4 μ4 G4 H4 al4 n4 hσ4 A4 p4 => ?_)
      · rw [wipe_wipe σ vs vs fun _ h => h] at q2
        exact q2
      · obtain ⟨hv4, g4, nal4⟩ := stay n4 hv3 g3 nal3
        have nn4 := nn3.trans n4
        refine p4 σ4 G4 H4 al4 ((hB.trans n1).trans nn4) hσ4 A4 _ fun b μ5 G5 H5 al5 n5 A5 p5 => ?_
        obtain ⟨hv5, g5, nal5⟩ := stay n5 hv4 g4 nal4
        have nn5 := nn4.trans n5
        cases b with
        | false =>
          rw [if_neg (by simp)]
          exact ⟨G5, al5, μ5, acc, vacc, nn5, A5, hv5, (((rv.nx n3).nx n4).nx n5), g5, nal5, Nat.le_succ_of_le hacc, p5.2 rfl⟩
        | true =>
          rw [if_pos rfl]
          refine p5.1 rfl σ4 G5 H5 al5 ((hB.trans n1).trans nn5) (hσ4.nx n5) A5 _ fun yv y μ6 G6 H6 al6 n6 A6 r6 p6 => ?_
          obtain ⟨hv6, g6, nal6⟩ := stay n6 hv5 g5 nal5
          have rv6 := (((rv.nx n3).nx n4).nx n5).nx n6
          obtain ⟨A7, n7⟩ := store (ac := vacc ++ [yv]) (nn5.trans n6) A6 g6 nal6
          refine ⟨vacc, hv6, ?_, G6, al6, μ6, acc ++ [y], vacc ++ [yv], n7, A7, upd_same, rv6.append (.cons r6 .nil), g6, nal6, by simp; omega, p6⟩
          rw [rv6.length]
          exact Nat.lt_of_lt_of_le (Nat.lt_of_le_of_lt hacc (Nat.lt_of_lt_of_le hlt hlen)) (by decide)
    · have e : i = ds.length := by omega
      subst e
      refine .inl ⟨stop _ (Nat.le_refl _), ?_⟩
      have s1 : Same G' (upd G' Dl (.lst vacc)) := fun b u e => by rw [upd_ne (ne_of_none e g')]; exact e
      have A7 : As K (upd G' Dl (.lst vacc)) H' al' μ' := by
        refine ⟨fun b u e => ?_, A'.nd, A'.len, A'.here, fun k a o e1 e2 => ?_⟩
        · by_cases hb : b = Dl
          · subst hb; rw [upd_same] at e; rw [← e]; exact hv
          · rw [upd_ne hb] at e; exact A'.sub _ _ e
        · have z : a ≠ Dl := fun z => nal (z ▸ List.mem_of_getElem? e1)
          exact OkO.mono s1 (Pre.refl _) (fun _ g => by rw [upd_ne z]; exact g) rfl (A'.ok k a o e1 e2)
      have n7 : Nx G1 H1 al1 (upd G' Dl (.lst vacc)) H' al' := ⟨n'.g.trans s1, n'.p, n'.keep, fun a h m g => by
        have z : a ≠ Dl := fun z => h (by rw [z]; exact hDl)
        rw [upd_ne z]; exact n'.out a h m g, n'.new⟩
      exact hQ _ _ _ _ _ _ (n1.trans n7) A7 (.lst upd_same (rv.mono s1 (Pre.refl _))) (hd acc μ' iv)
theorem dt_yes {PT' : Bool → Mu → Prop} (h : PT' true μ) : DT K B tYes ρ μ PT' := fun σ G H al hB hσ hA Q hQ => hQ true μ G H al .refl hA h
end
end Dl
set_option Elab.async false
set_option linter.all false
set_option maxRecDepth 100000
namespace Dl
open PySem L2 PyProof.Rows
/-! ### what names no thing from the n-th on -/
mutual
def D.cl : D → Nat → Bool
  | .tup xs, n => clL xs n
  | .lst xs, n => clL xs n
  | .rdl xs, n => clL xs n
  | .rdt xs, n => clL xs n
  | .obj _ gs, n => clF gs n
  | .exc _ gs, n => clF gs n
  | .dct gs, n => clK gs n
  | .own k, n => decide (k < n)
  | .non, _ => true
  | .bl _, _ => true
  | .int _, _ => true
  | .str _, _ => true
  | .ty _, _ => true
  | .loc _, _ => true
def clL : List D → Nat → Bool
  | [], _ => true
  | x :: xs, n => D.cl x n && clL xs n
def clF : List (Str × D) → Nat → Bool
  | [], _ => true
  | (_, x) :: xs, n => D.cl x n && clF xs n
def clK : List (Key × D) → Nat → Bool
  | [], _ => true
  | (_, x) :: xs, n => D.cl x n && clK xs n
end
def MO.cl : MO → Nat → Bool
  | .dead, _ => true
  | .lst xs, n => clL xs n
  | .ins _ gs, n => clF gs n
  | .dK gs, n => clK gs n
  | .dT gs, n => clL (gs.map (·.2)) n
  | .tab _ _, _ => true
theorem clL_iff {xs : List D} {n : Nat} : clL xs n = true ↔ ∀ x ∈ xs, x.cl n = true := by
  induction xs with
  | nil => simp [clL]
  | cons x xs ih => simp [clL, ih]
theorem clL_map {α : Type} {f : α → D} {xs : List α} {n : Nat} (h : ∀ x ∈ xs, (f x).cl n = true) : clL (xs.map f) n = true := by
  rw [clL_iff]
  intro x hx
  obtain ⟨a, ha, rfl⟩ := List.mem_map.mp hx
  exact h a ha
@[simp] theorem clL_append {xs ys : List D} {n : Nat} : clL (xs ++ ys) n = (clL xs n && clL ys n) := by
  induction xs with
  | nil => simp [clL]
  | cons x xs ih => simp [clL, ih, Bool.and_assoc]
section
variable {K : PySem.W.Frag} {G : Hp} {al be : List Addr}
mutual
theorem Rp.cl : ∀ {v : V} {d : D}, Rp K G al v d → d.cl al.length = true
  | _, _, .non => by simp [D.cl]
  | _, _, .bl _ => by simp [D.cl]
  | _, _, .int _ => by simp [D.cl]
  | _, _, .str _ => by simp [D.cl]
  | _, _, .ty _ => by simp [D.cl]
  | _, _, .tup _ r => by unfold D.cl; exact Rps.cl r
  | _, _, .lst _ r => by unfold D.cl; exact Rps.cl r
  | _, _, .rdl _ r => by unfold D.cl; exact Rps.cl r
  | _, _, .rdt _ r => by unfold D.cl; exact Rps.cl r
  | _, _, .obj _ r => by unfold D.cl; exact Rpf.cl r
  | _, _, .dct _ r => by unfold D.cl; exact Rpk.cl r
  | _, _, .own h => by unfold D.cl; exact decide_eq_true (List.getElem?_eq_some_iff.mp h).1
  | _, _, .loc _ => by simp [D.cl]
  | _, _, .exc _ _ r => by unfold D.cl; exact Rpf.cl r
theorem Rps.cl : ∀ {v : List V} {d : List D}, Rps K G al v d → clL d al.length = true
  | _, _, .nil => by simp [clL]
  | _, _, .cons h r => by unfold clL; rw [Rp.cl h, Rps.cl r]; rfl
theorem Rpf.cl : ∀ {v : List (Str × V)} {d : List (Str × D)}, Rpf K G al v d → clF d al.length = true
  | _, _, .nil => by simp [clF]
  | _, _, .cons h r => by unfold clF; rw [Rp.cl h, Rpf.cl r]; rfl
theorem Rpk.cl : ∀ {v : List (Key × V)} {d : List (Key × D)}, Rpk K G al v d → clK d al.length = true
  | _, _, .nil => by simp [clK]
  | _, _, .cons h r => by unfold clK; rw [Rp.cl h, Rpk.cl r]; rfl
end
mutual
theorem Rp.shrink : ∀ {v : V} {d : D}, Rp K G (al ++ be) v d → d.cl al.length = true → Rp K G al v d
  | _, _, .non, _ => .non
  | _, _, .bl b, _ => .bl b
  | _, _, .int i, _ => .int i
  | _, _, .str x, _ => .str x
  | _, _, .ty x, _ => .ty x
  | _, _, .tup e r, h => .tup e (Rps.shrink r (by unfold D.cl at h; exact h))
  | _, _, .lst e r, h => .lst e (Rps.shrink r (by unfold D.cl at h; exact h))
  | _, _, .rdl e r, h => .rdl e (Rps.shrink r (by unfold D.cl at h; exact h))
  | _, _, .rdt e r, h => .rdt e (Rps.shrink r (by unfold D.cl at h; exact h))
  | _, _, .obj e r, h => .obj e (Rpf.shrink r (by unfold D.cl at h; exact h))
  | _, _, .dct e r, h => .dct e (Rpk.shrink r (by unfold D.cl at h; exact h))
  | _, _, .own e, h => .own (by
      unfold D.cl at h
      rw [List.getElem?_append_left (of_decide_eq_true h)] at e
      exact e)
  | _, _, .loc a, _ => .loc a
  | _, _, .exc e d r, h => .exc e d (Rpf.shrink r (by unfold D.cl at h; exact h))
theorem Rps.shrink : ∀ {v : List V} {d : List D}, Rps K G (al ++ be) v d → clL d al.length = true → Rps K G al v d
  | _, _, .nil, _ => .nil
  | _, _, .cons r t, h => by
    unfold clL at h; simp at h
    exact .cons (Rp.shrink r h.1) (Rps.shrink t h.2)
theorem Rpf.shrink : ∀ {v : List (Str × V)} {d : List (Str × D)}, Rpf K G (al ++ be) v d → clF d al.length = true → Rpf K G al v d
  | _, _, .nil, _ => .nil
  | _, _, .cons r t, h => by
    unfold clF at h; simp at h
    exact .cons (Rp.shrink r h.1) (Rpf.shrink t h.2)
theorem Rpk.shrink : ∀ {v : List (Key × V)} {d : List (Key × D)}, Rpk K G (al ++ be) v d → clK d al.length = true → Rpk K G al v d
  | _, _, .nil, _ => .nil
  | _, _, .cons r t, h => by
    unfold clK at h; simp at h
    exact .cons (Rp.shrink r h.1) (Rpk.shrink t h.2)
end
end
def MuCl (μ : Mu) (n : Nat) : Prop := ∀ o ∈ μ, o.cl n = true
section
variable {K : PySem.W.Frag} {G H : Hp} {al be : List Addr} {μ ext : Mu}
theorem As.cl (A : As K G H al μ) : MuCl μ μ.length := fun o ho => by
  obtain ⟨k, hk⟩ := List.getElem?_of_mem ho
  obtain ⟨a, ha, ok⟩ := A.get hk
  rw [← A.len]
  cases o with
  | dead => rfl
  | lst ds => obtain ⟨_, _, _, r⟩ := ok; exact r.cl
  | ins C gs => obtain ⟨_, _, _, _, r⟩ := ok; exact r.cl
  | dK gs => obtain ⟨_, _, _, r⟩ := ok; exact r.cl
  | dT gs => obtain ⟨_, _, _, _, r⟩ := ok; exact r.cl
  | tab _ _ => rfl
theorem As.shrink (A : As K G H (al ++ be) (μ ++ ext)) (hl : al.length = μ.length) (hc : MuCl μ μ.length) : As K G H al μ := by
  refine ⟨A.sub, (List.nodup_append.mp A.nd).1, hl, fun a m => A.here a (List.mem_append_left _ m), fun k a o e1 e2 => ?_⟩
  have hk : k < al.length := (List.getElem?_eq_some_iff.mp e1).1
  have ok := A.ok k a o (by rw [List.getElem?_append_left hk]; exact e1) (by rw [List.getElem?_append_left (by rw [← hl]; exact hk)]; exact e2)
  have c := hc o (List.mem_of_getElem? e2)
  rw [← hl] at c
  cases o with
  | dead => trivial
  | lst ds => obtain ⟨g, vs, e, r⟩ := ok; exact ⟨g, vs, e, r.shrink c⟩
  | ins C gs => obtain ⟨g, dx, vs, e, r⟩ := ok; exact ⟨g, dx, vs, e, r.shrink c⟩
  | dK gs => obtain ⟨g, vs, e, r⟩ := ok; exact ⟨g, vs, e, r.shrink c⟩
  | dT gs => obtain ⟨g, vs, e, q, r⟩ := ok; exact ⟨g, vs, e, q, r.shrink c⟩
  | tab _ _ => exact ok
theorem Nx.shrink {G' H' : Hp} {al' : List Addr} (n : Nx G H al G' H' (al ++ al')) : Nx G H al G' H' al := ⟨n.g, Pre.refl _, n.keep, n.out, fun a m => .inl m⟩
end
/-! ### exceptions -/
abbrev PXT := Addr → List (Str × D) → Mu → Prop
/-- the own dict of an exception, frozen -/
def XRep (K : PySem.W.Frag) (G : Hp) (al : List Addr) (dd : Option Addr) (fs : List (Str × D)) : Prop := (dd = none ∧ fs = []) ∨ ∃ d vs, dd = some d ∧ G d = some (.xd vs) ∧ Rpf K G al vs fs
def XAg (K : PySem.W.Frag) (B : Bs) (PX : PXT) (E : XK) : Prop := ∀ C fs dd μ' G' H' al', B.le G' H' al' → As K G' H' al' μ' → XRep K G' al' dd fs → PX C fs μ' → E (.ref C) dd H'
theorem XAg.nx {K : PySem.W.Frag} {B : Bs} {PX : PXT} {E : XK} {G H : Hp} {al : List Addr} (n : B.le G H al) (h : XAg K B PX E) : XAg K ⟨G, H, al⟩ PX E := fun C fs dd μ' G' H' al' n' A r p => h C fs dd μ' G' H' al' (n.trans n') A r p
theorem XAg.none {K : PySem.W.Frag} {B : Bs} {E : XK} : XAg K B (fun _ _ _ => False) E := fun _ _ _ _ _ _ _ _ _ _ p => p.elim
theorem Rpf.nx {K : PySem.W.Frag} {G H G1 H1 : Hp} {al al1 : List Addr} (n : Nx G H al G1 H1 al1) {v : List (Str × V)} {d : List (Str × D)} (h : Rpf K G al v d) : Rpf K G1 al1 v d := h.mono n.g n.p
/-! ### contracts -/
abbrev CT := List D → Mu → (D → Mu → Prop) → PXT → Prop
def spD (K : PySem.W.Frag) (C : CT) : Sp := fun vs H Q E => ∃ G al ds μ P PX, As K G H al μ ∧ Rps K G al vs ds ∧ C ds μ P PX ∧ KV K G H al P Q ∧ XAg K ⟨G, H, al⟩ PX E
/-- behind a call: the callee's own things are forgotten, but those that are handed on -/
def Ret (n : Nat) (P : D → Mu → Prop) (d : D) (μ' : Mu) : Prop := ∃ μ1 ext, μ' = μ1 ++ ext ∧ n ≤ μ1.length ∧ MuCl μ1 μ1.length ∧ d.cl μ1.length = true ∧ P d μ1
def RetX (n : Nat) (PX : PXT) : PXT := fun C fs μ' => ∃ μ1 ext, μ' = μ1 ++ ext ∧ μ1.length = n ∧ MuCl μ1 n ∧ clF fs n = true ∧ PX C fs μ1
theorem XAg.ret {K : PySem.W.Frag} {G1 H1 G2 H2 : Hp} {al1 al2 : List Addr} {PX : PXT} {E : XK} (h : XAg K ⟨G1, H1, al1⟩ PX E) (n2 : Nx G1 H1 al1 G2 H2 al2) : XAg K ⟨G2, H2, al2⟩ (RetX al1.length PX) E := by
  intro C fs dd μ' G' H' al' n A' xr ⟨μ1, ext, e, hl, hcl, hf, hp⟩
  have n' : Nx G1 H1 al1 G' H' al' := n2.trans n
  obtain ⟨be, rfl⟩ := n'.p
  subst e
  refine h C fs dd μ1 G' H' al1 n'.shrink (A'.shrink hl.symm (by rw [hl]; exact hcl)) ?_ hp
  rcases xr with ⟨h1, h2⟩ | ⟨d, vs, h1, h2, h3⟩
  · exact .inl ⟨h1, h2⟩
  · exact .inr ⟨d, vs, h1, h2, h3.shrink hf⟩
def fnE (n : Nat) (P : D → Mu → Prop) : DEnds := { nx := fun _ μ' => Ret n P .non μ', rt := Ret n P }
theorem ret_same {μ ext : Mu} {n : Nat} {P : D → Mu → Prop} {d : D} (hn : n ≤ μ.length) (hc : MuCl μ μ.length) (hd : d.cl μ.length = true) (h : P d μ) : Ret n P d (μ ++ ext) := ⟨μ, ext, rfl, hn, hc, hd, h⟩
theorem ret_same0 {μ : Mu} {n : Nat} {P : D → Mu → Prop} {d : D} (hn : n ≤ μ.length) (hc : MuCl μ μ.length) (hd : d.cl μ.length = true) (h : P d μ) : Ret n P d μ := ⟨μ, [], by simp, hn, hc, hd, h⟩
theorem retx_same0 {μ : Mu} {PX : PXT} {C : Addr} {fs : List (Str × D)} (hc : MuCl μ μ.length) (hd : clF fs μ.length = true) (h : PX C fs μ) : RetX μ.length PX C fs μ := ⟨μ, [], by simp, rfl, hc, hd, h⟩
theorem MuCl.set {μ : Mu} {n k : Nat} {o : MO} (h : MuCl μ n) (ho : o.cl n = true) : MuCl (μ.set k o) n := fun x hx => by
  rcases List.mem_or_eq_of_mem_set hx with m | e
  · exact h x m
  · subst e; exact ho
theorem MuCl.get {μ : Mu} {n k : Nat} {o : MO} (h : MuCl μ n) (e : μ[k]? = some o) : o.cl n = true := h o (List.mem_of_getElem? e)
def startD (N : List Str) (ds : List D) : En := ds.map some ++ List.replicate (N.length - ds.length) none
theorem start_rp {K : PySem.W.Frag} {G : Hp} {al : List Addr} {N : List Str} {vs : List V} {ds : List D} (h : Rps K G al vs ds) : RpS K G al (L2.start N vs) (startD N ds) := by
  have hl := h.length
  refine ⟨by simp [L2.start, startD, hl], fun i d e => ?_⟩
  unfold startD at e
  unfold L2.start
  by_cases hi : i < ds.length
  · rw [List.getElem?_append_left (by simpa using hi), List.getElem?_map] at e
    cases q : ds[i]? with
    | none => rw [q] at e; cases e
    | some x =>
      rw [q] at e
      have ex : x = d := by simpa using e
      subst ex
      obtain ⟨v, hv, r⟩ := h.get q
      refine ⟨v, ?_, r⟩
      rw [List.getElem?_append_left (by simp [hl, hi]), List.getElem?_map, hv]
      rfl
  · rw [List.getElem?_append_right (by simp; omega), List.getElem?_replicate] at e
    split at e <;> simp at e
section
variable {P : Program} {w : World} {K : PySem.W.Frag} {mg : Str → Option Value} {base : Heap}
theorem sem_of {C : CT} {N : List Str} {t : XK → TS} (hn : ∀ ds μ P PX, C ds μ P PX → ds.length ≤ N.length) (sem : ∀ ds μ P PX, C ds μ P PX → MuCl μ μ.length → clL ds μ.length = true → ∀ B E, XAg K B (RetX μ.length PX) E → DS K B (t E) (startD N ds) μ (fnE μ.length P))
    {vs : List V} {H : Hp} {Q : VK} {E : XK} (h : spD K C vs H Q E) : t E { nx := fun _ H' => Q .non H', rt := Q } (L2.start N vs) H := by
  obtain ⟨G, al, ds, μ, P, PX, A, r, c, hQ, hX⟩ := h
  have hc := A.cl
  have sh : ∀ {v : V} {d : D} {μ' : Mu} {G' H' : Hp} {al' : List Addr}, Nx G H al G' H' al' → As K G' H' al' μ' → Rp K G' al' v d → Ret μ.length P d μ' → Q v H' := by
    intro v d μ' G' H' al' n A' rv ⟨μ1, ext, e, hl, hcl, hd, hp⟩
    subst e
    have hlen : μ1.length ≤ al'.length := by rw [A'.len]; simp
    have e1 : al' = al'.take μ1.length ++ al'.drop μ1.length := (List.take_append_drop _ _).symm
    have l1 : (al'.take μ1.length).length = μ1.length := by rw [List.length_take]; omega
    have pre : Pre al (al'.take μ1.length) := by
      obtain ⟨be, e2⟩ := n.p
      refine ⟨(be.take (μ1.length - al.length)), ?_⟩
      rw [e2, List.take_append]
      rw [List.take_of_length_le (by rw [A.len]; exact hl)]
    have n1 : Nx G H al G' H' (al'.take μ1.length) := ⟨n.g, pre, n.keep, n.out, fun a m => n.new a (List.mem_of_mem_take m)⟩
    rw [e1] at A' rv
    exact hQ v d μ1 G' H' _ n1 (A'.shrink l1 hcl) (rv.shrink (by rw [l1]; exact hd)) hp
  refine sem ds μ P PX c hc (by rw [← A.len]; exact r.cl) ⟨G, H, al⟩ E ?_ _ G H al .refl (start_rp r) A _ ⟨fun σ' ρ' μ' G' H' al' n hσ A' p => sh n A' .non p, fun v d μ' G' H' al' n A' rv p => sh n A' rv p, fun _ _ _ _ _ _ _ _ _ p => p.elim, fun _ _ _ _ _ _ _ _ _ p => p.elim⟩
  rw [← A.len]
  exact hX.ret .refl
end
/-! ### calls -/
section
variable {K : PySem.W.Frag} {B : Bs} {ρ : En} {μ : Mu} {te : TE} {ts : TA} {P : D → Mu → Prop} {PX : PXT} {E : XK} {C : CT} {dvs : List V} {dds : List D}
theorem de_call (hE : XAg K B PX E) (h : DA K B ts ρ μ fun ds μ1 => C ds μ1 P PX) : DE K B (tCall (spD K C) [] E ts) ρ μ P := fun σ G H al hB hσ hA Q hQ =>
  h σ G H al hB hσ hA _ fun vs ds μ1 G1 H1 al1 n1 A1 r1 p1 => by
    rw [List.append_nil]
    exact ⟨G1, al1, ds, μ1, P, PX, A1, r1, p1, hQ.nx n1, hE.nx (hB.trans n1)⟩
theorem de_meth {Cc : Addr} {m : Str} (hE : XAg K B PX E) (h : DE K B te ρ μ fun x μ1 => ∃ gs, (x = .obj Cc gs ∨ ∃ k, x = .own k ∧ μ1[k]? = some (.ins Cc gs)) ∧ gs.lookup m = none ∧ DA K B ts ρ μ1 fun ds μ2 => C (x :: ds) μ2 P PX) : DE K B (tMeth Cc m (spD K C) [] E te ts) ρ μ P := fun σ G H al hB hσ hA Q hQ =>
  h σ G H al hB hσ hA _ fun v x μ1 G1 H1 al1 n1 A1 r1 p1 => by
    obtain ⟨gs, hx, hl, p⟩ := p1
    have key : ∃ a dx fs, v = .ref a ∧ H1 a = some (.ins Cc dx fs) ∧ fs.lookup m = none := by
      rcases hx with rfl | ⟨k, rfl, hk⟩
      · cases r1 with | obj e rf => exact ⟨_, _, _, rfl, A1.sub _ _ e, rf.none hl⟩
      · obtain ⟨a, ha, ga, dx, fs, hv, rf⟩ := A1.get hk
        cases r1 with | own e => rw [ha] at e; cases e; exact ⟨_, _, _, rfl, hv, rf.none hl⟩
    obtain ⟨a, dx, fs, e, hv, hm⟩ := key
    refine ⟨a, dx, fs, e, hv, hm, p σ G1 H1 al1 (hB.trans n1) (hσ.nx n1) A1 _ fun vs ds μ2 G2 H2 al2 n2 A2 r2 p2 => ?_⟩
    rw [List.append_nil]
    exact ⟨G2, al2, x :: ds, μ2, P, PX, A2, .cons (r1.nx n2) r2, p2, hQ.nx (n1.trans n2), hE.nx (hB.trans (n1.trans n2))⟩
/-- C(..): the new instance is frozen behind its __init__ -/
theorem de_make {Cc : Addr} (hE : XAg K B PX E) (hd : ∀ G al, Rps K G al dvs dds) (h : DA K B ts ρ μ fun ds μ1 => C (.own μ1.length :: (ds ++ dds)) (μ1 ++ [.ins Cc []]) (fun d μ2 => d = .non ∧ ∃ gs, μ2 = μ1 ++ [.ins Cc gs] ∧ clF gs μ1.length = true ∧ P (.obj Cc gs) μ1) (RetX μ1.length PX)) : DE K B (tMake Cc (spD K C) dvs E ts) ρ μ P := fun σ G H al hB hσ hA Q hQ =>
  h σ G H al hB hσ hA _ fun vs ds μ1 G1 H1 al1 n1 A1 r1 p1 => by
    intro x dx hx hdx hne
    -- the own dict first
    have nx1 : x ≠ dx := hne.symm
    have A2 : As K G1 (upd H1 dx (.own x)) al1 μ1 ∧ Nx G1 H1 al1 G1 (upd H1 dx (.own x)) al1 := by
      have gd : G1 dx = none := A1.sub.free hdx
      have nal : dx ∉ al1 := fun m => A1.here dx m hdx
      refine ⟨⟨fun b u e => by rw [upd_ne (ne_of_none e gd)]; exact A1.sub _ _ e, A1.nd, A1.len, fun a m => ?_, fun k a o e1 e2 => ?_⟩, ⟨Same.refl _, Pre.refl _, fun a u h _ => by rw [upd_ne (ne_of_none h hdx)]; exact h, fun _ _ _ g => g, fun _ m => .inl m⟩⟩
      · have z : a ≠ dx := fun z => nal (z ▸ m)
        rw [upd_ne z]; exact A1.here a m
      · have z : a ≠ dx := fun z => nal (z ▸ List.mem_of_getElem? e1)
        exact OkO.mono (Same.refl _) (Pre.refl _) (fun _ g => g) (by rw [upd_ne z]) (A1.ok k a o e1 e2)
    obtain ⟨A2, n2⟩ := A2
    have hx2 : (upd H1 dx (.own x)) x = none := by rw [upd_ne nx1]; exact hx
    obtain ⟨A3, n3⟩ := A2.own (o := .ins Cc dx []) (m := .ins Cc []) hx2 ⟨A2.sub.free hx2, dx, [], upd_same, .nil⟩
    refine ⟨G1, al1 ++ [x], .own μ1.length :: (ds ++ dds), μ1 ++ [.ins Cc []], _, _, A3, .cons (.own (by rw [← A1.len]; simp)) ((((r1.nx n2).nx n3).append (hd _ _))), p1, ?_, by rw [← A1.len]; exact (hE.nx (hB.trans n1)).ret (n2.trans n3)⟩
    intro v d μ2 G4 H4 al4 n4 A4 r4 p4
    obtain ⟨rfl, gs, rfl, hcl, hp⟩ := p4
    cases r4
    refine ⟨rfl, ?_⟩
    have hal : al4[μ1.length]? = some x := n4.p.get (by rw [← A1.len]; simp)
    obtain ⟨a, ha, ga, dx4, fs4, hv4, rf4⟩ := A4.get (k := μ1.length) (m := .ins Cc gs) (by simp)
    rw [hal] at ha; cases ha
    obtain ⟨A5, n5⟩ := A4.freeze hal hv4 ga
    have nn : Nx G1 H1 al1 (upd G4 x (.ins Cc dx4 fs4)) H4 al4 := ((n2.trans n3).trans n4).trans n5
    obtain ⟨be, rfl⟩ := nn.p
    have e5 : (μ1 ++ [MO.ins Cc gs]).set μ1.length MO.dead = μ1 ++ [.dead] := by simp
    rw [e5] at A5
    refine hQ (.ref x) (.obj Cc gs) μ1 _ H4 al1 (n1.trans nn.shrink) (A5.shrink A1.len A1.cl) ?_ hp
    exact .obj upd_same ((rf4.nx n5).shrink (by rw [A1.len]; exact hcl))
theorem da_nd : ∀ G al, Rps K G al [] [] := fun _ _ => .nil
end
end Dl
set_option Elab.async false
set_option linter.all false
set_option maxRecDepth 100000
namespace L2
open PySem PySem.Spec PyProof.Rows
section
variable {X : Cx} {a b c d : Expr} {ta tb tc td : TE} {pos : Pos}
/-- a op1 b op2 c op3 d -/
def tChain3 (r r' r3 : R2) (ta tb tc td : TE) : TE := fun σ H Q => ta σ H fun x H1 => tb σ H1 fun y H2 => r x y H2 fun z H3 => ∃ k, z = .bl k ∧
  (if k = true then tc σ H3 fun w' H4 => r' y w' H4 fun z2 H5 => ∃ k2, z2 = .bl k2 ∧ (if k2 = true then td σ H5 fun u H6 => r3 w' u H6 Q else Q (.bl false) H5) else Q (.bl false) H3)
end
/-- two readings of one expression -/
theorem PE.or {X : Cx} {e : Expr} {t u : TE} (h : PE X e t) (h' : PE X e u) : PE X e (fun σ H Q => t σ H Q ∨ u σ H Q) := ⟨fun pins s σ H Q I hw => hw.elim (h.run pins s σ H Q I) (h'.run pins s σ H Q I)⟩
/-! ### operators of any kind -/
def rAddS : R2 := fun x y H Q => ∃ i j, x = .str i ∧ y = .str j ∧ i.length + j.length ≤ sizeLine ∧ Q (.str (i ++ j)) H
def rAddA (K : PySem.W.Frag) : R2 := fun x y H Q => rI0 (fun i j => .int (i + j)) x y H Q ∨ rCat x y H Q ∨ rAddS x y H Q ∨ rCatT K x y H Q
def rMulA : R2 := fun x y H Q => rI CMul (fun i j => .int (i * j)) x y H Q ∨ rI CMulW (fun i j => .int (i * j)) x y H Q ∨ rRep x y H Q
section
variable {X : Cx}
theorem op_addA : OpR X (binaryOp .Add) (rAddA X.K) := op_add.or (op_cat.or (op_add_str.or op_catT))
theorem op_mulA : OpR X (binaryOp .Mult) rMulA := op_mul.or (op_mulW.or op_rep)
end
def rFdivA : R2 := fun x y H Q => rI CDivW (fun i j => .int (i / j)) x y H Q ∨ rI CDivN (fun i j => .int (i.fdiv j)) x y H Q
def rModA : R2 := fun x y H Q => rI (fun _ j => 0 < j) (fun i j => .int (i % j)) x y H Q ∨ rI (fun _ j => j ≠ 0) (fun i j => .int (i.fmod j)) x y H Q
section
variable {X : Cx}
theorem op_fdivA : OpR X (binaryOp .FloorDiv) rFdivA := op_fdivW.or op_fdivN
theorem op_modA : OpR X (binaryOp .Mod) rModA := op_mod.or op_modN
end
/-- a list, a tuple, a text walked -/
def iAny (K : PySem.W.Frag) (tl : TE) : TI := fun σ H R => tl σ H fun x H1 => (∃ a, x = .ref a ∧ (∃ xs, SqL K H1 a xs) ∧ R (Itl K a) H1) ∨ (∃ a, x = .ref a ∧ (∃ xs, SqT K H1 a xs) ∧ R (Itt K a) H1) ∨ ∃ s, x = .str s ∧ R (Its s) H1
theorem pi_any {X : Cx} {tg l : Expr} {tl : TE} (hl : PE X l tl) : PI X tg l (iAny X.K tl) := by
  refine ⟨fun pins s σ H R I h => ?_⟩
  refine thn (hl.run pins s σ H _ I h) fun v s1 ⟨x, H1, I1, r1, q1⟩ => ?_
  rcases q1 with ⟨a, e, ⟨xs, hq⟩, q⟩ | ⟨a, e, ⟨xs, hq⟩, q⟩ | ⟨z, e, q⟩
  · subst e
    cases r1
    obtain ⟨its, rv, p, hz⟩ := I1.list hq
    refine wpAny_pyIter_list p.isList ?_
    refine ⟨s1.heap.objs.size, [s1.heap.objs.size], _, _, H1, rfl, I1.kept (t' := s1.toks) fun b o e => Heap.get?_push_of_some _ e, turn_list a _, ⟨_, Heap.get?_push_size _ rfl, rfl, rfl⟩, fun b hb => ?_, q⟩
    have e : b = s1.heap.objs.size := by simpa using hb
    subst e
    exact I1.fpOk (Nat.le_refl _) (I1.hok.fresh (Nat.le_refl _))
  · subst e
    cases r1
    obtain ⟨its, rv, p, hz⟩ := I1.tuple hq
    refine wpAny_pyIter_tuple (show s1.heap.IsTuple a its.toArray from p) ?_
    refine ⟨s1.heap.objs.size, [s1.heap.objs.size], _, _, H1, rfl, I1.kept (t' := s1.toks) fun b o e => Heap.get?_push_of_some _ e, turn_tuple a _, ⟨_, Heap.get?_push_size _ rfl, rfl, rfl⟩, fun b hb => ?_, q⟩
    have e : b = s1.heap.objs.size := by simpa using hb
    subst e
    exact I1.fpOk (Nat.le_refl _) (I1.hok.fresh (Nat.le_refl _))
  · subst e
    obtain ⟨t, rfl⟩ := r1
    cases ha : z.cps.all (· < 128)
    · exact wpAny_pyIter_wide ha (pi_one (tk := s1.toks) I1 _ (turn_str _ z t "str_iterator" (.inr rfl)) ⟨_, Heap.get?_push_size _ rfl, rfl, rfl⟩ q)
    · exact wpAny_pyIter_ascii ha (pi_one (tk := s1.toks) I1 _ (turn_str _ z t "str_ascii_iterator" (.inl rfl)) ⟨_, Heap.get?_push_size _ rfl, rfl, rfl⟩ q)
def rSlA (K : PySem.W.Frag) : V → Option Int → Option Int → Hp → VK → Prop := fun x lo hi H Q => rSlL K x lo hi H Q ∨ (∃ z, x = .str z ∧ z.length ≤ sizeLine ∧ Q (.str (cutS z lo hi)) H) ∨ rSlT K x lo hi H Q
theorem sl_any {X : Cx} : SlR X (rSlA X.K) := sl_list.or (sl_str.or sl_tup)
/-- an own exception without an __init__ of its own -/
structure ExC (K : PySem.W.Frag) (mg : Str → Option Value) (x : Str) : Prop where
  xc : PySem.W.excIn K (He.ga K x) He.veBase "ValueError.__new__" = true
  gc : mg x = some (.ref (He.ga K x))
  kc : PySem.W.keepIn K (.ref (He.ga K x)) = true
  bc : PySem.W.subIn K (.ref (He.ga K x)) (.type "BaseException") = some true
  tc : PySem.W.typeIn K (.ref (He.ga K x)) = some (.type "type")
/-- a value's truth -/
def tTruth (K : PySem.W.Frag) (ta : TE) : TT := fun σ H Q => ta σ H fun x H' => ∃ k, TruV K x H' k ∧ Q k H'
/-- a raise of an own class without fields -/
def tRaise0 (C : Addr) (E : XK) : TS := fun _ σ H => E (.ref C) none H
def _root_.Dl.rLen (K : PySem.W.Frag) : List V → Hp → VK → Prop := fun xs H Q => ∃ x n, xs = [x] ∧ LenV K x H n ∧ Q (.int (n : Nat)) H
def rMax2 : List V → Hp → VK → Prop := fun xs H Q => ∃ i j, xs = [.int i, .int j] ∧ Q (.int (if j > i then j else i)) H
def rMin2 : List V → Hp → VK → Prop := fun xs H Q => ∃ i j, xs = [.int i, .int j] ∧ Q (.int (if j < i then j else i)) H
def rMaxA (K : PySem.W.Frag) : List V → Hp → VK → Prop := fun xs H Q => rMax2 xs H Q ∨ rMax K xs H Q
def rMinA (K : PySem.W.Frag) : List V → Hp → VK → Prop := fun xs H Q => rMin2 xs H Q ∨ rMin K xs H Q
theorem call_maxA {X : Cx} (hc : X.calm = true) : CallR X (.builtin "max") (rMaxA X.K) := (call_max2 hc).or (cr_max hc)
theorem call_minA {X : Cx} (hc : X.calm = true) : CallR X (.builtin "min") (rMinA X.K) := (call_min2 hc).or (cr_min hc)
def rListOf (K : PySem.W.Frag) : List V → Hp → VK → Prop := fun xs H Q => ∃ p ys, xs = [.ref p] ∧ (SqL K H p ys ∨ SqT K H p ys) ∧ ∀ l, H l = none → Q (.ref l) (upd H l (.lst ys))
def rDivmod : List V → Hp → VK → Prop := fun xs H Q => ∃ i j, xs = [.int i, .int j] ∧ CDiv i j ∧ ∀ p, H p = none → Q (.ref p) (upd H p (.tup [.int (i / j), .int (i % j)]))
end L2
namespace Dl
open PySem L2 PyProof.Rows
section
variable {K : PySem.W.Frag} {μ : Mu} {P : D → Mu → Prop} {i j : Int} {x y d : D} {ds es : List D}
theorem ro_addI (h : P (.int (i + j)) μ) : RO K (rAddA K) (.int i) (.int j) μ P := fun G H al v w A r1 r2 Q hQ => .inl (ro_i (f := fun i j => i + j) h G H al v w A r1 r2 Q hQ)
theorem ro_addL (h1 : Lt μ x ds) (h2 : Lt μ y es) (hs : ds.length + es.length ≤ 100000) (h : P (.lst (ds ++ es)) μ) : RO K (rAddA K) x y μ P := fun G H al v w A r1 r2 Q hQ => .inr (.inl (ro_cat h1 h2 hs h G H al v w A r1 r2 Q hQ))
theorem ro_mulI (hc : CMul i j) (h : P (.int (i * j)) μ) : RO K rMulA (.int i) (.int j) μ P := fun G H al v w A r1 r2 Q hQ => .inl (ro_ic (f := fun i j => i * j) hc h G H al v w A r1 r2 Q hQ)
def repD (xs : List D) (k : Int) : List D := (List.replicate k.toNat xs).flatten
theorem rps_rep {G : Hp} {al : List Addr} {vs : List V} (h : Rps K G al vs ds) (n : Nat) : Rps K G al (List.replicate n vs).flatten (List.replicate n ds).flatten := by
  induction n with
  | zero => exact .nil
  | succ n ih => rw [List.replicate_succ, List.replicate_succ, List.flatten_cons, List.flatten_cons]; exact h.append ih
theorem ro_rep (h1 : Lt μ x ds) (hj : -100000 ≤ j ∧ j ≤ 100000) (hs : ds.length * j.toNat ≤ 100000) (h : P (.lst (repD ds j)) μ) : RO K rMulA x (.int j) μ P := fun G H al v w A r1 r2 Q hQ => by
  obtain ⟨a, ws, rfl, s1, rs1⟩ := h1.get A r1
  cases r2
  refine .inr (.inr ⟨a, j, ws, rfl, rfl, s1, by omega, by omega, by rw [rs1.length]; exact Nat.le_trans hs (by decide), fun p hp => ?_⟩)
  obtain ⟨A2, n2⟩ := A.frz (o := .lst (List.replicate j.toNat ws).flatten) hp
  exact hQ _ _ μ _ _ _ n2 A2 (.lst upd_same ((rps_rep rs1 j.toNat).nx n2)) h
theorem rc_max2' (h : P (.int (max i j)) μ) : RC K (rMaxA K) [.int i, .int j] μ P := fun G H al vs A r Q hQ => .inl (rc_max2 h G H al vs A r Q hQ)
theorem rc_min2' (h : P (.int (min i j)) μ) : RC K (rMinA K) [.int i, .int j] μ P := fun G H al vs A r Q hQ => .inl (rc_min2 h G H al vs A r Q hQ)
theorem rc_lenL (hl : Ls μ x ds) (h : P (.int (ds.length : Int)) μ) : RC K (rLen K) [x] μ P := rc_len hl h
theorem rc_lenT' (hl : Ts x ds) (h : P (.int (ds.length : Int)) μ) : RC K (rLen K) [x] μ P := rc_lenT hl h
theorem rc_list (hl : Ls μ x ds) (h : P (.lst ds) μ) : RC K (rListOf K) [x] μ P := fun G H al vs A r Q hQ => by
  obtain ⟨v, rfl, r1⟩ := rps1 r
  obtain ⟨a, ws, rfl, s, rs⟩ := hl.get A r1
  refine ⟨a, ws, rfl, .inl s, fun p hp => ?_⟩
  obtain ⟨A2, n2⟩ := A.frz (o := .lst ws) hp
  exact hQ _ _ μ _ _ _ n2 A2 (.lst upd_same (rs.nx n2)) h
theorem rc_listO (hl : Ls μ x ds) (h : P (.own μ.length) (μ ++ [.lst ds])) : RC K (rListOf K) [x] μ P := fun G H al vs A r Q hQ => by
  obtain ⟨v, rfl, r1⟩ := rps1 r
  obtain ⟨a, ws, rfl, s, rs⟩ := hl.get A r1
  refine ⟨a, ws, rfl, .inl s, fun p hp => ?_⟩
  obtain ⟨A2, n2⟩ := A.own (o := .lst ws) (m := .lst ds) hp ⟨A.sub.free hp, _, upd_same, rs.mono (Same.refl _) ⟨[p], rfl⟩⟩
  exact hQ _ _ _ _ _ _ n2 A2 (.own (by rw [← A.len]; simp)) h
theorem rc_divmod (hc : CDiv i j) (h : P (.tup [.int (i / j), .int (i % j)]) μ) : RC K rDivmod [.int i, .int j] μ P := fun G H al vs A r Q hQ => by
  obtain ⟨v, w, rfl, r1, r2⟩ := rps2 r
  cases r1; cases r2
  refine ⟨i, j, rfl, hc, fun p hp => ?_⟩
  obtain ⟨A2, n2⟩ := A.frz (o := .tup [.int (i / j), .int (i % j)]) hp
  exact hQ _ _ μ _ _ _ n2 A2 (.tup upd_same (.cons (.int _) (.cons (.int _) .nil))) h
end
section
variable {K : PySem.W.Frag} {B : Bs} {ρ : En} {μ : Mu} {P : D → Mu → Prop} {ta tb te tc td : TE} {PT' : Bool → Mu → Prop}
theorem de_chain3 {r r' r3 : R2} (h : DE K B ta ρ μ fun x μ1 => DE K B tb ρ μ1 fun y μ2 => RO K r x y μ2 fun z μ3 => ∃ b, z = .bl b ∧ (b = true → DE K B tc ρ μ3 fun w μ4 => RO K r' y w μ4 fun z2 μ5 => ∃ b2, z2 = .bl b2 ∧
      (b2 = true → DE K B td ρ μ5 fun u μ6 => RO K r3 w u μ6 P) ∧ (b2 = false → P (.bl false) μ5)) ∧ (b = false → P (.bl false) μ3)) :
    DE K B (tChain3 r r' r3 ta tb tc td) ρ μ P := fun σ G H al hB hσ hA Q hQ =>
  h σ G H al hB hσ hA _ fun v d μ1 G1 H1 al1 n1 A1 r1 p1 => p1 σ G1 H1 al1 (hB.trans n1) (hσ.nx n1) A1 _ fun w e μ2 G2 H2 al2 n2 A2 r2 p2 =>
    p2 G2 H2 al2 v w A2 (r1.nx n2) r2 _ fun z dz μ3 G3 H3 al3 n3 A3 r3 p3 => by
      obtain ⟨b, rfl, pt, pf⟩ := p3
      cases r3
      refine ⟨b, rfl, ?_⟩
      have nn3 := (n1.trans n2).trans n3
      cases b with
      | false =>
        rw [if_neg (by simp)]
        exact hQ (.bl false) _ μ3 G3 H3 al3 nn3 A3 (.bl _) (pf rfl)
      | true =>
        rw [if_pos rfl]
        refine pt rfl σ G3 H3 al3 (hB.trans nn3) (hσ.nx nn3) A3 _ fun u du μ4 G4 H4 al4 n4 A4 r4 p4 => p4 G4 H4 al4 w u A4 ((r2.nx n3).nx n4) r4 _ fun z5 dz5 μ5 G5 H5 al5 n5 A5 r5 p5 => ?_
        obtain ⟨b2, rfl, pt2, pf2⟩ := p5
        cases r5
        refine ⟨b2, rfl, ?_⟩
        have nn5 := (nn3.trans n4).trans n5
        cases b2 with
        | false =>
          rw [if_neg (by simp)]
          exact hQ (.bl false) _ μ5 G5 H5 al5 nn5 A5 (.bl _) (pf2 rfl)
        | true =>
          rw [if_pos rfl]
          exact pt2 rfl σ G5 H5 al5 (hB.trans nn5) (hσ.nx nn5) A5 _ fun u6 du6 μ6 G6 H6 al6 n6 A6 r6 p6 => p6 G6 H6 al6 u u6 A6 ((r4.nx n5).nx n6) r6 Q (hQ.nx (nn5.trans n6))
theorem dt_truth (h : DE K B te ρ μ fun x μ1 => ∃ b, x = .bl b ∧ PT' b μ1) : DT K B (tTruth K te) ρ μ PT' := fun σ G H al hB hσ hA Q hQ =>
  h σ G H al hB hσ hA _ fun v d μ1 G1 H1 al1 n1 A1 r1 p1 => by
    obtain ⟨b, rfl, p⟩ := p1
    cases r1
    exact ⟨b, rfl, hQ b μ1 G1 H1 al1 n1 A1 p⟩
theorem ds_raise0 {C : Addr} {E : XK} {PX : PXT} {Pe : DEnds} (hE : XAg K B PX E) (h : PX C [] μ) : DS K B (tRaise0 C E) ρ μ Pe := fun σ G H al hB hσ hA De hD =>
  hE C [] none μ G H al hB hA (.inl ⟨rfl, rfl⟩) h
end
end Dl
set_option Elab.async false
set_option linter.all false
set_option maxRecDepth 100000
namespace Dl
open PySem L2 PyProof.Rows
section
variable {K : PySem.W.Frag} {μ : Mu} {P : D → Mu → Prop} {i j : Int} {x y d : D} {ds es : List D}
theorem ro_fdiv (hc : 0 < j) (hj : j.natAbs.log2 < 9000) (h : P (.int (i / j)) μ) : RO K rFdivA (.int i) (.int j) μ P := fun G H al v w A r1 r2 Q hQ => .inl (ro_ic (f := fun i j => i / j) ⟨hc, hj⟩ h G H al v w A r1 r2 Q hQ)
theorem ro_mod (hc : 0 < j) (h : P (.int (i % j)) μ) : RO K rModA (.int i) (.int j) μ P := fun G H al v w A r1 r2 Q hQ => .inl (ro_ic (f := fun i j => i % j) (C := fun _ j => 0 < j) hc h G H al v w A r1 r2 Q hQ)
theorem ro_pow (hc : CPow i j) (h : P (.int (i ^ j.toNat)) μ) : RO K (rI CPow fun i j => .int (i ^ j.toNat)) (.int i) (.int j) μ P := ro_ic (f := fun i j => i ^ j.toNat) hc h
theorem ro_isB {a b : Bool} (h : P (.bl (decide (a = b))) μ) : RO K rIsB (.bl a) (.bl b) μ P := fun G H al v w A r1 r2 Q hQ => by
  cases r1; cases r2
  exact ⟨a, b, rfl, rfl, hQ.now A (.bl _) h⟩
theorem ro_notB {a b : Bool} (h : P (.bl (!decide (a = b))) μ) : RO K rNotB (.bl a) (.bl b) μ P := fun G H al v w A r1 r2 Q hQ => by
  cases r1; cases r2
  exact ⟨a, b, rfl, rfl, hQ.now A (.bl _) h⟩
end
section
variable {K : PySem.W.Frag} {B : Bs} {ρ : En} {μ : Mu} {te ta : TE} {ts : TA} {PI' : List D → (Mu → Prop) → Mu → Prop} {P : DEnds} {t u v : TS}
/-- what a datum is walked as; S: what must stay of what may change -/
inductive Wk (μ : Mu) : D → List D → (Mu → Prop) → Prop
  | lst (ds : List D) : Wk μ (.lst ds) ds (fun _ => True)
  | rdl (ds : List D) : Wk μ (.rdl ds) ds (fun _ => True)
  | own {k : Nat} {ds : List D} (h : μ[k]? = some (.lst ds)) : Wk μ (.own k) ds (fun μ' => μ'[k]? = some (.lst ds))
  | tup (ds : List D) : Wk μ (.tup ds) ds (fun _ => True)
  | rdt (ds : List D) : Wk μ (.rdt ds) ds (fun _ => True)
  | str (s : Str) : Wk μ (.str s) (signsD s) (fun _ => True)
theorem itt_ok {G H : Hp} {al : List Addr} {a : Addr} {ds : List D} {S : Mu → Prop} (h : ∀ G2 H2 al2 μ2, Nx G H al G2 H2 al2 → As K G2 H2 al2 μ2 → S μ2 → ∃ vs, SqT K H2 a vs ∧ Rps K G2 al2 vs ds) : ItOk K (Itt K a) ds S G H al := fun G2 H2 al2 μ2 n A s => by
  obtain ⟨vs, sq, r⟩ := h G2 H2 al2 μ2 n A s
  refine ⟨fun i hi => ⟨vs, vs[i]'(by rw [r.length]; exact hi), sq, by simp⟩, fun i hi => ⟨vs, sq, by rw [r.length]; exact hi⟩, fun i x H3 y d hd => ?_⟩
  obtain ⟨rfl, y⟩ := y
  obtain ⟨d', hd', r'⟩ := r.getV (y vs sq)
  rw [hd] at hd'; cases hd'
  exact ⟨G2, .refl, A, r'⟩
theorem di_any (h : DE K B te ρ μ fun x μ1 => ∃ ds S, Wk μ1 x ds S ∧ PI' ds S μ1) : DI K B (iAny K te) ρ μ PI' := fun σ G H al hB hσ hA R hR =>
  h σ G H al hB hσ hA _ fun v d μ1 G1 H1 al1 n1 A1 r1 p1 => by
    obtain ⟨ds, S, wk, p⟩ := p1
    cases wk with
    | lst =>
      cases r1 with
      | lst e rs => exact .inl ⟨_, rfl, ⟨_, .inl (.inl (A1.sub _ _ e))⟩, hR _ ds _ μ1 G1 H1 al1 n1 A1 (itl_ok fun G2 H2 al2 μ2 n2 A2 _ => ⟨_, .inl (.inl (A2.sub _ _ (n2.g _ _ e))), rs.nx n2⟩) p⟩
    | rdl =>
      cases r1 with
      | rdl e rs => exact .inl ⟨_, rfl, ⟨_, sql_mono A1.sub e⟩, hR _ ds _ μ1 G1 H1 al1 n1 A1 (itl_ok fun G2 H2 al2 μ2 n2 A2 _ => ⟨_, sql_mono A2.sub (sql_mono n2.g e), rs.nx n2⟩) p⟩
    | own hk =>
      obtain ⟨a, ha, ga, vs, hv, rs⟩ := A1.get hk
      cases r1 with
      | own e =>
        rw [ha] at e; cases e
        refine .inl ⟨_, rfl, ⟨_, .inl (.inl hv)⟩, hR _ ds _ μ1 G1 H1 al1 n1 A1 (itl_ok fun G2 H2 al2 μ2 n2 A2 s => ?_) p⟩
        obtain ⟨a2, ha2, ga2, vs2, hv2, rs2⟩ := A2.get s
        rw [n2.p.get ha] at ha2; cases ha2
        exact ⟨vs2, .inl (.inl hv2), rs2⟩
    | tup =>
      cases r1 with
      | tup e rs => exact .inr (.inl ⟨_, rfl, ⟨_, .inl (.inl (A1.sub _ _ e))⟩, hR _ ds _ μ1 G1 H1 al1 n1 A1 (itt_ok fun G2 H2 al2 μ2 n2 A2 _ => ⟨_, .inl (.inl (A2.sub _ _ (n2.g _ _ e))), rs.nx n2⟩) p⟩)
    | rdt =>
      cases r1 with
      | rdt e rs => exact .inr (.inl ⟨_, rfl, ⟨_, sqt_mono A1.sub e⟩, hR _ ds _ μ1 G1 H1 al1 n1 A1 (itt_ok fun G2 H2 al2 μ2 n2 A2 _ => ⟨_, sqt_mono A2.sub (sqt_mono n2.g e), rs.nx n2⟩) p⟩)
    | str x =>
      cases r1
      refine .inr (.inr ⟨x, rfl, hR _ _ _ μ1 G1 H1 al1 n1 A1 (fun G2 H2 al2 μ2 n2 A2 _ => ?_) p⟩)
      have hl : (signsD x).length = x.cps.size := by simp [signsD]
      rw [hl]
      refine ⟨fun i hi => hi, fun i hi => hi, fun i y H3 hy d hd => ?_⟩
      obtain ⟨rfl, c, hc, rfl⟩ := hy
      have : d = .str ⟨#[c]⟩ := by
        simp only [signsD, List.getElem?_map, Array.getElem?_toList, hc] at hd
        exact (Option.some.inj hd).symm
      subst this
      exact ⟨G2, .refl, A2, .str _⟩
theorem di_enum' (h : DA K B ts ρ μ fun xs μ1 => ∃ x ds S, xs = [x] ∧ Ls μ1 x ds ∧ Wk μ1 x ds S ∧ PI' (enumD ds) S μ1) : DI K B (iEnum K ts) ρ μ PI' := di_enum (fun σ G H al hB hσ hA Q hQ => h σ G H al hB hσ hA Q fun vs ds' μ' G' H' al' n A r p => hQ vs ds' μ' G' H' al' n A r (by
  obtain ⟨x, ds, S, e, ls, wk, p⟩ := p
  refine ⟨x, ds, e, ?_⟩
  cases wk with
  | lst => exact .inl ⟨rfl, p⟩
  | rdl => exact .inr (.inl ⟨rfl, p⟩)
  | own hk => exact .inr (.inr ⟨_, rfl, hk, p⟩)
  | tup => cases ls
  | rdt => cases ls
  | str => cases ls))
/-! ### statements with what follows -/
theorem q_set {i : Nat} (h : DE K B te ρ μ fun d μ1 => DS K B u (ρ.set i (some d)) μ1 P) : DS K B (tSeq (tAsg te (gName i)) u) ρ μ P := ds_seq (ds_set h)
theorem q_asg {g : TG} (h : DE K B te ρ μ fun d μ1 => DG K B g d ρ μ1 fun ρ2 μ2 => DS K B u ρ2 μ2 P) : DS K B (tSeq (tAsg te g) u) ρ μ P := ds_seq (ds_asg h)
theorem q_drop (h : DE K B te ρ μ fun d μ1 => DS K B u ρ μ1 P) : DS K B (tSeq (tDrop te) u) ρ μ P := ds_seq (ds_drop h)
/-- an if without else -/
theorem q_when {c : TT} (h : DT K B c ρ μ fun b μ1 => (b = true → DS K B t ρ μ1 { P with nx := fun ρ1 μ1 => DS K B u ρ1 μ1 P }) ∧ (b = false → DS K B u ρ μ1 P)) : DS K B (tSeq (tIfS c t tNext) u) ρ μ P :=
  ds_seq (ds_if fun σ G H al hB hσ hA Q hQ => h σ G H al hB hσ hA Q fun b μ1 G1 H1 al1 n1 A1 p1 => hQ b μ1 G1 H1 al1 n1 A1 ⟨p1.1, fun e => ds_next (p1.2 e)⟩)
theorem s_when {c : TT} (h : DT K B c ρ μ fun b μ1 => (b = true → DS K B t ρ μ1 P) ∧ (b = false → P.nx ρ μ1)) : DS K B (tIfS c t tNext) ρ μ P :=
  ds_if fun σ G H al hB hσ hA Q hQ => h σ G H al hB hσ hA Q fun b μ1 G1 H1 al1 n1 A1 p1 => hQ b μ1 G1 H1 al1 n1 A1 ⟨p1.1, fun e => ds_next (p1.2 e)⟩
theorem q_if {c : TT} (h : DT K B c ρ μ fun b μ1 => (b = true → DS K B t ρ μ1 { P with nx := fun ρ1 μ1 => DS K B u ρ1 μ1 P }) ∧ (b = false → DS K B v ρ μ1 { P with nx := fun ρ1 μ1 => DS K B u ρ1 μ1 P })) : DS K B (tSeq (tIfS c t v) u) ρ μ P := ds_seq (ds_if h)
theorem q_for {wi : TI} {g : TG} {tb : TS} (h : DI K B wi ρ μ fun ds S μ1 => ∃ Iv : Nat → En → Mu → Prop, Iv 0 ρ μ1 ∧ (∀ i ρ' μ', i ≤ ds.length → Iv i ρ' μ' → S μ') ∧
      (∀ i d ρ' μ', ds[i]? = some d → Iv i ρ' μ' → DG K B g d ρ' μ' fun ρ2 μ2 => DS K B tb ρ2 μ2 { nx := Iv (i + 1), ct := Iv (i + 1), bk := fun ρ1 μ1 => DS K B u ρ1 μ1 P, rt := P.rt }) ∧ (∀ ρ' μ', Iv ds.length ρ' μ' → DS K B u ρ' μ' P)) : DS K B (tSeq (tFor wi g tb) u) ρ μ P := ds_seq (ds_for h)
theorem q_fld {f : Str} {tb : TE} (h : DE K B tb ρ μ fun y μ1 => DE K B ta ρ μ1 fun x μ2 => ∃ k C gs, x = .own k ∧ μ2[k]? = some (.ins C gs) ∧ Cls K C ∧ NoAttr K C f ∧ gs.length < 1000 ∧ DS K B u ρ (μ2.set k (.ins C (putD f y gs))) P) : DS K B (tSeq (sFld K ta tb f) u) ρ μ P := ds_seq (ds_fld h)
theorem q_par {i j : Nat} (h : DA K B ts ρ μ fun ds μ1 => ∃ x y, ds = [x, y] ∧ DS K B u ((ρ.set i (some x)).set j (some y)) μ1 P) : DS K B (tSeq (tPar i j ts) u) ρ μ P := ds_seq (ds_par h)
end
/-- the n-th thing from the end of what may change -/
theorem mu_last {μ : Mu} {o : MO} : (μ ++ [o])[μ.length]? = some o := by simp
theorem mu_old {μ ext : Mu} {k : Nat} {o : MO} (h : μ[k]? = some o) : (μ ++ ext)[k]? = some o := by
  rw [List.getElem?_append_left (List.getElem?_eq_some_iff.mp h).1]
  exact h
theorem set_last {μ : Mu} {o o' : MO} : (μ ++ [o]).set μ.length o' = μ ++ [o'] := by simp
theorem set_old {μ ext : Mu} {k : Nat} {o o' : MO} (h : μ[k]? = some o) : (μ ++ ext).set k o' = μ.set k o' ++ ext := by
  rw [List.set_append_left _ _ (List.getElem?_eq_some_iff.mp h).1]
theorem set_get {μ : Mu} {k : Nat} {o o' : MO} (h : μ[k]? = some o) : (μ.set k o')[k]? = some o' := by
  rw [List.getElem?_set_self (List.getElem?_eq_some_iff.mp h).1]
theorem set_set' {μ : Mu} {k : Nat} {o o' : MO} : (μ.set k o).set k o' = μ.set k o' := by simp
/-- a fresh list handed on: frozen, or to be changed -/
def Fresh (xs : List D) (μ : Mu) (P : D → Mu → Prop) : Prop := P (.lst xs) μ ∨ P (.own μ.length) (μ ++ [.lst xs])
/-! ### defs by their contracts -/
section
variable {P : Program} {w : World} {K : PySem.W.Frag} {mg : Str → Option Value} {base : Heap}
theorem fn_DD {x qual : Str} {st : Stmt} {dvs : List V} {kws : List (Str × V)} {f : Addr} {fd : FuncData} {N ps : List Str} {k : Nat} {C : CT} {t : XK → TS} (F : FunD K x qual (defArgs st) (defBody st) (defScope st) dvs kws f fd) (S : FnScope N ps (defScope st)) (len : ∀ ds μ P PX, C ds μ P PX → ds.length = ps.length) (hN : ps.length ≤ N.length)
    (body : ∀ (cdv : Value) (A : Around) (outer : List Env) (s : Shared) (H : Hp) (E : XK), Room k (A.deeper (envOfC qual (defScope st) s.heap.objs.size f cdv)) → PSs (cxOf (L2.CX P w) P w K mg base N qual (defScope st) f cdv A outer s H E) (defBody st) (t E))
    (sem : ∀ ds μ P PX, C ds μ P PX → MuCl μ μ.length → clL ds μ.length = true → ∀ B E, XAg K B (RetX μ.length PX) E → DS K B (t E) (startD N ds) μ (fnE μ.length P)) : FnOk P w K mg base (L2.CX P w) (k + 1) f fd ps (spD K C) := by
  refine F.ok S (fun vs H Q E h => ?_) (fun cdv A outer s H vs Q E hr h => ⟨t E, body cdv A outer s H E hr, sem_of (fun ds μ P PX c => by rw [len ds μ P PX c]; exact hN) sem h⟩)
  obtain ⟨G, al, ds, μ, P, PX, A, r, c, _⟩ := h
  rw [r.length]
  exact len ds μ P PX c
end
end Dl
set_option Elab.async false
set_option linter.all false
set_option maxRecDepth 100000
namespace Dl
open PySem L2 PyProof.Rows
mutual
theorem D.cl_mono : ∀ (d : D) {n m : Nat}, n ≤ m → d.cl n = true → d.cl m = true
  | .tup xs, n, m, l, h => by unfold D.cl at h ⊢; exact clL_mono xs l h
  | .lst xs, n, m, l, h => by unfold D.cl at h ⊢; exact clL_mono xs l h
  | .rdl xs, n, m, l, h => by unfold D.cl at h ⊢; exact clL_mono xs l h
  | .rdt xs, n, m, l, h => by unfold D.cl at h ⊢; exact clL_mono xs l h
  | .obj _ gs, n, m, l, h => by unfold D.cl at h ⊢; exact clF_mono gs l h
  | .dct gs, n, m, l, h => by unfold D.cl at h ⊢; exact clK_mono gs l h
  | .own k, n, m, l, h => by unfold D.cl at h ⊢; simp at h ⊢; omega
  | .non, n, m, l, h => by simp [D.cl]
  | .bl _, n, m, l, h => by simp [D.cl]
  | .int _, n, m, l, h => by simp [D.cl]
  | .str _, n, m, l, h => by simp [D.cl]
  | .ty _, n, m, l, h => by simp [D.cl]
  | .loc _, n, m, l, h => by simp [D.cl]
  | .exc _ gs, n, m, l, h => by unfold D.cl at h ⊢; exact clF_mono gs l h
theorem clL_mono : ∀ (d : List D) {n m : Nat}, n ≤ m → clL d n = true → clL d m = true
  | [], _, _, _, _ => by simp [clL]
  | x :: xs, n, m, l, h => by
    unfold clL at h ⊢; simp at h ⊢
    exact ⟨D.cl_mono x l h.1, clL_mono xs l h.2⟩
theorem clF_mono : ∀ (d : List (Str × D)) {n m : Nat}, n ≤ m → clF d n = true → clF d m = true
  | [], _, _, _, _ => by simp [clF]
  | (_, x) :: xs, n, m, l, h => by
    unfold clF at h ⊢; simp at h ⊢
    exact ⟨D.cl_mono x l h.1, clF_mono xs l h.2⟩
theorem clK_mono : ∀ (d : List (Key × D)) {n m : Nat}, n ≤ m → clK d n = true → clK d m = true
  | [], _, _, _, _ => by simp [clK]
  | (_, x) :: xs, n, m, l, h => by
    unfold clK at h ⊢; simp at h ⊢
    exact ⟨D.cl_mono x l h.1, clK_mono xs l h.2⟩
end
theorem MO.cl_mono (o : MO) {n m : Nat} (l : n ≤ m) (h : o.cl n = true) : o.cl m = true := by
  cases o with
  | dead => rfl
  | lst xs => exact clL_mono xs l h
  | ins _ gs => exact clF_mono gs l h
  | dK gs => exact clK_mono gs l h
  | dT gs => exact clL_mono _ l h
  | tab _ _ => rfl
theorem MuCl.mono {μ : Mu} {n m : Nat} (h : MuCl μ n) (l : n ≤ m) : MuCl μ m := fun o ho => MO.cl_mono o l (h o ho)
theorem MuCl.app {μ : Mu} {o : MO} (h : MuCl μ μ.length) (ho : o.cl μ.length = true) : MuCl (μ ++ [o]) (μ ++ [o]).length := fun x hx => by
  rw [List.length_append]
  rcases List.mem_append.mp hx with m | m
  · exact MO.cl_mono x (by simp) (h x m)
  · simp at m; subst m; exact MO.cl_mono _ (by simp) ho
theorem br {b : Bool} {A C : Prop} (h1 : b = true → A) (h2 : b = false → C) : (b = true → A) ∧ (b = false → C) := ⟨h1, h2⟩
theorem br' {b : Bool} {A C : Prop} (h1 : b = false → A) (h2 : b = true → C) : (b = false → A) ∧ (b = true → C) := ⟨h1, h2⟩
theorem Wk.now {μ : Mu} {x : D} {ds : List D} {S : Mu → Prop} (h : Wk μ x ds S) : S μ := by
  cases h with
  | own h => exact h
  | _ => trivial
theorem Ls.wk {μ : Mu} {x : D} {ds : List D} (h : Ls μ x ds) : ∃ S, Wk μ x ds S := by
  cases h with
  | lst => exact ⟨_, .lst _⟩
  | rdl => exact ⟨_, .rdl _⟩
  | own h => exact ⟨_, .own h⟩
section
variable {K : PySem.W.Frag} {B : Bs} {ρ : En} {μ : Mu} {te : TE} {tt : TT} {wi : TI} {g : TG} {vs : List Nat} {P : D → Mu → Prop}
/-- [f d for d in ds], nothing changes -/
theorem lc_map (f : D → D) (hg : GW g vs) (h : DI K B wi ρ μ fun ds S μ1 => S μ1 ∧ ds.length ≤ 100000 ∧ (∀ (i : Nat) (d : D), ds[i]? = some d → DG K B g d (wipeD ρ vs) μ1 fun ρ2 μ2 => μ2 = μ1 ∧ DE K B te ρ2 μ1 fun y μ3 => y = f d ∧ μ3 = μ1) ∧ ∀ out, ds.map f = out → P (.lst out) μ1) : DE K B (tLc wi g tYes te vs) ρ μ P := by
  refine de_lc hg fun σ G H al hB hσ hA R hR => h σ G H al hB hσ hA R fun J ds S μ1 G1 H1 al1 n1 A1 ok p => hR J ds S μ1 G1 H1 al1 n1 A1 ok ?_
  obtain ⟨hS, hl, hs, hp⟩ := p
  refine ⟨hl, fun i acc μ' => acc = (ds.take i).map f ∧ μ' = μ1, ⟨by simp, rfl⟩, fun i acc μ' _ h => by rw [h.2]; exact hS, fun i d acc μ' hd h => ?_, fun acc μ' h => ?_⟩
  · obtain ⟨rfl, rfl⟩ := h
    refine fun σ G H al v hB hσ hA rv Q hQ => hs i d hd σ G H al v hB hσ hA rv Q fun σ2 ρ2 μ2 G2 H2 al2 n2 hσ2 A2 p2 => hQ σ2 ρ2 μ2 G2 H2 al2 n2 hσ2 A2 ?_
    obtain ⟨rfl, p2⟩ := p2
    refine dt_yes ⟨fun _ => p2.imp fun y μ3 ⟨e1, e2⟩ => ⟨?_, e2⟩, fun z => by cases z⟩
    rw [e1, List.take_add_one, hd]
    simp
  · obtain ⟨rfl, rfl⟩ := h
    rw [List.take_length]
    exact hp _ rfl
/-- [f d for d in ds if p d] -/
theorem lc_filt (p : D → Bool) (f : D → D) (hg : GW g vs) (h : DI K B wi ρ μ fun ds S μ1 => S μ1 ∧ ds.length ≤ 100000 ∧ (∀ (i : Nat) (d : D), ds[i]? = some d → DG K B g d (wipeD ρ vs) μ1 fun ρ2 μ2 => μ2 = μ1 ∧ DT K B tt ρ2 μ1 fun b μ3 => b = p d ∧ μ3 = μ1 ∧ (b = true → DE K B te ρ2 μ1 fun y μ4 => y = f d ∧ μ4 = μ1)) ∧ ∀ out, (ds.filter p).map f = out → P (.lst out) μ1) : DE K B (tLc wi g tt te vs) ρ μ P := by
  refine de_lc hg fun σ G H al hB hσ hA R hR => h σ G H al hB hσ hA R fun J ds S μ1 G1 H1 al1 n1 A1 ok p' => hR J ds S μ1 G1 H1 al1 n1 A1 ok ?_
  obtain ⟨hS, hl, hs, hp⟩ := p'
  refine ⟨hl, fun i acc μ' => acc = ((ds.take i).filter p).map f ∧ μ' = μ1, ⟨by simp, rfl⟩, fun i acc μ' _ h => by rw [h.2]; exact hS, fun i d acc μ' hd h => ?_, fun acc μ' h => ?_⟩
  · obtain ⟨rfl, rfl⟩ := h
    refine fun σ G H al v hB hσ hA rv Q hQ => hs i d hd σ G H al v hB hσ hA rv Q fun σ2 ρ2 μ2 G2 H2 al2 n2 hσ2 A2 p2 => hQ σ2 ρ2 μ2 G2 H2 al2 n2 hσ2 A2 ?_
    obtain ⟨rfl, p2⟩ := p2
    refine fun σ G H al hB hσ hA Q hQ => p2 σ G H al hB hσ hA Q fun b μ3 G3 H3 al3 n3 A3 p3 => hQ b μ3 G3 H3 al3 n3 A3 ?_
    obtain ⟨hb, rfl, p3⟩ := p3
    have e : (List.take (i + 1) ds) = List.take i ds ++ [d] := by rw [List.take_add_one, hd]; rfl
    refine ⟨fun hbt => (p3 hbt).imp fun y μ4 ⟨e1, e2⟩ => ⟨?_, e2⟩, fun hbf => ⟨?_, rfl⟩⟩
    · rw [e, List.filter_append, List.map_append, e1]
      rw [hb] at hbt
      simp [hbt]
    · rw [e, List.filter_append, List.map_append]
      rw [hb] at hbf
      simp [hbf]
  · obtain ⟨rfl, rfl⟩ := h
    rw [List.take_length]
    exact hp _ rfl
end
end Dl
set_option Elab.async false
set_option linter.all false
set_option maxRecDepth 100000
namespace Dl
open PySem L2 PyProof.Rows
/-- a law's end: the written part, the function object, the contract over every base -/
theorem walk_ofW {l : PySem.W.OpenLaw} {n k : Nat} {q : Program} {loose : List Str} {XP : (Str → Option Value) → Heap → Prop} {YP : World → Heap → Prop} {d : DefRec} {x : Str}
    (hn : l.most = some n) (hn2 : n ≤ sizeLine) (hdf : d.params.defaults = []) (hr : Room k callerA)
    (F : ∀ (w : World) (mg : Str → Option Value) (fa : Addr) (h : Heap), YP w h → h.Ns mainGlobals mg → mg d.name = some (.ref fa) →
      ∃ (K : PySem.W.Frag) (fd : FuncData) (sp : Sp), K.In h ∧ (∀ (s : Shared) (u : Value), BindsTo s fd ⟨[u], []⟩ [(x, u)]) ∧
        (∀ (H : Hp) (a : Addr) (ns : List Int), ns.length ≤ n → Only H → SqL K H a (ns.map V.int) → sp [.ref a] H (fun v _ => v = .bl true) fun _ _ _ => False) ∧
        ∀ base : Heap, K.In base → base.Ns mainGlobals mg → FnOk l.prog w K mg base (L2.CX l.prog w) k fa fd [x] sp) :
    PySem.W.WalkO q loose XP YP l.row.toRowW d [] (fun f vs => PySem.call f vs) := by
  refine Att.attach_call hn hdf fun w s0 s1 mg mb fa o pm cd doc a vs ns G Y ho hd hcd hmg hobj hints hlen hg => ?_
  obtain ⟨K, fd, sp, KX, hb, hsp, hF⟩ := F w mg fa _ Y G.T.g hmg
  refine law_call KX G.T.g G.T.b G.T.builtins G.T.nolimit hg hobj hints (Nat.le_trans hlen hn2) hr hF hb (fun H hO hS => hsp H a ns hlen hO hS) fun H e s' c => ?_
  obtain ⟨_, _, _, _, _, _, _, _, _, _, _, _, z⟩ := c
  exact z
theorem law_sp {K : PySem.W.Frag} {H : Hp} {a : Addr} {ns : List Int} {C : CT} (hS : SqL K H a (ns.map V.int)) (h : C [.rdl (ns.map D.int)] [] (fun d _ => d = .bl true) (fun _ _ _ => False)) : spD K C [.ref a] H (fun v _ => v = .bl true) (fun _ _ _ => False) := by
  refine ⟨H, [], [.rdl (ns.map D.int)], [], _, _, ⟨Same.refl _, by simp, rfl, by simp, fun k a o e _ => by simp at e⟩, .cons (.rdl hS (Rps.of_ints ns)) .nil, h, ?_, ?_⟩
  · intro v d μ' G' H' al' _ _ r p
    subst p
    cases r
    rfl
  · intro C fs dd μ' G' H' al' _ _ _ p
    exact p
end Dl
set_option Elab.async false
set_option linter.all false
set_option maxRecDepth 100000
namespace Dl
open PySem L2 PyProof.Rows
section
variable {K : PySem.W.Frag} {B : Bs} {ρ : En} {μ : Mu} {P : D → Mu → Prop} {te : TE} {x y : D} {ds : List D} {i j : Int}
/-- xs[::-1] -/
theorem de_revL (h : DE K B te ρ μ fun x μ1 => ∃ ds, Ls μ1 x ds ∧ P (.lst ds.reverse) μ1) : DE K B (tRevL K te) ρ μ P := fun σ G H al hB hσ hA Q hQ =>
  h σ G H al hB hσ hA _ fun v d μ1 G1 H1 al1 n1 A1 r1 p1 => by
    obtain ⟨ds, ls, p⟩ := p1
    obtain ⟨a, vs, rfl, sq, rs⟩ := ls.get A1 r1
    refine ⟨a, vs, rfl, sq, fun p' hp => ?_⟩
    obtain ⟨A2, n2⟩ := A1.frz (o := .lst vs.reverse) hp
    exact hQ _ _ μ1 _ _ _ (n1.trans n2) A2 (.lst upd_same (rs.reverse.nx n2)) p
theorem eqv_nil (ds : List D) : eqvD (.lst ds) (.lst []) = decide (ds = []) := by
  cases ds with
  | nil => simp [eqvD_lst, eqvL, pyL, PyData.eqvAll]
  | cons d ds => simp [eqvD_lst, eqvL, pyL, PyData.eqvAll]
theorem ro_eqNil {n : Nat} (hx : Fz μ x (.lst ds)) (hs : shpL ds n = true) (h : P (.bl (decide (ds = []))) μ) (hn : n ≤ 63 := by decide) : RO K (rEqD K) x (.lst []) μ P :=
  ro_eqD (n := n + 1) (m := 1) hx (.id _) (by simpa [D.shp] using hs) rfl (by rw [eqv_nil]; exact h) (by omega)
/-- .. of at most a hundred thousand -/
def Sz (n : Nat) : Prop := n ≤ 100000
theorem de_tupZ {ts : TA} (h : DA K B ts ρ μ fun xs μ1 => Sz xs.length ∧ P (.tup xs) μ1) : DE K B (tTup ts) ρ μ P := de_tup h
theorem de_lstZ {ts : TA} (h : DA K B ts ρ μ fun xs μ1 => Sz xs.length ∧ P (.lst xs) μ1) : DE K B (tLst ts) ρ μ P := de_lst h
theorem de_lstOZ {ts : TA} (h : DA K B ts ρ μ fun xs μ1 => Sz xs.length ∧ P (.own μ1.length) (μ1 ++ [.lst xs])) : DE K B (tLst ts) ρ μ P := de_lstO h
/-- two things -/
def Two (ds : List D) (F : D → D → Prop) : Prop := ∃ x y, ds = [x, y] ∧ F x y
theorem two_i {F : D → D → Prop} (h : F x y) : Two [x, y] F := ⟨x, y, rfl, h⟩
theorem ds_parZ {ts : TA} {i j : Nat} {P : DEnds} (h : DA K B ts ρ μ fun ds μ1 => Two ds fun x y => P.nx ((ρ.set i (some x)).set j (some y)) μ1) : DS K B (tPar i j ts) ρ μ P := ds_par h
theorem q_parZ {ts : TA} {i j : Nat} {u : TS} {P : DEnds} (h : DA K B ts ρ μ fun ds μ1 => Two ds fun x y => DS K B u ((ρ.set i (some x)).set j (some y)) μ1 P) : DS K B (tSeq (tPar i j ts) u) ρ μ P := q_par h
theorem rs_anyL {lo hi : Option Int} (hl : Ls μ x ds) (h : P (.lst (cutD ds lo hi)) μ) : RS K (rSlA K) x lo hi μ P := fun G H al v A r Q hQ => .inl (rs_lst hl h G H al v A r Q hQ)
end
theorem cut_nat {xs : List D} {f e : Int} (h0 : 0 ≤ f) (h1 : f ≤ e) (h2 : e ≤ xs.length) : cutD xs (some f) (some e) = (xs.drop f.toNat).take (e - f).toNat := by
  unfold cutD
  have e1 : HT.sIx xs.length 0 (some f) = f.toNat := by
    have := HT.sIx_nat xs.length 0 f.toNat
    rw [show ((f.toNat : Nat) : Int) = f by omega] at this
    rw [this]; omega
  have e2 : HT.sIx xs.length xs.length (some e) = e.toNat := by
    have := HT.sIx_nat xs.length xs.length e.toNat
    rw [show ((e.toNat : Nat) : Int) = e by omega] at this
    rw [this]; omega
  rw [e1, e2]
  congr 1
  omega
end Dl
set_option Elab.async false
set_option linter.all false
set_option maxRecDepth 100000
namespace L2
open PySem PySem.Spec PyProof.Rows
section
variable {X : Cx}
/-- o[i] of a list, by values -/
theorem get_list : PGet X (rIxL X.K) := by
  intro pins s σ H x y v u Q I rx ry h
  obtain ⟨p, xs, i, z, rfl, rfl, hq, he, q⟩ := h
  cases rx
  obtain ⟨t, rfl⟩ := ry
  obtain ⟨its, r, pl, hz⟩ := I.list hq
  obtain ⟨j, h1, h2, h3, h4, h5⟩ := atI_get he
  obtain ⟨w, ew, rw'⟩ := r.get h2
  have hl := r.length
  have hn := line63
  have fin : EP X pins σ Q w s := ⟨z, H, I, rw', q⟩
  by_cases h0 : 0 ≤ i
  · have hj : i.toNat = j := by
      rw [seqIndex_of h0 h5] at h1
      exact Option.some.inj h1
    exact wpAny_getItem_list pl.isList h0 (by omega) (by rw [hj]; simpa using ew) fin
  · have hj : (i + (its.toArray.size : Int)).toNat = j := by
      rw [seqIndex_neg (by omega) h4] at h1
      rw [List.size_toArray, ← hl]
      exact Option.some.inj h1
    exact wpAny_getItem_list_neg pl.isList (by omega) (by rw [List.size_toArray] <;> omega) (by omega) (by rw [hj]; simpa using ew) fin
end
end L2
namespace Dl
open PySem L2 PyProof.Rows
section
variable {K : PySem.W.Frag} {B : Bs} {ρ : En} {μ : Mu} {te to ti : TE} {t u : TS} {x y d : D} {ds : List D} {i j : Int}
theorem ro_ixLL {P : D → Mu → Prop} (hl : Ls μ x ds) (e : atI ds i = some d) (h : P d μ) : RO K (rIxL K) x (.int i) μ P := fun G H al v w A r1 r2 Q hQ => by
  obtain ⟨a, vs, rfl, sq, rs⟩ := hl.get A r1
  cases r2
  obtain ⟨w, hw, rw'⟩ := atI_rps rs e
  exact ⟨a, vs, i, w, rfl, rfl, sq, hw, hQ.now A rw' h⟩
theorem ds_augS {P : DEnds} {tip : TIp} {tset : TSet} {tget : V → V → Hp → VK → Prop} (h : DE K B to ρ μ fun o μ1 => DE K B ti ρ μ1 fun i μ2 => RO K tget o i μ2 fun x μ3 => DE K B te ρ μ3 fun y μ4 => RO K tip x y μ4 fun z μ5 => RSet K tset o i z μ5 fun μ6 => P.nx ρ μ6) : DS K B (tAugS to ti te tget tip tset) ρ μ P := fun σ G H al hB hσ hA De hD =>
  h σ G H al hB hσ hA _ fun vo o μ1 G1 H1 al1 n1 A1 r1 p1 => p1 σ G1 H1 al1 (hB.trans n1) (hσ.nx n1) A1 _ fun vi i μ2 G2 H2 al2 n2 A2 r2 p2 =>
    p2 G2 H2 al2 vo vi A2 (r1.nx n2) r2 _ fun vx x μ3 G3 H3 al3 n3 A3 r3 p3 =>
      p3 σ G3 H3 al3 ((hB.trans n1).trans (n2.trans n3)) (((hσ.nx n1).nx n2).nx n3) A3 _ fun vy y μ4 G4 H4 al4 n4 A4 r4 p4 =>
        p4 G4 H4 al4 vx vy A4 (r3.nx n4) r4 _ fun vz z μ5 G5 H5 al5 n5 A5 r5 p5 =>
          p5 G5 H5 al5 vo vi vz A5 ((((r1.nx n2).nx n3).nx n4).nx n5) (((r2.nx n3).nx n4).nx n5) r5 _ fun μ6 G6 H6 al6 n6 A6 p6 =>
            hD.nx _ _ μ6 G6 H6 al6 (((((n1.trans n2).trans n3).trans n4).trans n5).trans n6) ((((((hσ.nx n1).nx n2).nx n3).nx n4).nx n5).nx n6) A6 p6
theorem q_augS {P : DEnds} {tip : TIp} {tset : TSet} {tget : V → V → Hp → VK → Prop} (h : DE K B to ρ μ fun o μ1 => DE K B ti ρ μ1 fun i μ2 => RO K tget o i μ2 fun x μ3 => DE K B te ρ μ3 fun y μ4 => RO K tip x y μ4 fun z μ5 => RSet K tset o i z μ5 fun μ6 => DS K B u ρ μ6 P) : DS K B (tSeq (tAugS to ti te tget tip tset) u) ρ μ P := ds_seq (ds_augS h)
/-! ### fields, methods -/
/-- a field's data -/
def FldP (K : PySem.W.Frag) (μ : Mu) (x : D) (f : Str) (P : D → Prop) : Prop := ∃ C gs d, (x = .obj C gs ∨ ∃ k, x = .own k ∧ μ[k]? = some (.ins C gs)) ∧ Cls K C ∧ NoAttr K C f ∧ gs.lookup f = some d ∧ P d
theorem de_fldZ {f : Str} {P : D → Mu → Prop} (h : DE K B te ρ μ fun x μ1 => FldP K μ1 x f fun d => P d μ1) : DE K B (tFld K te f) ρ μ P := de_fld h
theorem fp_obj {f : Str} {C : Addr} {gs : List (Str × D)} {P : D → Prop} (c : Cls K C) (n : NoAttr K C f) (l : gs.lookup f = some d) (h : P d) : FldP K μ (.obj C gs) f P := ⟨C, gs, d, .inl rfl, c, n, l, h⟩
theorem fp_own {f : Str} {k : Nat} {C : Addr} {gs : List (Str × D)} {P : D → Prop} (hk : μ[k]? = some (.ins C gs)) (c : Cls K C) (n : NoAttr K C f) (l : gs.lookup f = some d) (h : P d) : FldP K μ (.own k) f P := ⟨C, gs, d, .inr ⟨k, rfl, hk⟩, c, n, l, h⟩
def MethP (μ : Mu) (Cc : Addr) (m : Str) (x : D) (P : Prop) : Prop := ∃ gs, (x = .obj Cc gs ∨ ∃ k, x = .own k ∧ μ[k]? = some (.ins Cc gs)) ∧ gs.lookup m = none ∧ P
theorem de_methZ {Cc : Addr} {m : Str} {C : CT} {E : XK} {PX : PXT} {ts : TA} {P : D → Mu → Prop} (hE : XAg K B PX E) (h : DE K B te ρ μ fun x μ1 => MethP μ1 Cc m x (DA K B ts ρ μ1 fun ds μ2 => C (x :: ds) μ2 P PX)) : DE K B (tMeth Cc m (spD K C) [] E te ts) ρ μ P := de_meth hE h
theorem mp_obj {Cc : Addr} {m : Str} {gs : List (Str × D)} {P : Prop} (l : gs.lookup m = none) (h : P) : MethP μ Cc m (.obj Cc gs) P := ⟨gs, .inl rfl, l, h⟩
theorem mp_own {Cc : Addr} {m : Str} {k : Nat} {gs : List (Str × D)} {P : Prop} (hk : μ[k]? = some (.ins Cc gs)) (l : gs.lookup m = none) (h : P) : MethP μ Cc m (.own k) P := ⟨gs, .inr ⟨k, rfl, hk⟩, l, h⟩
/-- a store into a field -/
def PutP (K : PySem.W.Frag) (μ : Mu) (x y : D) (f : Str) (P : Mu → Prop) : Prop := ∃ k C gs, x = .own k ∧ μ[k]? = some (.ins C gs) ∧ Cls K C ∧ NoAttr K C f ∧ gs.length < 1000 ∧ P (μ.set k (.ins C (putD f y gs)))
theorem ds_fldZ {f : Str} {tb : TE} {P : DEnds} (h : DE K B tb ρ μ fun y μ1 => DE K B te ρ μ1 fun x μ2 => PutP K μ2 x y f fun μ3 => P.nx ρ μ3) : DS K B (sFld K te tb f) ρ μ P := ds_fld h
theorem q_fldZ {f : Str} {tb : TE} {P : DEnds} (h : DE K B tb ρ μ fun y μ1 => DE K B te ρ μ1 fun x μ2 => PutP K μ2 x y f fun μ3 => DS K B u ρ μ3 P) : DS K B (tSeq (sFld K te tb f) u) ρ μ P := q_fld h
theorem pp_own {f : Str} {k : Nat} {C : Addr} {gs : List (Str × D)} {P : Mu → Prop} (hk : μ[k]? = some (.ins C gs)) (c : Cls K C) (n : NoAttr K C f) (l : gs.length < 1000) (h : P (μ.set k (.ins C (putD f y gs)))) : PutP K μ (.own k) y f P := ⟨k, C, gs, rfl, hk, c, n, l, h⟩
/-! ### steps in thought alone: what is known of the store is put otherwise -/
def Gh (K : PySem.W.Frag) (μ μ2 : Mu) : Prop := ∀ G H al, As K G H al μ → ∃ G', As K G' H al μ2 ∧ Nx G H al G' H al
theorem Gh.refl : Gh K μ μ := fun G H al A => ⟨G, A, .refl⟩
theorem Gh.trans {μ1 μ2 : Mu} (h : Gh K μ μ1) (h' : Gh K μ1 μ2) : Gh K μ μ2 := fun G H al A => by
  obtain ⟨G1, A1, n1⟩ := h G H al A
  obtain ⟨G2, A2, n2⟩ := h' G1 H al A1
  exact ⟨G2, A2, n1.trans n2⟩
/-- .. behind a statement -/
theorem ds_ghostN {P : DEnds} (h : DS K B t ρ μ { P with nx := fun ρ1 μ1 => ∃ μ2, Gh K μ1 μ2 ∧ P.nx ρ1 μ2 }) : DS K B t ρ μ P := fun σ G H al hB hσ hA De hD =>
  h σ G H al hB hσ hA De ⟨fun σ' ρ' μ' G' H' al' n' hσ' A' p => by
    obtain ⟨μ2, g, p⟩ := p
    obtain ⟨G1, A1, n1⟩ := g G' H' al' A'
    exact hD.nx σ' ρ' μ2 G1 H' al' (n'.trans n1) (hσ'.nx n1) A1 p, hD.rt, hD.bk, hD.ct⟩
end
theorem rpf_own {K : PySem.W.Frag} {G : Hp} {al : List Addr} {a : Addr} {j : Nat} {d : D} {f : Str} (ha : al[j]? = some a) (r : Rp K G al (.ref a) d) : ∀ {gs : List (Str × D)} {fs : List (Str × V)}, Rpf K G al fs gs → gs.lookup f = some (.own j) → Rpf K G al fs (putD f d gs)
  | [], _, _, e => by simp at e
  | (g, x) :: gs, _, h, e => by
    cases h with
    | @cons _ v vs _ _ r0 t =>
      unfold putD
      rw [List.lookup_cons] at e
      split
      · rename_i hg
        subst hg
        simp at e
        subst e
        cases r0 with
        | own e2 => rw [ha] at e2; cases e2; exact .cons r t
      · rename_i hg
        have hg2 : (f == g) = false := by simp; exact fun e => hg e.symm
        rw [hg2] at e
        exact .cons r0 (rpf_own ha r t e)
/-- a list in a field is frozen -/
theorem gh_fld {K : PySem.W.Frag} {μ : Mu} {k j : Nat} {C : Addr} {gs : List (Str × D)} {f : Str} {ds : List D} (hk : μ[k]? = some (.ins C gs)) (hl : gs.lookup f = some (.own j)) (hj : μ[j]? = some (.lst ds)) : Gh K μ ((μ.set j .dead).set k (.ins C (putD f (.lst ds) gs))) := fun G H al A => by
  obtain ⟨a, ha, ga, vs, hv, rs⟩ := A.get hj
  obtain ⟨A1, n1⟩ := A.freeze ha hv ga
  have hjk : j ≠ k := fun e => by rw [e, hk] at hj; cases hj
  have hk1 : (μ.set j .dead)[k]? = some (.ins C gs) := by rw [List.getElem?_set_ne hjk]; exact hk
  obtain ⟨b, hb, gb, dx, fs, hfs, rf⟩ := A1.get hk1
  have r2 : Rp K (upd G a (.lst vs)) al (.ref a) (.lst ds) := .lst upd_same (rs.nx n1)
  have hup : upd H b (.ins C dx fs) = H := by
    funext z
    by_cases hz : z = b
    · subst hz; rw [upd_same, hfs]
    · rw [upd_ne hz]
  obtain ⟨A2, n2⟩ := A1.put (o := .ins C dx fs) (m' := .ins C (putD f (.lst ds) gs)) hb hk1 (by simp) ⟨gb, dx, fs, upd_same, rpf_own ha r2 rf hl⟩
  rw [hup] at A2 n2
  exact ⟨_, A2, n1.trans n2⟩
theorem atNN {α : Type} {xs : List α} {i : Int} (h0 : 0 ≤ i) (h1 : i < xs.length) : ∃ x, atI xs i = some x ∧ xs[i.toNat]? = some x := by
  have h : i.toNat < xs.length := by omega
  refine ⟨xs[i.toNat], ?_, List.getElem?_eq_getElem h⟩
  have e : ((i.toNat : Nat) : Int) = i := by omega
  have := atI_nat (List.getElem?_eq_getElem h)
  rw [e] at this
  exact this
theorem log2S {m : Int} (h0 : 0 < m) (h : m < 2 ^ 200) : m.natAbs.log2 < 9000 := by
  have h1 : m.natAbs < 2 ^ 200 := by omega
  have : m.natAbs.log2 < 200 := (Nat.log2_lt (by omega)).mpr h1
  omega
end Dl
set_option Elab.async false
set_option linter.all false
set_option maxRecDepth 100000
/-! sets of any number of texts: how many there are -/
namespace L2
open PySem PySem.Spec PyProof.Rows
end L2
set_option Elab.async false
set_option linter.all false
set_option maxRecDepth 100000
namespace L2
open PySem
end L2
namespace Dl
open PySem L2 PyProof.Rows
section
variable {K : PySem.W.Frag} {B : Bs} {ρ : En} {μ : Mu} {P : D → Mu → Prop} {te : TE} {x y : D} {ds : List D} {i j : Int}
/-- is None -/
def IsNP (x : D) (Q : Bool → Prop) : Prop := ∃ b, (b = true ↔ x = .non) ∧ Q b
theorem de_isNZ (h : DE K B te ρ μ fun x μ1 => IsNP x fun b => P (.bl b) μ1) : DE K B (tIsN te) ρ μ P := de_isN h
theorem de_notNZ (h : DE K B te ρ μ fun x μ1 => IsNP x fun b => P (.bl (!b)) μ1) : DE K B (tNotN te) ρ μ P := de_notN h
theorem np_t {Q : Bool → Prop} (h : Q true) : IsNP .non Q := ⟨true, by simp, h⟩
theorem np_f {Q : Bool → Prop} (hx : x ≠ .non) (h : Q false) : IsNP x Q := ⟨false, by simp [hx], h⟩
theorem np_int {Q : Bool → Prop} {i : Int} (h : Q false) : IsNP (.int i) Q := np_f (by simp) h
theorem np_bl {Q : Bool → Prop} {i : Bool} (h : Q false) : IsNP (.bl i) Q := np_f (by simp) h
theorem np_str {Q : Bool → Prop} {i : Str} (h : Q false) : IsNP (.str i) Q := np_f (by simp) h
theorem np_lst {Q : Bool → Prop} {i : List D} (h : Q false) : IsNP (.lst i) Q := np_f (by simp) h
theorem np_tup {Q : Bool → Prop} {i : List D} (h : Q false) : IsNP (.tup i) Q := np_f (by simp) h
theorem np_own {Q : Bool → Prop} {i : Nat} (h : Q false) : IsNP (.own i) Q := np_f (by simp) h
theorem np_obj {Q : Bool → Prop} {C : Addr} {gs : List (Str × D)} (h : Q false) : IsNP (.obj C gs) Q := np_f (by simp) h
end
/-! ### names -/
def letters : List Nat := (List.range 26).map (· + 97)
def nameOk (s : Str) : Prop := 1 ≤ s.length ∧ s.length ≤ 8 ∧ ∀ c ∈ s.cps.toList, c ∈ letters
instance (s : Str) : Decidable (nameOk s) := by unfold nameOk; infer_instance
theorem nameOk.strOk {s : Str} (h : nameOk s) : PyData.strOk s = true := by
  unfold PyData.strOk
  rw [← Array.all_toList, List.all_eq_true]
  intro c hc
  have := h.2.2 c hc
  unfold letters at this
  obtain ⟨i, hi, rfl⟩ := List.mem_map.mp this
  have := List.mem_range.mp hi
  simp; omega
end Dl
set_option Elab.async false
set_option linter.all false
set_option maxRecDepth 100000
/-! range of numbers of any size -/
namespace Dl
open PySem L2 PyProof.Rows
section
variable {X : Cx} {tg : Expr}
def iRng2W (ta : TA) : TI := fun σ H R => ta σ H fun vs H1 => ∃ i j : Int, vs = [.int i, .int j] ∧ R (Itr i (j - i).toNat) H1
end
section
variable {K : PySem.W.Frag} {B : Bs} {ρ : En} {μ : Mu} {ts : TA} {PI' : List D → (Mu → Prop) → Mu → Prop}
theorem di_range2W (h : DA K B ts ρ μ fun xs μ1 => ∃ lo n : Int, xs = [.int lo, .int n] ∧ PI' (rangeD lo (n - lo).toNat) (fun _ => True) μ1) : DI K B (iRng2W ts) ρ μ PI' := fun σ G H al hB hσ hA R hR =>
  h σ G H al hB hσ hA _ fun vs ds μ1 G1 H1 al1 n1 A1 r1 p1 => by
    obtain ⟨lo, n, rfl, p⟩ := p1
    obtain ⟨v, w, rfl, q1, q2⟩ := rps2 r1
    cases q1; cases q2
    exact ⟨lo, n, rfl, hR _ _ _ μ1 G1 H1 al1 n1 A1 itr_ok p⟩
end
end Dl
set_option Elab.async false
set_option linter.all false
set_option maxRecDepth 100000
namespace Dl
open PySem L2 PyProof.Rows
section
variable {K : PySem.W.Frag} {B : Bs} {ρ : En} {μ : Mu} {ts : TA} {u : TS} {x y z : D}
def Three (ds : List D) (F : D → D → D → Prop) : Prop := ∃ x y z, ds = [x, y, z] ∧ F x y z
theorem three_i {F : D → D → D → Prop} (h : F x y z) : Three [x, y, z] F := ⟨x, y, z, rfl, h⟩
theorem ds_par3 {i j l : Nat} {P : DEnds} (h : DA K B ts ρ μ fun ds μ1 => Three ds fun x y z => P.nx (((ρ.set i (some x)).set j (some y)).set l (some z)) μ1) : DS K B (tPar3 i j l ts) ρ μ P := fun σ G H al hB hσ hA De hD =>
  h σ G H al hB hσ hA _ fun vs ds μ1 G1 H1 al1 n1 A1 r1 p1 => by
    obtain ⟨x, y, z, rfl, p⟩ := p1
    obtain ⟨v, ws, rfl, rx, r2⟩ := rps_cons r1
    obtain ⟨w, u, rfl, ry, rz⟩ := rps2 r2
    exact ⟨_, _, _, rfl, hD.nx _ _ μ1 G1 H1 al1 n1 ((((hσ.nx n1).set i rx).set j ry).set l rz) A1 p⟩
theorem q_par3 {i j l : Nat} {P : DEnds} (h : DA K B ts ρ μ fun ds μ1 => Three ds fun x y z => DS K B u (((ρ.set i (some x)).set j (some y)).set l (some z)) μ1 P) : DS K B (tSeq (tPar3 i j l ts) u) ρ μ P := ds_seq (ds_par3 h)
theorem ro_eqNI {i : Int} {P : D → Mu → Prop} (h : P (.bl false) μ) : RO K (rEqD K) .non (.int i) μ P := ro_eqD (n := 0) (m := 0) (.id _) (.id _) rfl rfl (by rw [show eqvD .non (.int i) = false by simp only [eqvD, D.py, PyData.eqv]]; exact h)
end
end Dl
set_option Elab.async false
set_option linter.all false
set_option maxRecDepth 100000
/-! dicts with keys ints and texts -/
namespace Dl
open PySem L2
def keyD : Key → D
  | .inl i => .int i
  | .inr s => .str s
def valD (kvs : List (Key × D)) (k : Key) : Option D := (kvs.find? fun kv => decide (kv.1 = k)).map (·.2)
def putKD (kvs : List (Key × D)) (k : Key) (v : D) : List (Key × D) :=
  if (kvs.any fun kv => decide (kv.1 = k)) = true then kvs.map (fun kv => if kv.1 = k then (kv.1, v) else kv) else kvs ++ [(k, v)]
theorem rp_key {K : PySem.W.Frag} {G : Hp} {al : List Addr} {v : V} {k : Key} (h : Rp K G al v (keyD k)) : v = kV k := by
  cases k with
  | inl i => cases h; rfl
  | inr s => cases h; rfl
section
variable {K : PySem.W.Frag} {G H : Hp} {al : List Addr}
theorem Rpk.val : ∀ {gs : List (Key × D)} {kvs : List (Key × V)}, Rpk K G al kvs gs → ∀ k, (∀ d, valD gs k = some d → ∃ v, valV kvs k = some v ∧ Rp K G al v d) ∧ (valD gs k = none → valV kvs k = none)
  | [], _, h, k => by cases h; exact ⟨fun d e => (by cases e), fun _ => rfl⟩
  | (f, x) :: gs, _, h, k => by
    cases h with
    | @cons f v vs d ds r t =>
      have ih := t.val k
      by_cases e : f = k
      · refine ⟨fun d' e' => ?_, fun e' => ?_⟩
        · simp [valD, List.find?_cons, e] at e'
          subst e'
          exact ⟨v, valV_pos e, r⟩
        · simp [valD, List.find?_cons, e] at e'
      · have e1 : valD ((f, x) :: gs) k = valD gs k := by simp [valD, List.find?_cons, e]
        rw [e1, valV_neg (p := (f, v)) e]
        exact ih
theorem Rpk.any : ∀ {gs : List (Key × D)} {kvs : List (Key × V)}, Rpk K G al kvs gs → ∀ k, (kvs.any fun kv => decide (kv.1 = k)) = (gs.any fun kv => decide (kv.1 = k))
  | [], _, h, k => by cases h; rfl
  | (f, x) :: gs, _, h, k => by
    cases h with
    | cons r t => simp only [List.any_cons, t.any k]
theorem Rpk.append : ∀ {gs fs : List (Key × D)} {kvs ls : List (Key × V)}, Rpk K G al kvs gs → Rpk K G al ls fs → Rpk K G al (kvs ++ ls) (gs ++ fs)
  | [], _, _, _, h, h' => by cases h; exact h'
  | _ :: _, _, _, _, h, h' => by cases h with | cons r t => exact .cons r (t.append h')
theorem Rpk.repl {k : Key} {v : V} {d : D} (r : Rp K G al v d) : ∀ {gs : List (Key × D)} {kvs : List (Key × V)}, Rpk K G al kvs gs → Rpk K G al (kvs.map fun kv => if kv.1 = k then (kv.1, v) else kv) (gs.map fun kv => if kv.1 = k then (kv.1, d) else kv)
  | [], _, h => by cases h; exact .nil
  | (f, x) :: gs, _, h => by
    cases h with
    | cons r' t =>
      simp only [List.map_cons]
      by_cases e : f = k
      · rw [if_pos e, if_pos e]; exact .cons r (t.repl r)
      · rw [if_neg e, if_neg e]; exact .cons r' (t.repl r)
theorem Rpk.put {gs : List (Key × D)} {kvs : List (Key × V)} (h : Rpk K G al kvs gs) (k : Key) {v : V} {d : D} (r : Rp K G al v d) : Rpk K G al (putK kvs k v) (putKD gs k d) := by
  unfold putK putKD
  rw [h.any k]
  split
  · exact h.repl r
  · exact h.append (.cons r .nil)
theorem Rpk.length : ∀ {gs : List (Key × D)} {kvs : List (Key × V)}, Rpk K G al kvs gs → kvs.length = gs.length
  | [], _, h => by cases h; rfl
  | _ :: _, _, h => by cases h with | cons _ t => simp [t.length]
end
/-- a dict as it stands -/
inductive Dt (μ : Mu) : D → List (Key × D) → Prop
  | dct (gs : List (Key × D)) : Dt μ (.dct gs) gs
  | own {k : Nat} {gs : List (Key × D)} (h : μ[k]? = some (.dK gs)) : Dt μ (.own k) gs
theorem Dt.get {K : PySem.W.Frag} {G H : Hp} {al : List Addr} {μ : Mu} {v : V} {d : D} {gs : List (Key × D)} (h : Dt μ d gs) (A : As K G H al μ) (r : Rp K G al v d) : ∃ a kvs, v = .ref a ∧ Rd H a (.dK kvs) ∧ Rpk K G al kvs gs := by
  cases h with
  | dct => cases r with | dct e rs => exact ⟨_, _, rfl, rd_mono A.sub e, rs⟩
  | own hk =>
    obtain ⟨a, ha, ga, vs, hv, rs⟩ := A.get hk
    cases r with
    | own e => rw [ha] at e; cases e; exact ⟨_, vs, rfl, .inl hv, rs⟩
section
variable {K : PySem.W.Frag} {B : Bs} {ρ : En} {μ : Mu} {td ty tv tx : TE} {P : D → Mu → Prop} {u : TS}
def DGetP (μ : Mu) (x y : D) (F : D → Prop) : Prop := ∃ gs k d, Dt μ x gs ∧ y = keyD k ∧ valD gs k = some d ∧ F d
def DInP (μ : Mu) (x y : D) (F : Bool → Prop) : Prop := ∃ gs k, Dt μ x gs ∧ y = keyD k ∧ F (valD gs k).isSome
theorem dgp_s {x d : D} {gs : List (Key × D)} {s : Str} {F : D → Prop} (h : Dt μ x gs) (e : valD gs (.inr s) = some d) (f : F d) : DGetP μ x (.str s) F := ⟨gs, .inr s, d, h, rfl, e, f⟩
theorem Rpk.isSome {G : Hp} {al : List Addr} {gs : List (Key × D)} {kvs : List (Key × V)} (h : Rpk K G al kvs gs) (k : Key) : (valV kvs k).isSome = (valD gs k).isSome := by
  cases q : valD gs k with
  | none => rw [(h.val k).2 q]; rfl
  | some d =>
    obtain ⟨v, e, _⟩ := (h.val k).1 d q
    rw [e]; rfl
theorem dget_k {H : Hp} {a : Addr} {kvs : List (Key × V)} {k : Key} (e : Rd H a (.dK kvs)) : DGet H a (kV k) (valV kvs k) := .inl ⟨kvs, k, e, rfl, rfl⟩
theorem de_dget (h : DE K B td ρ μ fun x μ1 => DE K B ty ρ μ1 fun y μ2 => DGetP μ2 x y fun d => P d μ2) : DE K B (tDGet td ty) ρ μ P := fun σ G H al hB hσ hA Q hQ =>
  h σ G H al hB hσ hA _ fun vx x μ1 G1 H1 al1 n1 A1 r1 p1 => p1 σ G1 H1 al1 (hB.trans n1) (hσ.nx n1) A1 _ fun vy y μ2 G2 H2 al2 n2 A2 r2 p2 => by
    obtain ⟨gs, k, d, dt, rfl, e, p⟩ := p2
    obtain ⟨a, kvs, rfl, ha, rk⟩ := dt.get A2 (r1.nx n2)
    obtain rfl := rp_key r2
    obtain ⟨v, ev, rv⟩ := (rk.val k).1 d e
    exact ⟨a, v, rfl, by rw [← ev]; exact dget_k ha, hQ v d μ2 G2 H2 al2 (n1.trans n2) A2 rv p⟩
theorem de_din (h : DE K B ty ρ μ fun y μ1 => DE K B td ρ μ1 fun x μ2 => DInP μ2 x y fun b => P (.bl b) μ2) : DE K B (tDIn ty td) ρ μ P := fun σ G H al hB hσ hA Q hQ =>
  h σ G H al hB hσ hA _ fun vy y μ1 G1 H1 al1 n1 A1 r1 p1 => p1 σ G1 H1 al1 (hB.trans n1) (hσ.nx n1) A1 _ fun vx x μ2 G2 H2 al2 n2 A2 r2 p2 => by
    obtain ⟨gs, k, dt, rfl, p⟩ := p2
    obtain ⟨a, kvs, rfl, ha, rk⟩ := dt.get A2 r2
    obtain rfl := rp_key r1
    refine ⟨a, _, rfl, dget_k ha, ?_⟩
    rw [rk.isSome k]
    exact hQ _ _ μ2 G2 H2 al2 (n1.trans n2) A2 (.bl _) p
theorem de_dnin (h : DE K B ty ρ μ fun y μ1 => DE K B td ρ μ1 fun x μ2 => DInP μ2 x y fun b => P (.bl (!b)) μ2) : DE K B (tDNotIn ty td) ρ μ P := fun σ G H al hB hσ hA Q hQ =>
  h σ G H al hB hσ hA _ fun vy y μ1 G1 H1 al1 n1 A1 r1 p1 => p1 σ G1 H1 al1 (hB.trans n1) (hσ.nx n1) A1 _ fun vx x μ2 G2 H2 al2 n2 A2 r2 p2 => by
    obtain ⟨gs, k, dt, rfl, p⟩ := p2
    obtain ⟨a, kvs, rfl, ha, rk⟩ := dt.get A2 r2
    obtain rfl := rp_key r1
    refine ⟨a, _, rfl, dget_k ha, ?_⟩
    rw [rk.isSome k]
    exact hQ _ _ μ2 G2 H2 al2 (n1.trans n2) A2 (.bl _) p
/-! ### displays -/
/-! ### freezing -/
end
end Dl
set_option Elab.async false
set_option linter.all false
set_option maxRecDepth 100000
/-! min(xs, default=d) -/
set_option Elab.async false
set_option linter.all false
set_option maxRecDepth 100000
set_option Elab.async false
set_option linter.all false
set_option maxRecDepth 100000
namespace Dl
open PySem L2
def rAbs : List V → Hp → VK → Prop := fun xs H Q => ∃ i, xs = [.int i] ∧ Q (.int (if i < 0 then -i else i)) H
section
variable {K : PySem.W.Frag} {μ : Mu} {P : D → Mu → Prop} {i : Int} {d : D} {ds : List D}
theorem rc_abs (h : P (.int (i.natAbs : Int)) μ) : RC K rAbs [.int i] μ P := fun G H al vs A r Q hQ => by
  obtain ⟨v, rfl, r1⟩ := rps1 r
  cases r1
  refine ⟨i, rfl, ?_⟩
  rw [show (if i < 0 then -i else i) = (i.natAbs : Int) by split <;> omega]
  exact hQ.now A (.int _) h
end
end Dl
set_option Elab.async false
set_option linter.all false
set_option maxRecDepth 100000
/-! a def called through its class, C.m(..); a head with more facts -/
namespace Dl
open PySem L2 PyProof.Rows
/-! ### the head, with more facts -/
abbrev AlX : Type := He.AlD × Bool
def exAll (ex : List (PySem.W.Frag → Bool)) (K : PySem.W.Frag) : Bool := ex.all fun e => e K
theorem exAll_at {ex : List (PySem.W.Frag → Bool)} {K : PySem.W.Frag} (h : exAll ex K = true) (i : Nat) {e : PySem.W.Frag → Bool} (he : ex[i]? = some e := by rfl) : e K = true := List.all_eq_true.mp h e (List.mem_of_getElem? he)
end Dl
set_option Elab.async false
set_option linter.all false
set_option maxRecDepth 100000
/-! list(range(a, b)) of numbers of any size -/
set_option Elab.async false
set_option linter.all false
set_option maxRecDepth 100000
/-! int of a truth value; isinstance of own classes: what of the head it wants -/
namespace Dl
open PySem L2 PyProof.Rows
def obtB (x : Str) (K : PySem.W.Frag) : Bool := He.eqO (PySem.W.findIn K (.ref (He.ga K x)) "__class__") (some (some (.builtin "object.__class__"))) && (He.eqO (PySem.W.specialIn K (.builtin "object.__class__") "__get__") (some (some (.builtin "getset_descriptor.__get__"))) &&
  (decide (PySem.W.takesIn K (.builtin "object.__class__") = some true) && decide (PySem.W.mroIn K (He.ga K x) (.type "object") = some true)))
theorem obtB_ok {K : PySem.W.Frag} {x : Str} (c : Cls K (He.ga K x)) (h : obtB x K = true) : ObT K (He.ga K x) := by
  unfold obtB at h
  obtain ⟨h1, h2⟩ := He.ba h
  obtain ⟨h3, h4⟩ := He.ba h2
  obtain ⟨h5, h6⟩ := He.ba h4
  exact ⟨c, He.eqO_ok h1, He.eqO_ok h3, of_decide_eq_true h5, of_decide_eq_true h6⟩
def isB (x y : Str) (b : Bool) (K : PySem.W.Frag) : Bool := decide (PySem.W.kitOne K (.ref (He.ga K x)) (.ref (He.ga K y)) = some b)
theorem isB_ok {K : PySem.W.Frag} {x y : Str} {b : Bool} (h : isB x y b K = true) : PySem.W.kitOne K (.ref (He.ga K x)) (.ref (He.ga K y)) = some b := of_decide_eq_true h
end Dl
set_option Elab.async false
set_option linter.all false
set_option maxRecDepth 100000
/-! sorted(set(xs)) of a list of ints -/
set_option Elab.async false
set_option linter.all false
set_option maxRecDepth 100000
/-! list.count of texts; slices stored; dict(pairs), d.get(k, x) -/
set_option Elab.async false
set_option linter.all false
set_option Elab.async false
set_option linter.all false
set_option maxRecDepth 100000
set_option maxHeartbeats 2000000
/-! exceptions that are caught and kept as values -/
namespace PySem.W
open PySem PySem.Spec PySem.Calls PyProof.Rows
end PySem.W
namespace Dl
open PySem PySem.Spec PyProof.Rows L2
/-- e.n, e a caught exception -/
def tXfK (K : PySem.W.Frag) (n : Str) (te : TE) : TE := fun σ H Q => te σ H fun x H1 => ∃ (a C dx : Addr) (fs : List (Str × V)) (v : V), x = .ref a ∧ H1 a = some (ExV (.ref C) (some dx) a) ∧ H1 dx = some (.xd fs) ∧ XfC K C ∧ PySem.W.findIn K (.ref C) n = some none ∧ fs.lookup n = some v ∧ Q v H1
end Dl
set_option Elab.async false
set_option linter.all false
set_option maxRecDepth 100000
set_option maxHeartbeats 2000000
/-! exceptions over data: raised with fields, caught, looked at -/
namespace Dl
open PySem PySem.Spec PyProof.Rows L2
/-! ### raise C(e, ..), C's own __init__ -/
/-! ### try -/
abbrev PWT := Addr → List (Str × D) → En → Mu → Prop
section
variable {K : PySem.W.Frag} {B : Bs} {ρ : En} {μ : Mu} {te ta : TE} {ts : TA} {P : D → Mu → Prop} {PW : PWT} {W : WX} {C : CT} {dvs : List V} {dds : List D}
/-! ### isinstance, fields -/
theorem de_xf {n : Str} (h : DE K B te ρ μ fun x μ1 => ∃ Cc gs d, x = .exc Cc gs ∧ XfC K Cc ∧ PySem.W.findIn K (.ref Cc) n = some none ∧ gs.lookup n = some d ∧ P d μ1) : DE K B (tXfK K n te) ρ μ P := fun σ G H al hB hσ hA Q hQ =>
  h σ G H al hB hσ hA _ fun v x μ1 G1 H1 al1 n1 A1 r1 p1 => by
    obtain ⟨Cc, gs, d, rfl, hx, hn, hl, p⟩ := p1
    cases r1 with
    | exc e hd rf =>
      obtain ⟨w, lw, rw'⟩ := rf.look hl
      rcases hd with ⟨rfl, rfl⟩ | ⟨dx, rfl, hd⟩
      · cases lw
      · exact ⟨_, Cc, dx, _, w, rfl, A1.sub _ _ e, A1.sub _ _ hd, hx, hn, lw, hQ _ _ μ1 _ _ _ n1 A1 rw' p⟩
end
/-! ### what the text says of the refusals -/
/-- fields of a refusal -/
structure KXf (K : PySem.W.Frag) (x : Str) (fs : List Str) : Prop where
  xf : XfC K (He.ga K x)
  no : ∀ f ∈ fs, PySem.W.findIn K (.ref (He.ga K x)) f = some none
  ox : OexC K (He.ga K x)
end Dl
set_option Elab.async false
set_option linter.all false
set_option maxRecDepth 100000
/-! small rules: exceptions and None, == of texts -/
namespace Dl
open PySem L2 PyProof.Rows
section
variable {K : PySem.W.Frag} {B : Bs} {ρ : En} {μ : Mu} {te : TE} {P : D → Mu → Prop}
theorem np_exc {Q : Bool → Prop} {C : Addr} {gs : List (Str × D)} (h : Q false) : IsNP (.exc C gs) Q := np_f (by simp) h
theorem ro_eqS {i j : Str} (h1 : PyData.strOk i = true) (h2 : PyData.strOk j = true) (h : P (.bl (decide (i = j))) μ) : RO K (rEqD K) (.str i) (.str j) μ P := ro_eqD (n := 0) (m := 0) (.id _) (.id _) h1 h2 (by rw [eqvD_str]; exact h)
theorem ro_neS {i j : Str} (h1 : PyData.strOk i = true) (h2 : PyData.strOk j = true) (h : P (.bl (!decide (i = j))) μ) : RO K (rNeD K) (.str i) (.str j) μ P := ro_neD (n := 0) (m := 0) (.id _) (.id _) h1 h2 (by rw [eqvD_str]; exact h)
theorem ro_eqSS {i : Str} (h1 : PyData.strOk i = true) (h : P (.bl true) μ) : RO K (rEqD K) (.str i) (.str i) μ P := ro_eqS h1 h1 (by simpa using h)
theorem ro_neSS {i : Str} (h1 : PyData.strOk i = true) (h : P (.bl false) μ) : RO K (rNeD K) (.str i) (.str i) μ P := ro_neS h1 h1 (by simpa using h)
theorem ro_eqSd {i j : Str} (h1 : PyData.strOk i = true) (h2 : PyData.strOk j = true) (hn : i ≠ j) (h : P (.bl false) μ) : RO K (rEqD K) (.str i) (.str j) μ P := ro_eqS h1 h2 (by simpa [hn] using h)
theorem ro_neSd {i j : Str} (h1 : PyData.strOk i = true) (h2 : PyData.strOk j = true) (hn : i ≠ j) (h : P (.bl true) μ) : RO K (rNeD K) (.str i) (.str j) μ P := ro_neS h1 h2 (by simpa [hn] using h)
/-- fields of a caught exception -/
def XfP (K : PySem.W.Frag) (n : Str) (x : D) (Q : D → Prop) : Prop := ∃ Cc gs d, x = .exc Cc gs ∧ XfC K Cc ∧ PySem.W.findIn K (.ref Cc) n = some none ∧ gs.lookup n = some d ∧ Q d
theorem de_xfZ {n : Str} (h : DE K B te ρ μ fun x μ1 => XfP K n x fun d => P d μ1) : DE K B (tXfK K n te) ρ μ P := de_xf h
theorem xf_i {n x : Str} {fs : List Str} {gs : List (Str × D)} {d : D} {Q : D → Prop} (k : KXf K x fs) (hn : n ∈ fs) (hl : gs.lookup n = some d) (h : Q d) : XfP K n (.exc (He.ga K x) gs) Q := ⟨_, _, _, rfl, k.xf, k.no _ hn, hl, h⟩
end
end Dl
set_option Elab.async false
set_option linter.all false
set_option maxRecDepth 100000
/-! range downwards -/
set_option Elab.async false
set_option linter.all false
set_option maxRecDepth 100000
/-! tuple(x), a number in a tuple, list(dict) -/
set_option Elab.async false
set_option linter.all false
set_option maxRecDepth 100000
set_option maxHeartbeats 2000000
/-! lambdas handed to a def -/
set_option Elab.async false
set_option linter.all false
set_option maxRecDepth 100000
set_option maxHeartbeats 2000000
/-! lambdas over data; the head and the end with tables -/
set_option Elab.async false
set_option linter.all false
set_option maxRecDepth 100000
/-! str(i) -/
set_option Elab.async false
set_option linter.all false
set_option maxRecDepth 100000
/-! x in l, items of any depth -/
set_option Elab.async false
set_option linter.all false
set_option maxRecDepth 100000
/-! the head's facts over a told list of objects -/
namespace Dl
open PySem L2 PyProof.Rows
def obsLG (as : List Addr) (fa : List He.Fa) (fn : List He.DefD) (ex : List (PySem.W.Frag → Bool)) (g : Addr → Option Obj) : AlX := (He.obsD fa fn (He.frG g as), exAll ex (He.frG g as))
def hookL (as : List Addr) (fa : List He.Fa) (fn : List He.DefD) (ex : List (PySem.W.Frag → Bool)) : PySem.W.Hook where
  α := AlX
  obs := fun s => obsLG as fa fn ex s.heap.get?
  val := fun _ => (He.valD fn, true)
  says := fun _ h => ∃ K : PySem.W.Frag, K.In h ∧ He.SaysD fa fn K ∧ exAll ex K = true
  of := fun _ _ e => ⟨_, He.frG_in, congrArg Prod.fst e, congrArg Prod.snd e⟩
  keeps := fun _ _ _ ⟨K, hK, c⟩ k => ⟨K, PySem.W.Frag.In.keeps hK k, c⟩
theorem obsLG_eq {as : List Addr} {fa : List He.Fa} {fn : List He.DefD} {ex : List (PySem.W.Frag → Bool)} {g : Addr → Option Obj} {s : Shared} (h : ∀ a, g a = s.heap.get? a) : obsLG as fa fn ex g = (hookL as fa fn ex).obs s := by
  have e : g = s.heap.get? := funext h
  rw [e] <;> rfl
/-! with tables -/
/-! ### the run, looked at thrice -/
open PySem.W PySem.Calls HandSHeadRun in
def RunA (r : OpenRow) (w : World) : Prop := ∀ os : OsState, (endF (stepQ (denQ tabQ) r.prog w) 20000 r.prog w os).map (fun s => looksF r.prog (boot_heap w.params) s.abs) = some true
open PySem.W PySem.Calls HandSHeadRun in
def RunB (r : OpenRow) (q : Program) (loose : List PySem.Str) (w : World) : Prop := ∀ os : OsState, (endF (stepQ (denQ tabQ) r.prog w) 20000 r.prog w os).map (fun s => seenQ q loose (importedModules r.prog.main.body) (fun s => xlAt q [] s && recOk r.toRowW.records s) s.abs) = some (openGood q loose)
open PySem.W PySem.Calls HandSHeadRun in
def RunC (r : OpenRow) (H : Hook) (ob : SharedT → H.α) (w : World) : Prop := ∀ os : OsState, (endF (stepQ (denQ tabQ) r.prog w) 20000 r.prog w os).map ob = some (H.val w)
theorem map3 {α β γ δ : Type} {E : Option α} {f : α → β} {g : α → γ} {k : α → δ} {a : β} {b : γ} {c : δ} (h1 : E.map f = some a) (h2 : E.map g = some b) (h3 : E.map k = some c) : E.map (fun s => (f s, g s, k s)) = some (a, b, c) := by
  cases E with
  | none => cases h1
  | some s =>
    cases h1
    cases h2
    cases h3
    rfl
open PySem.W PySem.Calls HandSHeadRun in
theorem run_of {r : OpenRow} {q : Program} {H : Hook} {ob : SharedT → H.α} {loose : List PySem.Str} {w : World} (a : RunA r w) (b : RunB r q loose w) (c : RunC r H ob w) : RunEq r q H ob 20000 loose w := fun os => map3 (a os) (b os) (c os)
/-! ### a slice as a target; room -/
end Dl
set_option Elab.async false
set_option linter.all false
set_option maxRecDepth 100000
/-! a dict that is walked stands locked for that time -/
namespace Dl
open PySem L2
/-- G2 is G1 but for locks of dicts -/
def Lk (G G' : Hp) : Prop := ∀ b o, G b = some o → G' b = some o ∨ ((∃ kvs, o = .dK kvs ∨ ∃ o', o = .frz o' (.dK kvs)) ∧ ∀ kvs, Rd G b (.dK kvs) → Rd G' b (.dK kvs))
section
variable {K : PySem.W.Frag} {G G' : Hp} {al al' : List Addr}
theorem Lk.plain (s : Lk G G') {b : Addr} {o : HO} (h : G b = some o) (n1 : ∀ kvs, o ≠ .dK kvs) (n2 : ∀ o' kvs, o ≠ .frz o' (.dK kvs)) : G' b = some o := by
  rcases s b o h with z | ⟨⟨kvs, z | ⟨o', z⟩⟩, _⟩
  · exact z
  · exact absurd z (n1 kvs)
  · exact absurd z (n2 o' kvs)
end
end Dl
set_option Elab.async false
set_option linter.all false
set_option maxRecDepth 100000
/-! Dl37: == and != of things of own classes, any answer -/
namespace Dl
open PySem L2 PyProof.Rows
/-- a class that has no != of its own -/
structure NeO (K : PySem.W.Frag) (C : Addr) : Prop where
  ne : PySem.W.findIn K (.ref C) "__ne__" = some (some (.builtin "object.__ne__"))
  ob : PySem.W.mroIn K C (.type "object") = some true
def neB (x : Str) (K : PySem.W.Frag) : Bool := He.eqO (PySem.W.findIn K (.ref (He.ga K x)) "__ne__") (some (some (.builtin "object.__ne__"))) && decide (PySem.W.mroIn K (He.ga K x) (.type "object") = some true)
theorem neB_ok {K : PySem.W.Frag} {x : Str} (h : neB x K = true) : NeO K (He.ga K x) := by
  unfold neB at h
  obtain ⟨h1, h2⟩ := He.ba h
  exact ⟨He.eqO_ok h1, of_decide_eq_true h2⟩
/-- what == of a class asks: things of the class, numbers, lists, tuples -/
structure KEq (K : PySem.W.Frag) (x : Str) : Prop where
  ob : ObT K (He.ga K x)
  is : PySem.W.kitOne K (.ref (He.ga K x)) (.ref (He.ga K x)) = some true
  no : ∀ n ∈ (["int", "list", "tuple"] : List String), PySem.W.kitOne K (.type n) (.ref (He.ga K x)) = some false ∧ PySem.W.notFirst K (He.ga K x) (.type n) = true
def keqB (x : Str) (K : PySem.W.Frag) : Bool := obtB x K && (isB x x true K && (["int", "list", "tuple"] : List String).all fun n => decide (PySem.W.kitOne K (.type n) (.ref (He.ga K x)) = some false) && PySem.W.notFirst K (He.ga K x) (.type n))
theorem keqB_ok {K : PySem.W.Frag} {x : Str} (c : Cls K (He.ga K x)) (h : keqB x K = true) : KEq K x := by
  unfold keqB at h
  obtain ⟨h1, h2⟩ := He.ba h
  obtain ⟨h3, h4⟩ := He.ba h2
  refine ⟨obtB_ok c h1, isB_ok h3, fun n hn => ?_⟩
  have := List.all_eq_true.mp h4 n hn
  obtain ⟨a, b⟩ := He.ba this
  exact ⟨of_decide_eq_true a, b⟩
theorem KEq.nf {K : PySem.W.Frag} {x : Str} (k : KEq K x) : PySem.W.notFirst K (He.ga K x) (.ref (He.ga K x)) = true := by simp [PySem.W.notFirst]
/-- x == y by the own == of the class at C -/
def rEqO (K : PySem.W.Frag) (C : Addr) (sp : Sp) (E : XK) : R2 := fun x y H Q => ∃ a dx fs tb, x = .ref a ∧ H a = some (.ins C dx fs) ∧ TyX K H y tb ∧ PySem.W.notFirst K C tb = true ∧ sp [x, y] H (fun z H' => ∃ b, z = .bl b ∧ Q (.bl b) H') E
def rNeO (K : PySem.W.Frag) (C : Addr) (sp : Sp) (E : XK) : R2 := fun x y H Q => ∃ a dx fs tb, x = .ref a ∧ H a = some (.ins C dx fs) ∧ TyX K H y tb ∧ PySem.W.notFirst K C tb = true ∧ sp [x, y] H (fun z H' => ∃ b, z = .bl b ∧ Q (.bl (!b)) H') E
section
variable {prog : Program} {w : World} {A : Around} {E : Value → Shared → Prop} {s : Shared} {K : PySem.W.Frag} {x C L f : Addr} {h₀ : Heap} {m : Str → Option Value} {ox : Obj} {od : Option Obj} {b tb : Value}
/-- the slot of object is found and called -/
theorem bound_ne {M : Model} {args : List Value} {Q : Option Value → Shared → Prop} (X : K.In s.heap) (I : PySem.W.InstAt s.heap x ox C od) (hs : PySem.W.findIn K (.ref C) "__ne__" = some (some (.builtin "object.__ne__")))
    (h : wpAny M A (call (.builtin "object.__ne__") (.ref x :: args)) (fun v => Q (some v)) E s) : wpAny M A (callSpecialIfBound? (.ref x) "__ne__" args) Q E s := by
  simp only [callSpecialIfBound?, bindSpecialIfBound?]
  refine wpAny_holding (wpAny_bind (wpAny_bind (wpAny_bind (I.type.here ((PySem.W.looks_findIn X hs).here ?_)))))
  refine wpAny_bind (wpAny_askSetting (wpAny_ite ?_))
  simp only [F.cmp_object.ne.bind]
  have fin : wpAny M A (call (.builtin "object.__ne__") ([.ref x] ++ args) >>= fun v => pure (some v)) Q E s := wpAny_bind (wpAny_mono h (fun v s' h' => wpAny_pure h') fun _ _ h' => h')
  split
  · exact wpAny_bind (wpAny_pure (wpAny_pure (by exact fin)))
  · exact wpAny_tryCatch (wpAny_bind (wpAny_pure (wpAny_pure (by exact fin))))
theorem ne_body {Q : Fin → Shared → Prop} (hu : A.units < cLine) (X : K.In s.heap) (I : PySem.W.InstAt s.heap x ox C od) (hs : PySem.W.findIn K (.ref C) "__eq__" = some (some (.ref f))) (hf : PySem.W.isFn K (.ref f) = true)
    (h : wpAny (model prog w) A (call (.ref f) [.ref x, b]) (fun v s' => ∃ k, v = .bool k ∧ Q (.done (.ret (.bool (!k)))) s') E s) : wpAny (model prog w) A (Builtin.«object.__ne__» ⟨[.ref x, b], []⟩) Q E s := by
  unfold Builtin.«object.__ne__»
  repeat (first
    | with_reducible refine wpAny_cRoomFor hu ?_
    | (refine wpAny_bind (m := callSpecialIfBound? (.ref x) (Str.ofString "__eq__") [b])
        (PySem.W.ifBound_K X I hs hf (wpAny_mono h (fun r s' hr => by
          obtain ⟨k, rfl, hq⟩ := hr
          repeat (first | exact hq | exact wpAny_pure hq | exact wpAny_truthy_bool hq | (refine wpAny_bind (m := truthy (.bool _)) (wpAny_truthy_bool ?_)) | wp_step)) fun _ _ e => e)))
    | wp_step)
theorem cmp_ne {Q : Value → Shared → Prop} (hu : A.units < cLine) (hu1 : A.in1.units < cLine) (X : K.In s.heap) (I : PySem.W.InstAt s.heap x ox C od) (hb : PySem.W.Looks (model prog w) s.heap (typeOf b) tb) (hn : PySem.W.notFirst K C tb = true)
    (o : NeO K C) (hs : PySem.W.findIn K (.ref C) "__eq__" = some (some (.ref f))) (hf : PySem.W.isFn K (.ref f) = true)
    (h : wpAny (model prog w) A.in1 (call (.ref f) [.ref x, b]) (fun v s' => ∃ k, v = .bool k ∧ Q (.bool (!k)) s') E s) : wpAny (model prog w) A (richCompare .NotEq (.ref x) b) Q E s := by
  have one : wpAny (model prog w) A (tryCompare (.ref x) (cmpInfo .NotEq).2.1 b) (fun r s' => ∃ v, r = some v ∧ Q v s') E s := by
    unfold tryCompare
    refine wpAny_bind (bound_ne X I o.ne (wpAny_call (codeAny_call_builtin F.cmp_object.ne.plain F.cmpEntry_ne
      (PySem.W.check_slot F.cmpKind_ne F.cmpSplit_ne (I.type.andThen (PySem.W.looks_mroIn X o.ob)) (F.cmpArgs_ne _ _) (ne_body (A := A.in1) hu1 X I hs hf (wpAny_mono h (fun v s' hv => ?_) fun _ _ e => e))))))
    obtain ⟨k, rfl, hq⟩ := hv
    exact ⟨k, rfl, wpAny_pure ⟨_, rfl, hq⟩⟩
  unfold richCompare
  simp only [oneThing_ref]
  refine wpAny_holding (wpAny_bind (wpAny_cRoomFor hu ?_))
  refine wpAny_bind (I.type.here (wpAny_bind (hb.here ?_)))
  split
  · rename_i q
    have e : PySem.W.subIn K tb (.ref C) = some false := by
      rcases Bool.or_eq_true_iff.mp hn with e | e
      · rw [beq_iff_eq.mp e] at q; simp at q
      · exact beq_iff_eq.mp e
    refine wpAny_bind ((PySem.W.looks_subIn X e).here ?_)
    simp only [Bool.false_eq_true, if_false]
    refine wpAny_bind (wpAny_mono one (fun r s' z => ?_) fun _ _ e => e)
    obtain ⟨v, rfl, hq⟩ := z
    exact wpAny_pure hq
  · refine wpAny_bind (wpAny_pure ?_)
    simp only [Bool.false_eq_true, if_false]
    refine wpAny_bind (wpAny_mono one (fun r s' z => ?_) fun _ _ e => e)
    obtain ⟨v, rfl, hq⟩ := z
    exact wpAny_pure hq
end
section
variable {X : Cx} {CX : CXT} {C g : Addr} {n : Nat} {fd : FuncData} {ps : List Str} {sp : Sp} {E : XK}
theorem op_eqO (m : Meth X.K C "__eq__" g) (F : FnOk X.prog X.w X.K X.mg X.base CX n g fd ps sp) (hr : Room n X.A) (hb : Binds X.K fd ps []) (hx : Passes CX X E) : OpR X (compareOp .Eq) (rEqO X.K C sp E) := by
  intro pins s σ H x y v u Q I rx ry h
  obtain ⟨a, dx, fs, tb, rfl, ha, ty, hn, q⟩ := h
  cases (show v = Value.ref a from rx)
  obtain ⟨mA, J, _⟩ := ins_get I.hok ha
  obtain ⟨od, J, _⟩ := J.look
  obtain ⟨Pk, kit, hp, _⟩ := kit_of I ry ty
  obtain ⟨m', hF⟩ := I.fr
  show wpAny (model X.prog X.w) X.A (richCompare .Eq (.ref a) u) (EP X pins σ Q) X.xe s
  refine PySem.W.cmp_K (op := .Eq) (tb := tb) hr.units0 hF I.ok.mod.kin J (kit.ty _ _ I.kIn hp) hn m.at_ m.fn ?_
  refine wpAny_mono (run_fn (vs := [.ref a, y]) (dvs := []) F hr hb .nil hx I (.cons rfl (.cons ry .nil)) (show sp ([.ref a, y] ++ []) H _ E from q)) (fun w s' z => ?_) fun _ _ x => x
  obtain ⟨z', H', I', rz, b, rfl, qz⟩ := z
  cases (show w = Value.bool b from rz)
  exact ⟨.bl b, H', I', rfl, qz⟩
theorem op_neO (m : Meth X.K C "__eq__" g) (o : NeO X.K C) (F : FnOk X.prog X.w X.K X.mg X.base CX n g fd ps sp) (hr : Room (n + 1) X.A) (hb : Binds X.K fd ps []) (hx : Passes CX X E) : OpR X (compareOp .NotEq) (rNeO X.K C sp E) := by
  intro pins s σ H x y v u Q I rx ry h
  obtain ⟨a, dx, fs, tb, rfl, ha, ty, hn, q⟩ := h
  cases (show v = Value.ref a from rx)
  obtain ⟨mA, J, _⟩ := ins_get I.hok ha
  obtain ⟨od, J, _⟩ := J.look
  obtain ⟨Pk, kit, hp, _⟩ := kit_of I ry ty
  show wpAny (model X.prog X.w) X.A (richCompare .NotEq (.ref a) u) (EP X pins σ Q) X.xe s
  refine cmp_ne hr.units0 hr.in1.units0 I.kIn J (kit.ty _ _ I.kIn hp) hn o m.at_ m.fn ?_
  have r2 : Vals [V.ref a, y] [Value.ref a, u] := .cons rfl (.cons ry .nil)
  have hl := F.len _ _ _ _ q
  refine wpAny_call (codeAny_mono (F.run X.A.in1 X.stack s H ⟨[.ref a, u], []⟩ [.ref a, u] [.ref a, y] _ E hr.in1 I.env0.in1 (by
    have := hb s [.ref a, u] I.kIn (by simpa using hl)
    simpa using this) r2 q) fun r s' hq => ?_)
  cases r with
  | error e => exact hx pins σ H s e s' I hq
  | ok fl =>
    cases fl with
    | ret w =>
      obtain ⟨z', H', I', rz, b, rfl, qz⟩ := I.after hq
      cases (show w = Value.bool b from rz)
      exact ⟨b, rfl, .bl (!b), H', I', rfl, qz⟩
    | next => exact False.elim hq
    | brk => exact False.elim hq
    | cont => exact False.elim hq
end
section
variable {K : PySem.W.Frag} {μ : Mu} {P : D → Mu → Prop} {x y : D} {C : Addr} {gs : List (Str × D)} {tb : Value} {Ct : CT} {E : XK}
/-- a thing of the class at C -/
def InO (μ : Mu) (C : Addr) (x : D) : Prop := ∃ gs, x = .obj C gs ∨ ∃ k, x = .own k ∧ μ[k]? = some (.ins C gs)
theorem InO.get {G H : Hp} {al : List Addr} {v : V} (h : InO μ C x) (A : As K G H al μ) (r : Rp K G al v x) : ∃ a dx fs, v = .ref a ∧ H a = some (.ins C dx fs) := by
  obtain ⟨gs, rfl | ⟨k, rfl, hk⟩⟩ := h
  · cases r with
    | obj e rf => exact ⟨_, _, _, rfl, A.sub _ _ e⟩
  · obtain ⟨a, ha, ok⟩ := A.get hk
    cases r with
    | own e =>
      rw [ha] at e
      cases e
      obtain ⟨ga, dx, fs, hv, rf⟩ := ok
      exact ⟨_, _, _, rfl, hv⟩
theorem ro_eqO (hx : InO μ C x) (ht : TyDV K μ y tb) (hn : PySem.W.notFirst K C tb = true) (h : Ct [x, y] μ (fun z μ' => ∃ b, z = .bl b ∧ P (.bl b) μ') (fun _ _ _ => False)) : RO K (rEqO K C (spD K Ct) E) x y μ P := fun G H al v w A rx ry Q hQ => by
  obtain ⟨a, dx, fs, rfl, ha⟩ := hx.get A rx
  refine ⟨a, dx, fs, tb, rfl, ha, ht.tyx A ry, hn, G, al, [x, y], μ, _, _, A, .cons rx (.cons ry .nil), h, fun z d μ' G' H' al' n A' r p => ?_, XAg.none⟩
  obtain ⟨b, rfl, p⟩ := p
  cases r
  exact ⟨b, rfl, hQ _ _ μ' G' H' al' n A' (.bl b) p⟩
theorem ro_neO (hx : InO μ C x) (ht : TyDV K μ y tb) (hn : PySem.W.notFirst K C tb = true) (h : Ct [x, y] μ (fun z μ' => ∃ b, z = .bl b ∧ P (.bl (!b)) μ') (fun _ _ _ => False)) : RO K (rNeO K C (spD K Ct) E) x y μ P := fun G H al v w A rx ry Q hQ => by
  obtain ⟨a, dx, fs, rfl, ha⟩ := hx.get A rx
  refine ⟨a, dx, fs, tb, rfl, ha, ht.tyx A ry, hn, G, al, [x, y], μ, _, _, A, .cons rx (.cons ry .nil), h, fun z d μ' G' H' al' n A' r p => ?_, XAg.none⟩
  obtain ⟨b, rfl, p⟩ := p
  cases r
  exact ⟨b, rfl, hQ _ _ μ' G' H' al' n A' (.bl (!b)) p⟩
end
end Dl
set_option Elab.async false
set_option linter.all false
set_option maxRecDepth 100000
namespace Dl
open PySem L2 PyProof.Rows
def topS (i : Nat) : Stmt := PySem.Challenge.pw_readround_k10_calendars.main.body.getD i (.Pass ⟨0, 0, 0, 0⟩)
abbrev s_law_draw : Stmt := topS 11
abbrev s_law_lengths : Stmt := topS 13
abbrev s_is_number : Stmt := topS 5
abbrev s_are_numbers : Stmt := topS 6
abbrev s_Calendar_init : Stmt := inClass (topS 9) 0
abbrev s_law_is : Stmt := topS 14
abbrev s_law_row_is : Stmt := topS 15
abbrev s_Calendar_years : Stmt := inClass (topS 9) 2
abbrev s_Calendar_turn : Stmt := inClass (topS 9) 3
abbrev s_Calendar_eq : Stmt := inClass (topS 9) 1
abbrev s_law_alike_right : Stmt := topS 17
abbrev s_need_day : Stmt := topS 8
abbrev s_Calendar_long : Stmt := inClass (topS 9) 4
abbrev s_Calendar_first : Stmt := inClass (topS 9) 5
abbrev s_Calendar_at : Stmt := inClass (topS 9) 6
abbrev s_law_year_right : Stmt := topS 16
abbrev s_law_far : Stmt := topS 12
abbrev s_law : Stmt := topS 18
def dd_law_draw : He.DefD := ⟨("_law_draw", none), "_law_draw", "_law_draw", defArgs s_law_draw, defBody s_law_draw, defScope s_law_draw, [], []⟩
def dd_law_lengths : He.DefD := ⟨("_law_lengths", none), "_law_lengths", "_law_lengths", defArgs s_law_lengths, defBody s_law_lengths, defScope s_law_lengths, [], []⟩
def dd_is_number : He.DefD := ⟨("is_number", none), "is_number", "is_number", defArgs s_is_number, defBody s_is_number, defScope s_is_number, [], []⟩
def dd_are_numbers : He.DefD := ⟨("are_numbers", none), "are_numbers", "are_numbers", defArgs s_are_numbers, defBody s_are_numbers, defScope s_are_numbers, [], []⟩
def dd_Calendar_init : He.DefD := ⟨("Calendar", some "__init__"), "__init__", "Calendar.__init__", defArgs s_Calendar_init, defBody s_Calendar_init, defScope s_Calendar_init, [], []⟩
def dd_law_is : He.DefD := ⟨("_law_is", none), "_law_is", "_law_is", defArgs s_law_is, defBody s_law_is, defScope s_law_is, [], []⟩
def dd_law_row_is : He.DefD := ⟨("_law_row_is", none), "_law_row_is", "_law_row_is", defArgs s_law_row_is, defBody s_law_row_is, defScope s_law_row_is, [], []⟩
def dd_Calendar_years : He.DefD := ⟨("Calendar", some "years"), "years", "Calendar.years", defArgs s_Calendar_years, defBody s_Calendar_years, defScope s_Calendar_years, [], []⟩
def dd_Calendar_turn : He.DefD := ⟨("Calendar", some "turn"), "turn", "Calendar.turn", defArgs s_Calendar_turn, defBody s_Calendar_turn, defScope s_Calendar_turn, [], []⟩
def dd_Calendar_eq : He.DefD := ⟨("Calendar", some "__eq__"), "__eq__", "Calendar.__eq__", defArgs s_Calendar_eq, defBody s_Calendar_eq, defScope s_Calendar_eq, [], []⟩
def dd_law_alike_right : He.DefD := ⟨("_law_alike_right", none), "_law_alike_right", "_law_alike_right", defArgs s_law_alike_right, defBody s_law_alike_right, defScope s_law_alike_right, [], []⟩
def dd_need_day : He.DefD := ⟨("need_day", none), "need_day", "need_day", defArgs s_need_day, defBody s_need_day, defScope s_need_day, [], []⟩
def dd_Calendar_long : He.DefD := ⟨("Calendar", some "long"), "long", "Calendar.long", defArgs s_Calendar_long, defBody s_Calendar_long, defScope s_Calendar_long, [], []⟩
def dd_Calendar_first : He.DefD := ⟨("Calendar", some "first"), "first", "Calendar.first", defArgs s_Calendar_first, defBody s_Calendar_first, defScope s_Calendar_first, [], []⟩
def dd_Calendar_at : He.DefD := ⟨("Calendar", some "at"), "at", "Calendar.at", defArgs s_Calendar_at, defBody s_Calendar_at, defScope s_Calendar_at, [], []⟩
def dd_law_year_right : He.DefD := ⟨("_law_year_right", none), "_law_year_right", "_law_year_right", defArgs s_law_year_right, defBody s_law_year_right, defScope s_law_year_right, [], []⟩
def dd_law_far : He.DefD := ⟨("_law_far", none), "_law_far", "_law_far", defArgs s_law_far, defBody s_law_far, defScope s_law_far, [], []⟩
def dd_law : He.DefD := ⟨("law", none), "law", "law", defArgs s_law, defBody s_law, defScope s_law, [], []⟩
def fns : List He.DefD := [dd_law_draw, dd_law_lengths, dd_is_number, dd_are_numbers, dd_Calendar_init, dd_law_is, dd_law_row_is, dd_Calendar_years, dd_Calendar_turn, dd_Calendar_eq, dd_law_alike_right, dd_need_day, dd_Calendar_long, dd_Calendar_first, dd_Calendar_at, dd_law_year_right, dd_law_far, dd_law]
def fas : List He.Fa := [.free "len", .glo "_law_draw", .free "range", .free "int", .free "isinstance", .free "bool", .glo "is_number", .free "list", .free "all", .glo "are_numbers", .exc "BadCalendar", .glo "BadCalendar", .cls "Calendar", .noat "Calendar" "lengths", .noat "Calendar" "begins", .noat "Calendar" "whole", .glo "_law_is", .free "tuple", .glo "Calendar", .mkr "Calendar", .free "max", .meth "Calendar" "__eq__", .exc "NoDay", .glo "NoDay", .glo "need_day", .free "divmod", .glo "_law_row_is", .free "sum", .meth "Calendar" "long", .meth "Calendar" "first", .meth "Calendar" "at", .glo "_law_lengths", .glo "_law_alike_right", .glo "_law_year_right", .glo "_law_far", .meth "Calendar" "years", .meth "Calendar" "turn", .free "min", .glo "law"]
def loose : List PySem.Str := (["ReadError", "BadCalendar", "NoDay", "is_number", "are_numbers", "need_day", "Calendar", "_law_draw", "_law_far", "_law_lengths", "_law_is", "_law_row_is", "_law_year_right", "_law_alike_right"] : List PySem.Str)
abbrev R : PySem.W.OpenRow := PySem.W.OpenLaw.row PySem.Challenge.rw_readround_k10_calendars
def adrs : List Addr := [3, 6, 4, 24, 37, 49, 58, 63, 70, 127, 138, 145, 150, 157, 162, 169, 176, 183, 0, 23, 36, 48, 57, 62, 69, 126, 137, 144, 149, 156, 161, 168, 175, 182, 22, 25, 35, 47, 52, 53, 54, 55, 56, 59, 60, 61, 64, 65, 66, 67, 68, 84, 91, 98, 105, 112, 119, 124, 125, 128, 129, 132, 133, 134, 135, 136, 139, 140, 141, 142, 143, 146, 147, 148, 151, 152, 153, 154, 155, 158, 159, 160, 163, 164, 165, 166, 167, 170, 171, 172, 173, 174, 177, 178, 179, 180, 181, 83, 90, 97, 104, 111, 118, 123, 78, 79, 80, 81, 82, 85, 86, 87, 88, 89, 92, 93, 94, 95, 96, 99, 100, 101, 102, 103, 106, 107, 108, 109, 110, 113, 114, 115, 116, 117, 120, 121, 122, 2]
def exs : List (PySem.W.Frag → Bool) := [keqB "Calendar", neB "Calendar"]
abbrev hk : PySem.W.Hook := hookL adrs fas fns exs
def ob (s : PySem.W.SharedT) : AlX := obsLG adrs fas fns exs (HandSHeadRun.getT s)
theorem ob_eq (s : PySem.W.SharedT) : ob s = hk.obs s.abs := obsLG_eq (HandSHeadRun.getT_eq s)
set_option maxHeartbeats 0 in
theorem runA (w : World) : RunA R w := by
  intro os
  kernel_rfl
set_option maxHeartbeats 0 in
theorem runB (w : World) : RunB R (PySem.W.view R.prog [18]) loose w := by
  intro os
  kernel_rfl
set_option maxHeartbeats 0 in
theorem runC (w : World) : RunC R hk ob w := by
  intro os
  kernel_rfl
theorem run (w : World) : HandSHeadRun.RunEq R (PySem.W.view R.prog [18]) hk ob 20000 loose w := run_of (runA w) (runB w) (runC w)
end Dl
section
open PySem PySem.W PySem.Calls PyProof.Rows
set_option maxRecDepth 100000
set_option maxHeartbeats 0
theorem Dl.law_name : (HandSHeadRun.topDef (OpenLaw.row PySem.Challenge.rw_readround_k10_calendars).prog 18).name = ("law" : PySem.Str) := by kernel_rfl
theorem Dl.law_dflt : (HandSHeadRun.topDef (OpenLaw.row PySem.Challenge.rw_readround_k10_calendars).prog 18).params.defaults = [] := by kernel_rfl
theorem Dl.lawOf (hc : WalkO (view (OpenLaw.row PySem.Challenge.rw_readround_k10_calendars).prog [18]) Dl.loose (XL (view (OpenLaw.row PySem.Challenge.rw_readround_k10_calendars).prog [18]) []) Dl.hk.says (OpenLaw.row PySem.Challenge.rw_readround_k10_calendars).toRowW (HandSHeadRun.topDef (OpenLaw.row PySem.Challenge.rw_readround_k10_calendars).prog 18) [] (fun f vs => PySem.call f vs)) : PySem.Challenge.rw_readround_k10_calendars.Holds := by
  w_on; o_law
  refine HandSHeadRun.head_any (r := OpenLaw.row PySem.Challenge.rw_readround_k10_calendars) (q := view (OpenLaw.row PySem.Challenge.rw_readround_k10_calendars).prog [18]) (H := Dl.hk) (ob := Dl.ob) (M := 20000) (loose := Dl.loose) (d := HandSHeadRun.topDef (OpenLaw.row PySem.Challenge.rw_readround_k10_calendars).prog 18) (kwd := []) Dl.ob_eq
    (by kernel_rfl) (fun s => by kernel_rfl) Dl.run (by kernel_rfl) (by kernel_rfl) (by kernel_rfl) (by rfl) (by first | assumption | decide +kernel) (by decide +kernel) ⟨rfl, rfl, rfl, rfl, rfl, by decide +kernel⟩ ?hw ?hc
  case hw => w_witness2
  case hc => exact hc
end
set_option Elab.async false
set_option linter.all false
set_option maxRecDepth 100000
namespace Dl
open PySem L2 PyProof.Rows
set_option Elab.async false
set_option linter.all false
set_option maxRecDepth 100000
open PySem L2 PyProof.Rows
/-! ### kinds, books: contracts -/
mutual
/-- data through and through -/
def D.dat : D → Bool
  | .non => true
  | .bl _ => true
  | .int _ => true
  | .str _ => true
  | .tup xs => datL xs
  | .lst xs => datL xs
  | .dct _ => true
  | _ => false
def datL : List D → Bool
  | [] => true
  | x :: xs => D.dat x && datL xs
end
theorem datL_iff {xs : List D} : datL xs = true ↔ ∀ x ∈ xs, x.dat = true := by
  induction xs with
  | nil => simp [datL]
  | cons x xs ih => simp [datL, ih]
/-- isinstance of data and a built-in type -/
def isTy : D → String → Bool
  | .bl _, n => n == "bool" || n == "int"
  | .int _, n => n == "int"
  | .str _, n => n == "str"
  | .tup _, n => n == "tuple"
  | .lst _, n => n == "list"
  | .dct _, n => n == "dict"
  | _, _ => false
theorem rc_isiD {K : PySem.W.Frag} {μ : Mu} {P : D → Mu → Prop} {x : D} {n : String} (hd : x.dat = true) (hn : n = "int" ∨ n = "bool" ∨ n = "str" ∨ n = "list" ∨ n = "tuple") (h : P (.bl (isTy x n)) μ) : RC K (rIsi K) [x, .ty n] μ P := by
  cases x <;> (try (simp [D.dat] at hd; done)) <;> rcases hn with rfl | rfl | rfl | rfl | rfl <;> exact rc_isiB rfl (by rfl) h
theorem isTy_int {x : D} (h : isTy x "int" = true) (h2 : isTy x "bool" = false) : ∃ i, x = .int i := by
  cases x <;> simp_all [isTy]
theorem isTy_list {x : D} (h : isTy x "list" = true) : ∃ i, x = .lst i := by
  cases x <;> simp_all [isTy]
def isNum : D → Int → Int → Bool
  | .int i, lo, hi => decide (lo ≤ i) && decide (i ≤ hi)
  | _, _, _ => false
def c_is_number (K : PySem.W.Frag) : CT := fun ds μ P PX => ∃ x lo hi, ds = [x, .int lo, .int hi] ∧ x.dat = true ∧ P (.bl (isNum x lo hi)) μ
def pairD (p : Int × Int) : D := .tup [.int p.1, .int p.2]
def t_is_number (K : PySem.W.Frag) (E : XK) : TS :=
    (tRet (tAndV (tCB (rIsi K) (tCons (tVar 0) (tCons (tC (.ty "int")) tNil))) (tAndV (tNotV (tCB (rIsi K) (tCons (tVar 0) (tCons (tC (.ty "bool")) tNil)))) (tChain (rI0 fun i j => .bl (decide (i ≤ j))) (rI0 fun i j => .bl (decide (i ≤ j))) (tVar 1) (tVar 0) (tVar 2)))))
local macro_rules | `(tactic| wtm_at "dS") => `(tactic| with_reducible (show DS _ _ _ _ _ _; first
  | refine q_set ?_
  | refine q_when ?_
  | refine ds_ret ?_
  | refine ds_set ?_
  | refine q_drop ?_
  | refine q_if ?_
  | refine q_asg ?_
  | refine q_par ?_
  | refine q_fld ?_
  | refine ds_drop ?_
  | refine s_when ?_
  | refine ds_if ?_
  | refine ds_asg ?_
  | refine ds_next ?_
  | refine ds_par ?_
  | refine ds_fld ?_
  | refine ds_retN ?_))
local macro_rules | `(tactic| wtm_at "dE") => `(tactic| with_reducible (show DE _ _ _ _ _ _; first
  | refine de_op ?_
  | refine de_int ?_
  | refine de_cb ?_
  | refine de_bl ?_
  | refine de_non ?_
  | refine de_str ?_
  | refine de_ty ?_
  | refine de_loc ?_
  | refine de_un ?_
  | refine de_andV ?_
  | refine de_orV ?_
  | refine de_notV ?_
  | refine de_if ?_
  | refine de_chain ?_
  | refine de_chain3 ?_
  | refine de_isN ?_
  | refine de_notN ?_
  | refine de_sl ?_
  | refine de_bm ?_
  | refine de_bm0 ?_))
local macro_rules | `(tactic| wtm_at "dT") => `(tactic| with_reducible (show DT _ _ _ _ _ _; first
  | refine dt_test ?_
  | refine dt_truth ?_
  | refine dt_and ?_
  | refine dt_or ?_
  | refine dt_not ?_
  | refine dt_B ?_
  | refine dt_yes ?_))
local macro_rules | `(tactic| wtm_at "dO") => `(tactic| with_reducible (first
  | refine da_cons ?_
  | refine da_nil ?_
  | refine ro_i ?_
  | refine ro_b ?_
  | refine ro_addI ?_
  | refine ro_eqI ?_
  | refine ro_neI ?_
  | refine ru_i ?_
  | refine ro_ip ?_
  | refine rc_max2' ?_
  | refine rc_min2' ?_
  | refine ro_eqB ?_
  | refine ro_neB ?_
  | refine ro_isB ?_
  | refine ro_notB ?_
  | refine do_no ?_
  | refine do_part ?_
  | refine dg_name ?_
  | refine dgs_cons ?_
  | refine dgs_nil ?_
  | refine dg_sub ?_
  | refine di_range1 ?_
  | refine di_range2 ?_
  | refine di_any ?_
  | refine di_enum' ?_))
local macro_rules | `(tactic| wtm_at "v") => `(tactic| ((with_reducible show DE _ _ (tVar _) _ _ _); refine de_var (by first | rfl | assumption) ?_))
local macro_rules | `(tactic| wtm_at "h") => `(tactic| with_reducible refine ⟨_, rfl, ?_⟩)
local macro_rules | `(tactic| wtm_at "b") => `(tactic| ((first | refine ⟨_, rfl, br ?_ ?_⟩ | refine ⟨_, rfl, br' ?_ ?_⟩ | refine br ?_ ?_ | refine br' ?_ ?_ | fail) <;> intro hb <;> (try contradiction) <;> (try (simp only [decide_eq_true_eq, decide_eq_false_iff_not, Bool.not_eq_true', Bool.not_eq_false', Bool.not_true, Bool.not_false, Bool.not_eq_eq_eq_not, reduceCtorEq, List.length_map] at hb)) <;> (try (exfalso; omega; done))))
local macro_rules | `(tactic| wtm_at "i") => `(tactic| first | refine rc_isiD (by assumption) (by decide) ?_ | refine rc_isiB rfl (by first | rfl | decide +kernel) ?_)
local macro_rules | `(tactic| wtm_at "r") => `(tactic| refine ret_same0 (Nat.le_refl _) (by assumption) (by first | rfl | simp [D.cl, clL]) ?_)
local macro_rules | `(tactic| wtm_at "g") => `(tactic| repeat' first | wtm_at "v" | wtm_at "dE" | wtm_at "dO" | wtm_at "dT" | wtm_at "dS" | fail)
local macro_rules | `(tactic| wtm_at "a") => `(tactic| repeat' first | wtm_at "v" | wtm_at "dE" | wtm_at "dO" | wtm_at "dT" | wtm_at "dS" | wtm_at "i" | wtm_at "l" | wtm_at "x" | wtm_at "h" | wtm_at "b" | fail)
local macro_rules | `(tactic| wtm_at "l") => `(tactic| first | refine rc_lenL (.lst _) ?_ | refine rc_lenT' (.tup _) ?_ | refine rc_lenL (.rdl _) ?_ | refine rc_lenL (.own (by first | assumption | exact mu_last)) ?_)
local macro_rules | `(tactic| wtm_at "x") => `(tactic| refine ro_ixT (.tup _) rfl ?_)
local macro_rules | `(tactic| wtm_at "ow") => `(tactic| first | assumption | exact mu_last | exact mu_old (by assumption) | (simp; done) | fail)
local macro_rules | `(tactic| wtm_at "m") => `(tactic| refine ⟨ty_list (.own (by wtm_at "ow")), ?_⟩)
local macro_rules | `(tactic| wtm_at "e") => `(tactic| repeat' first | wtm_at "v" | wtm_at "dE" | wtm_at "dO" | wtm_at "dT" | wtm_at "i" | wtm_at "l" | wtm_at "x" | wtm_at "h" | wtm_at "b" | fail)
section
variable {K : PySem.W.Frag}
theorem d_is_number : ∀ ds μ P PX, c_is_number K ds μ P PX → MuCl μ μ.length → clL ds μ.length = true → ∀ B E, XAg K B (RetX μ.length PX) E → DS K B (t_is_number K E) (startD ["thing", "least", "most"] ds) μ (fnE μ.length P) := by
  intro ds μ P PX h hm hc B E hE
  obtain ⟨x, lo, hi, rfl, hd, h⟩ := h
  show DS K B _ [some x, some (.int lo), some (.int hi)] μ _
  unfold t_is_number
  wtm_at "a"
  · obtain ⟨i, rfl⟩ := isTy_int ‹_› ‹_›
    wtm_at "a" <;> wtm_at "r" <;> simp_all [isNum]
  · wtm_at "r"
    cases x <;> simp_all [isNum, isTy]
  · wtm_at "r"
    cases x <;> simp_all [isNum, isTy]
end
end Dl
set_option Elab.async false
set_option linter.all false
set_option maxRecDepth 100000
namespace Dl
open PySem L2 PyProof.Rows
/-! ### calendars: contracts -/
def areNums : D → Int → Int → Int → Bool
  | .lst xs, long, lo, hi => decide (1 ≤ xs.length) && decide ((xs.length : Int) ≤ long) && xs.all (fun x => isNum x lo hi)
  | _, _, _, _ => false
def c_are_numbers (K : PySem.W.Frag) : CT := fun ds μ P PX => ∃ (x d : D) (long lo hi : Int), ds = [x, .int long, .int lo, .int hi] ∧ Fz μ x d ∧ d.dat = true ∧ long ≤ 100000 ∧ P (.bl (areNums d long lo hi)) μ
def c_need_day (K : PySem.W.Frag) : CT := fun ds μ P PX => ∃ n : Int, ds = [.int n] ∧ (0 ≤ n → P .non μ) ∧ (n < 0 → PX (He.ga K "NoDay") [] μ)
abbrev cCal (K : PySem.W.Frag) : Addr := He.ga K "Calendar"
/-- days ahead of the i-th year -/
def preY (ls : List Int) (i : Nat) : Int := (ls.take i).sum
def begins (ls : List Int) : List Int := (List.range ls.length).map (preY ls)
def intsD (ls : List Int) : D := .lst (ls.map D.int)
def calF (ls : List Int) : List (Str × D) := [("lengths", intsD ls), ("begins", intsD (begins ls)), ("whole", .int ls.sum)]
def calD (K : PySem.W.Frag) (ls : List Int) : D := .obj (cCal K) (calF ls)
/-- the days of the years of a calendar -/
structure GCal (ls : List Int) : Prop where
  pos : 0 < ls.length
  most : ls.length ≤ 20
  each : ∀ x ∈ ls, 1 ≤ x ∧ x ≤ 400
structure KCal (K : PySem.W.Frag) : Prop where
  cl : Cls K (cCal K)
  lengths : NoAttr K (cCal K) "lengths"
  begins : NoAttr K (cCal K) "begins"
  whole : NoAttr K (cCal K) "whole"
def c_Calendar_init (K : PySem.W.Frag) : CT := fun ds μ P PX => ∃ k x d, ds = [.own k, x] ∧ μ[k]? = some (.ins (cCal K) []) ∧ Fz μ x d ∧ d.dat = true ∧
  (∀ ls, d = intsD ls → GCal ls → P .non (μ.set k (.ins (cCal K) (calF ls)))) ∧ (areNums d 20 1 400 = false → PX (He.ga K "BadCalendar") [] μ)
def c_Calendar_years (K : PySem.W.Frag) : CT := fun ds μ P PX => ∃ ls, ds = [calD K ls] ∧ Fresh (ls.map D.int) μ P
def c_Calendar_turn (K : PySem.W.Frag) : CT := fun ds μ P PX => ∃ ls, ds = [calD K ls] ∧ P (.int ls.sum) μ
/-- how long the year is -/
def longY (ls : List Int) (y : Int) : Int := ls.getD (y % ls.length).toNat 0
def firstY (ls : List Int) (y : Int) : Int := y / ls.length * ls.sum + preY ls (y % ls.length).toNat
def placeY (ls : List Int) (left : Int) : Int := ((begins ls).filter fun b => decide (b ≤ left)).length - 1
def atY (ls : List Int) (d : Int) : Int × Int := (d / ls.sum * ls.length + placeY ls (d % ls.sum), d % ls.sum - preY ls (placeY ls (d % ls.sum)).toNat)
def c_Calendar_long (K : PySem.W.Frag) : CT := fun ds μ P PX => ∃ (ls : List Int) (y : Int), ds = [calD K ls, .int y] ∧ GCal ls ∧ (0 ≤ y → P (.int (longY ls y)) μ) ∧ (y < 0 → PX (He.ga K "NoDay") [] μ)
def c_Calendar_first (K : PySem.W.Frag) : CT := fun ds μ P PX => ∃ (ls : List Int) (y : Int), ds = [calD K ls, .int y] ∧ GCal ls ∧ (0 ≤ y → P (.int (firstY ls y)) μ) ∧ (y < 0 → PX (He.ga K "NoDay") [] μ)
def c_Calendar_at (K : PySem.W.Frag) : CT := fun ds μ P PX => ∃ (ls : List Int) (y : Int), ds = [calD K ls, .int y] ∧ GCal ls ∧ (0 ≤ y → P (pairD (atY ls y)) μ) ∧ (y < 0 → PX (He.ga K "NoDay") [] μ)
/-! ### .. in plain numbers -/
theorem sum_pos' : ∀ {ls : List Int}, (∀ x ∈ ls, 1 ≤ x) → (ls.length : Int) ≤ ls.sum
  | [], _ => by simp
  | x :: r, h => by
    have := sum_pos' (ls := r) fun y hy => h y (List.mem_cons_of_mem _ hy)
    have := h x (by simp)
    simp; omega
theorem sum_le' : ∀ {ls : List Int}, (∀ x ∈ ls, x ≤ 400) → ls.sum ≤ 400 * (ls.length : Int)
  | [], _ => by simp
  | x :: r, h => by
    have := sum_le' (ls := r) fun y hy => h y (List.mem_cons_of_mem _ hy)
    have := h x (by simp)
    simp; omega
theorem GCal.sum_pos {ls : List Int} (h : GCal ls) : 0 < ls.sum := by
  have := sum_pos' fun x hx => (h.each x hx).1
  have := h.pos
  omega
theorem GCal.sum_le {ls : List Int} (h : GCal ls) : ls.sum ≤ 8000 := by
  have := sum_le' fun x hx => (h.each x hx).2
  have := h.most
  omega
theorem preY_zero (ls : List Int) : preY ls 0 = 0 := by simp [preY]
theorem preY_succ {ls : List Int} {i : Nat} {x : Int} (h : ls[i]? = some x) : preY ls (i + 1) = preY ls i + x := by
  unfold preY
  rw [List.take_add_one, h]
  simp
theorem preY_all (ls : List Int) : preY ls ls.length = ls.sum := by simp [preY]
theorem preY_mono {ls : List Int} (h : ∀ x ∈ ls, 1 ≤ x) {i j : Nat} (hij : i ≤ j) (hj : j ≤ ls.length) : preY ls i + (j - i : Nat) ≤ preY ls j := by
  induction j with
  | zero => have : i = 0 := by omega
            subst this; simp
  | succ j ih =>
    by_cases e : i = j + 1
    · subst e; simp
    · have h1 := ih (by omega) (by omega)
      have hx : ls[j]? = some ls[j] := List.getElem?_eq_getElem (by omega)
      have := h ls[j] (List.getElem_mem _)
      rw [preY_succ hx]
      omega
theorem begins_len (ls : List Int) : (begins ls).length = ls.length := by simp [begins]
theorem begins_get {ls : List Int} {i : Nat} (h : i < ls.length) : (begins ls)[i]? = some (preY ls i) := by simp [begins, h]
/-- as many years begin up to there as the place tells -/
theorem count_pre {ls : List Int} (h : ∀ x ∈ ls, 1 ≤ x) {p : Nat} (hp : p < ls.length) {left : Int} (h0 : preY ls p ≤ left) (h1 : left < preY ls (p + 1)) : ((begins ls).filter fun b => decide (b ≤ left)).length = p + 1 := by
  have key : ∀ n, n ≤ ls.length → (((List.range n).map (preY ls)).filter fun b => decide (b ≤ left)).length = min n (p + 1) := by
    intro n hn
    induction n with
    | zero => simp
    | succ n ih =>
      rw [List.range_succ, List.map_append, List.filter_append, List.length_append, ih (by omega)]
      by_cases hc : n ≤ p
      · have : preY ls n ≤ left := by
          have := preY_mono h (i := n) (j := p) hc (by omega)
          omega
        simp [this]; omega
      · have : ¬ preY ls n ≤ left := by
          have := preY_mono h (i := p + 1) (j := n) (by omega) (by omega)
          omega
        simp [this]; omega
  unfold begins
  rw [key ls.length (Nat.le_refl _)]
  omega
/-- day d is the s-th one of the year y -/
structure PosY (ls : List Int) (y s d : Int) : Prop where
  y0 : 0 ≤ y
  s0 : 0 ≤ s
  s1 : s < longY ls y
  d : d = firstY ls y + s
theorem longY_get {ls : List Int} (h : GCal ls) {y : Int} (hy : 0 ≤ y) : ls[(y % ls.length).toNat]? = some (longY ls y) := by
  have hp := h.pos
  have h1 := Int.emod_nonneg y (b := (ls.length : Int)) (by omega)
  have h2 := Int.emod_lt_of_pos y (b := (ls.length : Int)) (by omega)
  unfold longY
  rw [List.getD_eq_getElem?_getD, List.getElem?_eq_getElem (by omega)]
  rfl
theorem longY_bd {ls : List Int} (h : GCal ls) {y : Int} (hy : 0 ≤ y) : 1 ≤ longY ls y ∧ longY ls y ≤ 400 := h.each _ (List.mem_of_getElem? (longY_get h hy))
theorem pre_lt {ls : List Int} (h : GCal ls) {y : Int} (hy : 0 ≤ y) : 0 ≤ preY ls (y % ls.length).toNat ∧ preY ls (y % ls.length).toNat + longY ls y ≤ ls.sum := by
  have hp := h.pos
  have h1 := Int.emod_nonneg y (b := (ls.length : Int)) (by omega)
  have h2 := Int.emod_lt_of_pos y (b := (ls.length : Int)) (by omega)
  have e1 : ∀ x ∈ ls, 1 ≤ x := fun x hx => (h.each x hx).1
  have h3 := preY_mono e1 (i := 0) (j := (y % ls.length).toNat) (by omega) (by omega)
  have h4 := preY_mono e1 (i := (y % ls.length).toNat + 1) (j := ls.length) (by omega) (by omega)
  rw [preY_zero] at h3
  rw [preY_succ (longY_get h hy), preY_all] at h4
  omega
theorem firstY_nn {ls : List Int} (h : GCal ls) {y : Int} (hy : 0 ≤ y) : 0 ≤ firstY ls y := by
  have := (pre_lt h hy).1
  have h1 : 0 ≤ y / ls.length := Int.ediv_nonneg hy (by omega)
  have := Int.mul_nonneg h1 (Int.le_of_lt h.sum_pos)
  unfold firstY
  omega
theorem PosY.dm {ls : List Int} (h : GCal ls) {y s d : Int} (p : PosY ls y s d) : d / ls.sum = y / ls.length ∧ d % ls.sum = preY ls (y % ls.length).toNat + s := by
  obtain ⟨h1, h2⟩ := pre_lt h p.y0
  have hs := h.sum_pos
  have e : d = ls.sum * (y / ls.length) + (preY ls (y % ls.length).toNat + s) := by
    rw [p.d, firstY, Int.mul_comm]; omega
  have := p.s0
  have := p.s1
  refine ⟨?_, ?_⟩
  · have z : (preY ls (y % ls.length).toNat + s) / ls.sum = 0 := Int.ediv_eq_zero_of_lt (by omega) (by omega)
    rw [e, Int.mul_add_ediv_left _ _ (by omega), z]
    simp
  · rw [e, Int.mul_add_emod_self_left, Int.emod_eq_of_lt (by omega) (by omega)]
theorem atY_pos {ls : List Int} (h : GCal ls) {y s d : Int} (p : PosY ls y s d) : atY ls d = (y, s) := by
  obtain ⟨e1, e2⟩ := p.dm h
  have hp := h.pos
  have h1 := Int.emod_nonneg y (b := (ls.length : Int)) (by omega)
  have h2 := Int.emod_lt_of_pos y (b := (ls.length : Int)) (by omega)
  have := p.s0
  have := p.s1
  have hc := count_pre (fun x hx => (h.each x hx).1) (p := (y % ls.length).toNat) (left := preY ls (y % ls.length).toNat + s) (by omega) (by omega) (by rw [preY_succ (longY_get h p.y0)]; omega)
  have e3 : placeY ls (d % ls.sum) = y % ls.length := by
    unfold placeY
    rw [e2, hc]
    omega
  unfold atY
  rw [e3, e1, e2]
  refine Prod.ext ?_ ?_
  · show y / ls.length * ls.length + y % ls.length = y
    exact Int.ediv_mul_add_emod y ls.length
  · show preY ls (y % ls.length).toNat + s - preY ls (y % ls.length).toNat = s
    omega
/-- each day has a year and a place -/
theorem place_bd {ls : List Int} (h : GCal ls) {left : Int} (h0 : 0 ≤ left) : 0 ≤ placeY ls left ∧ placeY ls left < ls.length := by
  have hp := h.pos
  have h1 : ((begins ls).filter fun b => decide (b ≤ left)).length ≤ ls.length := by
    exact Nat.le_trans (List.length_filter_le _ _) (by rw [begins_len]; exact Nat.le_refl _)
  have h2 : 0 < ((begins ls).filter fun b => decide (b ≤ left)).length := by
    have : (0 : Int) ∈ (begins ls).filter fun b => decide (b ≤ left) := by
      rw [List.mem_filter]
      refine ⟨?_, by simpa using h0⟩
      have := begins_get (ls := ls) (i := 0) hp
      rw [preY_zero] at this
      exact List.mem_of_getElem? this
    exact List.length_pos_of_mem this
  unfold placeY
  omega
def t_are_numbers (K : PySem.W.Frag) (E : XK) : TS :=
    (tSeq (tIfS (tOr (tNot (tTruth K (tCB (rIsi K) (tCons (tVar 0) (tCons (tC (.ty "list")) tNil))))) (tNot (tTest (tChain (rI0 fun i j => .bl (decide (i ≤ j))) (rI0 fun i j => .bl (decide (i ≤ j))) (tC (.int 1)) (tCB (rLen K) (tCons (tVar 0) tNil)) (tVar 1))))) (tRet (tC (.bl false))) tNext)
      (tRet (tCB (rAll K) (tCons (tLc (iAny K (tVar 0)) (gName 4) tYes (tCall (spD K (c_is_number K)) [] E0 (tCons (tVar 4) (tCons (tVar 2) (tCons (tVar 3) tNil)))) [4]) tNil))))
def t_need_day (K : PySem.W.Frag) (E : XK) : TS :=
    (tIfS (tTest (tOp (rI0 fun i j => .bl (decide (i < j))) (tVar 0) (tC (.int 0)))) (tRaise0 (He.ga K "NoDay") E) tNext)
def t_Calendar_init (K : PySem.W.Frag) (E : XK) : TS :=
    (tSeq (tIfS (tNot (tTruth K (tCall (spD K (c_are_numbers K)) [] E (tCons (tVar 1) (tCons (tC (.int 20)) (tCons (tC (.int 1)) (tCons (tC (.int 400)) tNil))))))) (tRaise0 (He.ga K "BadCalendar") E) tNext)
      (tSeq (sFld K (tVar 0) (tCB (rListOf K) (tCons (tVar 1) tNil)) "lengths")
      (tSeq (sFld K (tVar 0) (tLst tNil) "begins")
      (tSeq (sFld K (tVar 0) (tC (.int 0)) "whole")
      (tFor (iAny K (tFld K (tVar 0) "lengths")) (gName 2) (tSeq (tDrop (tBM K "list" rAppend (tFld K (tVar 0) "begins") (tCons (tFld K (tVar 0) "whole") tNil)))
      (sFldAug K (tVar 0) (tVar 2) rAdd "whole")))))))
def t_Calendar_years (K : PySem.W.Frag) (E : XK) : TS :=
    (tRet (tCB (rListOf K) (tCons (tFld K (tVar 0) "lengths") tNil)))
def t_Calendar_turn (K : PySem.W.Frag) (E : XK) : TS :=
    (tRet (tFld K (tVar 0) "whole"))
def t_Calendar_long (K : PySem.W.Frag) (E : XK) : TS :=
    (tSeq (tDrop (tCall (spD K (c_need_day K)) [] E (tCons (tVar 1) tNil)))
      (tRet (tOp (rIx K) (tFld K (tVar 0) "lengths") (tOp rModA (tVar 1) (tCB (rLen K) (tCons (tFld K (tVar 0) "lengths") tNil))))))
def t_Calendar_first (K : PySem.W.Frag) (E : XK) : TS :=
    (tSeq (tDrop (tCall (spD K (c_need_day K)) [] E (tCons (tVar 1) tNil)))
      (tSeq (tAsg (tCB rDivmod (tCons (tVar 1) (tCons (tCB (rLen K) (tCons (tFld K (tVar 0) "lengths") tNil)) tNil))) (gTup K 2 (gCons (gName 2) (gCons (gName 3) gNil))))
      (tRet (tOp (rAddA K) (tOp rMulA (tVar 2) (tFld K (tVar 0) "whole")) (tOp (rIx K) (tFld K (tVar 0) "begins") (tVar 3))))))
def t_Calendar_at (K : PySem.W.Frag) (E : XK) : TS :=
    (tSeq (tDrop (tCall (spD K (c_need_day K)) [] E (tCons (tVar 1) tNil)))
      (tSeq (tAsg (tCB rDivmod (tCons (tVar 1) (tCons (tFld K (tVar 0) "whole") tNil))) (gTup K 2 (gCons (gName 2) (gCons (gName 3) gNil))))
      (tSeq (tAsg (tOp (rI0 fun i j => .int (i - j)) (tCB (rLen K) (tCons (tLc (iAny K (tFld K (tVar 0) "begins")) (gName 5) (tTest (tOp (rI0 fun i j => .bl (decide (i ≤ j))) (tVar 5) (tVar 3))) (tVar 5) [5]) tNil)) (tC (.int 1))) (gName 4))
      (tRet (tTup (tCons (tOp (rAddA K) (tOp rMulA (tVar 2) (tCB (rLen K) (tCons (tFld K (tVar 0) "lengths") tNil))) (tVar 4)) (tCons (tOp (rI0 fun i j => .int (i - j)) (tVar 3) (tOp (rIx K) (tFld K (tVar 0) "begins") (tVar 4))) tNil)))))))
local macro_rules | `(tactic| wtm_at "dS") => `(tactic| with_reducible (show DS _ _ _ _ _ _; first
  | refine q_set ?_
  | refine q_when ?_
  | refine ds_ret ?_
  | refine ds_set ?_
  | refine q_drop ?_
  | refine q_if ?_
  | refine q_asg ?_
  | refine q_par ?_
  | refine q_fld ?_
  | refine ds_drop ?_
  | refine s_when ?_
  | refine ds_if ?_
  | refine ds_asg ?_
  | refine ds_next ?_
  | refine ds_par ?_
  | refine ds_fld ?_
  | refine ds_retN ?_))
local macro_rules | `(tactic| wtm_at "dE") => `(tactic| with_reducible (show DE _ _ _ _ _ _; first
  | refine de_op ?_
  | refine de_int ?_
  | refine de_cb ?_
  | refine de_bl ?_
  | refine de_non ?_
  | refine de_str ?_
  | refine de_ty ?_
  | refine de_loc ?_
  | refine de_un ?_
  | refine de_andV ?_
  | refine de_orV ?_
  | refine de_notV ?_
  | refine de_if ?_
  | refine de_chain ?_
  | refine de_chain3 ?_
  | refine de_isN ?_
  | refine de_notN ?_
  | refine de_sl ?_
  | refine de_bm ?_
  | refine de_bm0 ?_))
local macro_rules | `(tactic| wtm_at "dT") => `(tactic| with_reducible (show DT _ _ _ _ _ _; first
  | refine dt_test ?_
  | refine dt_truth ?_
  | refine dt_and ?_
  | refine dt_or ?_
  | refine dt_not ?_
  | refine dt_B ?_
  | refine dt_yes ?_))
local macro_rules | `(tactic| wtm_at "dO") => `(tactic| with_reducible (first
  | refine da_cons ?_
  | refine da_nil ?_
  | refine ro_i ?_
  | refine ro_b ?_
  | refine ro_addI ?_
  | refine ro_eqI ?_
  | refine ro_neI ?_
  | refine ru_i ?_
  | refine ro_ip ?_
  | refine rc_max2' ?_
  | refine rc_min2' ?_
  | refine ro_eqB ?_
  | refine ro_neB ?_
  | refine ro_isB ?_
  | refine ro_notB ?_
  | refine do_no ?_
  | refine do_part ?_
  | refine dg_name ?_
  | refine dgs_cons ?_
  | refine dgs_nil ?_
  | refine dg_sub ?_
  | refine di_range1 ?_
  | refine di_range2 ?_
  | refine di_any ?_
  | refine di_enum' ?_))
local macro_rules | `(tactic| wtm_at "v") => `(tactic| ((with_reducible show DE _ _ (tVar _) _ _ _); refine de_var (by first | rfl | assumption) ?_))
local macro_rules | `(tactic| wtm_at "h") => `(tactic| with_reducible refine ⟨_, rfl, ?_⟩)
local macro_rules | `(tactic| wtm_at "b") => `(tactic| ((first | refine ⟨_, rfl, br ?_ ?_⟩ | refine ⟨_, rfl, br' ?_ ?_⟩ | refine br ?_ ?_ | refine br' ?_ ?_ | fail) <;> intro hb <;> (try contradiction) <;> (try (simp only [decide_eq_true_eq, decide_eq_false_iff_not, Bool.not_eq_true', Bool.not_eq_false', Bool.not_true, Bool.not_false, Bool.not_eq_eq_eq_not, reduceCtorEq, List.length_map] at hb)) <;> (try (exfalso; omega; done))))
local macro_rules | `(tactic| wtm_at "i") => `(tactic| first | refine rc_isiD (by assumption) (by decide) ?_ | refine rc_isiB rfl (by first | rfl | decide +kernel) ?_)
local macro_rules | `(tactic| wtm_at "r") => `(tactic| refine ret_same0 (Nat.le_refl _) (by assumption) (by first | rfl | simp [D.cl, clL]) ?_)
local macro_rules | `(tactic| wtm_at "g") => `(tactic| repeat' first | wtm_at "v" | wtm_at "dE" | wtm_at "dO" | wtm_at "dT" | wtm_at "dS" | fail)
local macro_rules | `(tactic| wtm_at "a") => `(tactic| repeat' first | wtm_at "v" | wtm_at "dE" | wtm_at "dO" | wtm_at "dT" | wtm_at "dS" | wtm_at "i" | wtm_at "l" | wtm_at "x" | wtm_at "h" | wtm_at "b" | fail)
local macro_rules | `(tactic| wtm_at "l") => `(tactic| first | refine rc_lenL (.lst _) ?_ | refine rc_lenT' (.tup _) ?_ | refine rc_lenL (.rdl _) ?_ | refine rc_lenL (.own (by first | assumption | exact mu_last)) ?_)
local macro_rules | `(tactic| wtm_at "x") => `(tactic| refine ro_ixT (.tup _) rfl ?_)
local macro_rules | `(tactic| wtm_at "ow") => `(tactic| first | assumption | exact mu_last | exact mu_old (by assumption) | (simp; done) | fail)
local macro_rules | `(tactic| wtm_at "m") => `(tactic| refine ⟨ty_list (.own (by wtm_at "ow")), ?_⟩)
local macro_rules | `(tactic| wtm_at "e") => `(tactic| repeat' first | wtm_at "v" | wtm_at "dE" | wtm_at "dO" | wtm_at "dT" | wtm_at "i" | wtm_at "l" | wtm_at "x" | wtm_at "h" | wtm_at "b" | fail)
local macro_rules | `(tactic| wtm_at "sz") => `(tactic| ((with_reducible show Sz _ ∧ _); refine And.intro (by unfold Sz; first | decide | (simp; done) | (simp; omega) | omega) ?_))
local macro_rules | `(tactic| wtm_at "d2") => `(tactic| with_reducible (first
  | refine de_tupZ ?_
  | refine de_revL ?_
  | refine de_call (by assumption) ?_))
local macro_rules | `(tactic| wtm_at "o2") => `(tactic| first
  | refine ro_mod (by first | decide | omega) ?_
  | refine ro_pow ⟨by decide, by decide, by decide⟩ ?_
  | refine rs_anyL (.lst _) ?_
  | refine ro_mulI (by first | exact .inl ⟨by omega, by omega⟩ | exact .inr ⟨by omega, by omega⟩) ?_
  | refine rc_list (.lst _) ?_
  | refine dg_tup rfl ?_
  | fail)
local macro_rules | `(tactic| wtm_at "h2") => `(tactic| with_reducible (first | refine two_i ?_ | refine ⟨_, Ls.lst _, ?_⟩))
local macro_rules | `(tactic| wtm_at "sP") => `(tactic| with_reducible (first | refine q_parZ ?_ | refine ds_parZ ?_))
local macro_rules | `(tactic| wtm_at "A") => `(tactic| repeat' first | wtm_at "v" | wtm_at "dE" | wtm_at "dO" | wtm_at "dT" | wtm_at "sP" | wtm_at "dS" | wtm_at "d2" | wtm_at "i" | wtm_at "l" | wtm_at "x" | wtm_at "o2" | wtm_at "h" | wtm_at "h2" | wtm_at "sz" | wtm_at "b" | fail)
local macro_rules | `(tactic| wtm_at "E") => `(tactic| repeat' first | wtm_at "v" | wtm_at "dE" | wtm_at "dO" | wtm_at "dT" | wtm_at "d2" | wtm_at "i" | wtm_at "l" | wtm_at "x" | wtm_at "o2" | wtm_at "h" | wtm_at "h2" | wtm_at "sz" | wtm_at "b" | fail)
local macro_rules | `(tactic| wtm_at "f3") => `(tactic| with_reducible (first
  | refine de_fldZ ?_
  | refine de_methZ (by assumption) ?_))
local macro_rules | `(tactic| wtm_at "p3") => `(tactic| first
  | refine fp_obj (by assumption) (by assumption) (by rfl) ?_
  | refine fp_own (by assumption) (by assumption) (by assumption) (by rfl) ?_
  | refine mp_obj (by rfl) ?_
  | refine mp_own (by assumption) (by rfl) ?_)
local macro_rules | `(tactic| wtm_at "s3") => `(tactic| with_reducible (first | refine q_fldZ ?_ | refine ds_fldZ ?_))
local macro_rules | `(tactic| wtm_at "A") => `(tactic| repeat' first | wtm_at "v" | wtm_at "dE" | wtm_at "dO" | wtm_at "dT" | wtm_at "sP" | wtm_at "s3" | wtm_at "dS" | wtm_at "d2" | wtm_at "f3" | wtm_at "i" | wtm_at "l" | wtm_at "x" | wtm_at "o2" | wtm_at "h" | wtm_at "h2" | wtm_at "sz" | wtm_at "p3" | wtm_at "b" | fail)
local macro_rules | `(tactic| wtm_at "E") => `(tactic| repeat' first | wtm_at "v" | wtm_at "dE" | wtm_at "dO" | wtm_at "dT" | wtm_at "d2" | wtm_at "f3" | wtm_at "i" | wtm_at "l" | wtm_at "x" | wtm_at "o2" | wtm_at "h" | wtm_at "h2" | wtm_at "sz" | wtm_at "p3" | wtm_at "b" | fail)
section
variable {K : PySem.W.Frag}
theorem d_are_numbers : ∀ ds μ P PX, c_are_numbers K ds μ P PX → MuCl μ μ.length → clL ds μ.length = true → ∀ B E, XAg K B (RetX μ.length PX) E → DS K B (t_are_numbers K E) (startD ["thing", "long", "least", "most", "one"] ds) μ (fnE μ.length P) := by
  intro ds μ P PX h hm hc B E hE
  obtain ⟨x, d, long, lo, hi, rfl, fz, hd, hlong, h⟩ := h
  show DS K B _ [some x, some (.int long), some (.int lo), some (.int hi), none] μ _
  have key : ∀ xs, d = .lst xs → tyD μ x = some "list" → Ls μ x xs → DS K B (t_are_numbers K E) [some x, some (.int long), some (.int lo), some (.int hi), none] μ (fnE μ.length P) := by
    rintro xs rfl ht hl
    have hdx : ∀ y ∈ xs, y.dat = true := by
      unfold D.dat at hd
      exact datL_iff.mp hd
    obtain ⟨S, wk⟩ := hl.wk
    unfold t_are_numbers
    wtm_at "g"
    refine rc_isiB ht (by rfl) ?_
    wtm_at "A"
    refine rc_lenL hl ?_
    have hf : ¬ (1 ≤ xs.length ∧ (xs.length : Int) ≤ long) → Ret μ.length P (.bl false) μ := fun hn => by
      wtm_at "r"
      have : areNums (.lst xs) long lo hi = false := by
        simp [areNums]
        omega
      rw [this] at h
      exact h
    wtm_at "A"
    · exact hf (by omega)
    · refine lc_map (fun d => .bl (isNum d lo hi)) (gw_name (by simp)) ?_
      wtm_at "A"
      refine ⟨xs, S, wk, wk.now, by omega, fun i d hd' => ?_, fun out ho => ?_⟩
      · wtm_at "A"
        refine ⟨rfl, de_call XAg.none ?_⟩
        wtm_at "A"
        exact ⟨d, lo, hi, rfl, hdx d (List.mem_of_getElem? hd'), rfl, rfl⟩
      · wtm_at "A"
        refine rc_all (bs := xs.map (isNum · lo hi)) (by rw [← ho, List.map_map]; exact .lst _) ?_
        wtm_at "r"
        have : areNums (.lst xs) long lo hi = (xs.map (isNum · lo hi)).all id := by
          simp only [areNums, List.all_map]
          rename_i hb
          simp [show 1 ≤ xs.length by omega, show (xs.length : Int) ≤ long by omega]
        rw [this] at h
        exact h
    · exact hf (by omega)
  cases fz with
  | id =>
    by_cases hl : isTy x "list" = true
    · obtain ⟨xs, rfl⟩ := isTy_list hl
      exact key xs rfl rfl (.lst xs)
    · unfold t_are_numbers
      wtm_at "A"
      · exact absurd ‹_› hl
      · wtm_at "r"
        have : areNums x long lo hi = false := by cases x <;> simp_all [areNums, isTy]
        rw [this] at h
        exact h
  | own hk => exact key _ rfl (by simp [tyD, hk]) (.own hk)
theorem d_need_day : ∀ ds μ P PX, c_need_day K ds μ P PX → MuCl μ μ.length → clL ds μ.length = true → ∀ B E, XAg K B (RetX μ.length PX) E → DS K B (t_need_day K E) (startD ["number"] ds) μ (fnE μ.length P) := by
  intro ds μ P PX h hm hc B E hE
  obtain ⟨n, rfl, h1, h2⟩ := h
  show DS K B _ [some (.int n)] μ _
  unfold t_need_day
  wtm_at "A"
  · exact ds_raise0 hE (retx_same0 hm rfl (h2 (by omega)))
  · exact ret_same0 (Nat.le_refl _) hm rfl (h1 (by omega))
theorem nums_ints : ∀ {xs : List D} {lo hi : Int}, xs.all (fun x => isNum x lo hi) = true → ∃ ls : List Int, xs = ls.map D.int ∧ ∀ x ∈ ls, lo ≤ x ∧ x ≤ hi
  | [], _, _, _ => ⟨[], rfl, by simp⟩
  | x :: xs, lo, hi, h => by
    rw [List.all_cons, Bool.and_eq_true] at h
    obtain ⟨ls, rfl, hl⟩ := nums_ints h.2
    cases x <;> simp [isNum] at h
    rename_i n
    exact ⟨n :: ls, rfl, fun y hy => by
      rcases List.mem_cons.mp hy with m | m
      · subst m; exact h.1
      · exact hl y m⟩
theorem areNums_cal {d : D} (h : areNums d 20 1 400 = true) : ∃ ls, d = intsD ls ∧ GCal ls := by
  cases d <;> simp [areNums] at h
  rename_i xs
  obtain ⟨ls, rfl, hl⟩ := nums_ints (lo := 1) (hi := 400) (xs := xs) (by rw [List.all_eq_true]; exact h.2)
  simp at h
  exact ⟨ls, rfl, by omega, by omega, hl⟩
theorem areNums_of {ls : List Int} (h : GCal ls) : areNums (intsD ls) 20 1 400 = true := by
  have := h.pos; have := h.most
  simp [areNums, intsD]
  refine ⟨by omega, fun x hx => ?_⟩
  have := h.each x hx
  simp [isNum]; omega
theorem cl_ints (ls : List Int) (n : Nat) : clL (ls.map D.int) n = true := clL_map fun x _ => by simp [D.cl]
theorem d_Calendar_init (kc : KCal K) : ∀ ds μ P PX, c_Calendar_init K ds μ P PX → MuCl μ μ.length → clL ds μ.length = true → ∀ B E, XAg K B (RetX μ.length PX) E → DS K B (t_Calendar_init K E) (startD ["self", "years", "days"] ds) μ (fnE μ.length P) := by
  intro ds μ P PX h hm hc B E hE
  obtain ⟨k, x, d, rfl, hk, fz, hd, h1, h2⟩ := h
  show DS K B _ [some (.own k), some x, none] μ _
  have c1 := kc.cl; have c2 := kc.lengths; have c3 := kc.begins; have c4 := kc.whole
  unfold t_Calendar_init
  wtm_at "A"
  refine ⟨x, d, 20, 1, 400, rfl, fz, hd, by decide, ?_⟩
  wtm_at "A"
  · exact ds_raise0 hE (retx_same0 hm rfl (h2 ‹_›))
  · rename_i hs
    obtain ⟨ls, rfl, hg⟩ := areNums_cal hs
    have hl : Ls μ x (ls.map D.int) := by
      cases fz with
      | id => exact .lst _
      | own h => exact .own h
    have kl := (List.getElem?_eq_some_iff.mp hk).1
    have hset : ∀ z, (μ.set k z)[k]? = some z := fun z => set_get hk
    have hlen : ∀ z : MO, (List.set μ k z).length = μ.length := fun z => by simp
    refine rc_list hl ?_
    wtm_at "A"
    refine pp_own hk c1 c2 (of_decide_eq_true (by rfl)) ?_
    wtm_at "A"
    refine de_lstOZ ?_
    wtm_at "A"
    rw [hlen]
    refine pp_own (mu_old (hset _)) c1 c3 (of_decide_eq_true (by rfl)) ?_
    rw [set_old (hset _), set_set']
    wtm_at "A"
    refine pp_own (mu_old (hset _)) c1 c4 (of_decide_eq_true (by rfl)) ?_
    rw [set_old (hset _), set_set']
    refine ds_ghostN ?_
    refine ds_for ?_
    wtm_at "A"
    refine fp_own (mu_old (hset _)) c1 c2 rfl ?_
    refine ⟨_, _, .lst _, fun i ρ μ' => ∃ y2, ρ = [some (.own k), some x, y2] ∧ μ' = μ.set k (.ins (cCal K) [("lengths", intsD ls), ("begins", .own μ.length), ("whole", .int (preY ls i))]) ++ [.lst (((List.range i).map (preY ls)).map D.int)],
      ⟨none, rfl, rfl⟩, fun _ _ _ _ _ => trivial, ?_, ?_⟩
    · rintro i d ρ μ' hd' ⟨y2, rfl, rfl⟩
      rw [List.getElem?_map] at hd'
      cases q : ls[i]? with
      | none => rw [q] at hd'; cases hd'
      | some n =>
        rw [q] at hd'
        obtain rfl : D.int n = d := Option.some.inj hd'
        have hi := (List.getElem?_eq_some_iff.mp q).1
        have hmost := hg.most
        have hlast : ∀ z : MO, ∀ o : MO, (μ.set k z ++ [o])[μ.length]? = some o := fun z o => by rw [← hlen z]; exact mu_last
        have hsetl : ∀ z : MO, ∀ o o' : MO, (μ.set k z ++ [o]).set μ.length o' = μ.set k z ++ [o'] := fun z o o' => by rw [← hlen z]; exact set_last
        wtm_at "A"
        refine fp_own (mu_old (hset _)) c1 c3 rfl ?_
        refine ⟨ty_list (.own (hlast _ _)), ?_⟩
        wtm_at "A"
        refine fp_own (mu_old (hset _)) c1 c4 rfl ?_
        wtm_at "A"
        refine rm_app (hlast _ _) (by simp; omega) ?_
        rw [hsetl]
        refine ds_fldAug ?_
        wtm_at "A"
        refine ⟨k, _, _, _, rfl, mu_old (hset _), c1, c4, rfl, ?_⟩
        wtm_at "A"
        refine ro_add ?_
        refine ⟨_, mu_old (hset _), by simp, ?_⟩
        rw [set_old (hset _), set_set']
        refine ⟨_, rfl, ?_⟩
        rw [← preY_succ q, List.range_succ, List.map_append, List.map_append]
        rfl
    · rintro ρ μ' ⟨y2, rfl, rfl⟩
      rw [List.length_map]
      have hlast : ∀ z : MO, ∀ o : MO, (μ.set k z ++ [o])[μ.length]? = some o := fun z o => by rw [← hlen z]; exact mu_last
      have hsetl : ∀ z : MO, ∀ o o' : MO, (μ.set k z ++ [o]).set μ.length o' = μ.set k z ++ [o'] := fun z o o' => by rw [← hlen z]; exact set_last
      refine ⟨_, gh_fld (f := "begins") (mu_old (hset _)) rfl (hlast _ _), ?_⟩
      rw [hsetl, set_old (hset _), set_set', preY_all]
      refine ret_same (by simp) ?_ rfl (h1 ls rfl hg)
      rw [hlen]
      refine hm.set ?_
      show clF (calF ls) _ = true
      simp only [clF, calF, D.cl, intsD, cl_ints, Bool.and_self]
theorem d_Calendar_years (kc : KCal K) : ∀ ds μ P PX, c_Calendar_years K ds μ P PX → MuCl μ μ.length → clL ds μ.length = true → ∀ B E, XAg K B (RetX μ.length PX) E → DS K B (t_Calendar_years K E) (startD ["self"] ds) μ (fnE μ.length P) := by
  intro ds μ P PX h hm hc B E hE
  obtain ⟨ls, rfl, h⟩ := h
  show DS K B _ [some (calD K ls)] μ _
  have c1 := kc.cl; have c2 := kc.lengths; have c3 := kc.begins; have c4 := kc.whole
  unfold t_Calendar_years
  rcases h with h | h
  · wtm_at "A"
    exact ret_same0 (Nat.le_refl _) hm (by simp [D.cl, cl_ints]) h
  · refine ds_ret (de_cb ?_)
    refine da_cons ?_
    wtm_at "f3"
    wtm_at "v"
    wtm_at "p3"
    wtm_at "dO"
    refine rc_listO (.lst _) ?_
    exact ret_same0 (by simp) (hm.app (by simp [MO.cl, cl_ints])) (by simp [D.cl]) h
theorem d_Calendar_turn (kc : KCal K) : ∀ ds μ P PX, c_Calendar_turn K ds μ P PX → MuCl μ μ.length → clL ds μ.length = true → ∀ B E, XAg K B (RetX μ.length PX) E → DS K B (t_Calendar_turn K E) (startD ["self"] ds) μ (fnE μ.length P) := by
  intro ds μ P PX h hm hc B E hE
  obtain ⟨ls, rfl, h⟩ := h
  show DS K B _ [some (calD K ls)] μ _
  have c1 := kc.cl; have c2 := kc.lengths; have c3 := kc.begins; have c4 := kc.whole
  unfold t_Calendar_turn
  wtm_at "A"
  wtm_at "r"
  exact h
theorem at_map {α : Type} {f : α → D} {xs : List α} {i : Int} {j : Nat} {x : α} (e : i = (j : Int)) (h : xs[j]? = some x) : atI (xs.map f) i = some (f x) := by
  rw [e]
  exact atI_nat (by rw [List.getElem?_map, h]; rfl)
theorem d_Calendar_long (kc : KCal K) : ∀ ds μ P PX, c_Calendar_long K ds μ P PX → MuCl μ μ.length → clL ds μ.length = true → ∀ B E, XAg K B (RetX μ.length PX) E → DS K B (t_Calendar_long K E) (startD ["self", "year"] ds) μ (fnE μ.length P) := by
  intro ds μ P PX h hm hc B E hE
  obtain ⟨ls, y, rfl, hg, h, hx⟩ := h
  show DS K B _ [some (calD K ls), some (.int y)] μ _
  have c1 := kc.cl; have c2 := kc.lengths; have c3 := kc.begins; have c4 := kc.whole
  have hp := hg.pos
  unfold t_Calendar_long
  wtm_at "A"
  refine ⟨y, rfl, fun hy => ?_, fun hy => retx_same0 hm rfl (hx hy)⟩
  wtm_at "A"
  refine ro_mod (by simp; omega) ?_
  have h1 := Int.emod_nonneg y (b := (ls.length : Int)) (by omega)
  rw [List.length_map]
  refine ro_ixL (.lst _) (at_map (j := (y % ls.length).toNat) (by omega) (longY_get hg hy)) ?_
  wtm_at "r"
  exact h hy
theorem d_Calendar_first (kc : KCal K) : ∀ ds μ P PX, c_Calendar_first K ds μ P PX → MuCl μ μ.length → clL ds μ.length = true → ∀ B E, XAg K B (RetX μ.length PX) E → DS K B (t_Calendar_first K E) (startD ["self", "year", "turns", "place"] ds) μ (fnE μ.length P) := by
  intro ds μ P PX h hm hc B E hE
  obtain ⟨ls, y, rfl, hg, h, hx⟩ := h
  show DS K B _ [some (calD K ls), some (.int y), none, none] μ _
  have c1 := kc.cl; have c2 := kc.lengths; have c3 := kc.begins; have c4 := kc.whole
  have hp := hg.pos; have hm20 := hg.most
  have hs := hg.sum_pos; have hs2 := hg.sum_le
  unfold t_Calendar_first
  wtm_at "A"
  refine ⟨y, rfl, fun hy => ?_, fun hy => retx_same0 hm rfl (hx hy)⟩
  wtm_at "A"
  rw [List.length_map]
  refine rc_divmod ⟨by omega, by omega⟩ ?_
  have h1 := Int.emod_nonneg y (b := (ls.length : Int)) (by omega)
  have h2 := Int.emod_lt_of_pos y (b := (ls.length : Int)) (by omega)
  wtm_at "A"
  refine ro_ixL (.lst _) (at_map (j := (y % ls.length).toNat) (by omega) (begins_get (by omega))) ?_
  wtm_at "A"
  wtm_at "r"
  exact h hy
theorem d_Calendar_at (kc : KCal K) : ∀ ds μ P PX, c_Calendar_at K ds μ P PX → MuCl μ μ.length → clL ds μ.length = true → ∀ B E, XAg K B (RetX μ.length PX) E → DS K B (t_Calendar_at K E) (startD ["self", "day", "turns", "left", "place", "begin"] ds) μ (fnE μ.length P) := by
  intro ds μ P PX h hm hc B E hE
  obtain ⟨ls, y, rfl, hg, h, hx⟩ := h
  show DS K B _ [some (calD K ls), some (.int y), none, none, none, none] μ _
  have c1 := kc.cl; have c2 := kc.lengths; have c3 := kc.begins; have c4 := kc.whole
  have hp := hg.pos; have hm20 := hg.most
  have hs := hg.sum_pos; have hs2 := hg.sum_le
  unfold t_Calendar_at
  wtm_at "A"
  refine ⟨y, rfl, fun hy => ?_, fun hy => retx_same0 hm rfl (hx hy)⟩
  wtm_at "A"
  refine rc_divmod ⟨by omega, by omega⟩ ?_
  wtm_at "A"
  refine lc_filt (fun d => match d with | .int b => decide (b ≤ y % ls.sum) | _ => false) id (gw_name (by simp)) ?_
  wtm_at "A"
  refine ⟨_, _, .lst _, trivial, by simp [begins_len]; omega, fun j d hj => ?_, fun out ho => ?_⟩
  · rw [List.getElem?_map] at hj
    cases q : (begins ls)[j]? with
    | none => rw [q] at hj; cases hj
    | some n =>
      rw [q] at hj
      obtain rfl : D.int n = d := Option.some.inj hj
      wtm_at "A"
      refine ⟨rfl, ?_⟩
      wtm_at "A"
      refine ⟨rfl, rfl, fun _ => ?_⟩
      wtm_at "A"
      exact ⟨rfl, rfl⟩
  have ho' : out = ((begins ls).filter fun b => decide (b ≤ y % ls.sum)).map D.int := by
    rw [← ho, List.filter_map, List.map_map]
    rfl
  subst ho'
  clear ho
  have hl := place_bd hg (left := y % ls.sum) (Int.emod_nonneg y (by omega))
  have hpl : (((((begins ls).filter fun b => decide (b ≤ y % ls.sum)).map D.int).length : Nat) : Int) - 1 = placeY ls (y % ls.sum) := by
    rw [List.length_map]; rfl
  wtm_at "A"
  rw [hpl]
  wtm_at "A"
  rw [List.length_map]
  wtm_at "A"
  refine ro_ixL (.lst _) (at_map (j := (placeY ls (y % ls.sum)).toNat) (by omega) (begins_get (by omega))) ?_
  wtm_at "A"
  wtm_at "r"
  exact h hy
end
end Dl
set_option Elab.async false
set_option linter.all false
set_option maxRecDepth 100000
set_option Elab.async false
set_option linter.all false
set_option maxRecDepth 100000
namespace Dl
open PySem L2 PyProof.Rows
/-! ### draws of the calendar laws: contracts -/
/-- what is held: how many draws so far, the cells -/
structure Hd (k k2 : Nat) (c : Int) (ns : List Int) (μ : Mu) : Prop where
  a : μ[k]? = some (.lst [.int c, .own k2])
  b : μ[k2]? = some (.lst (ns.map D.int))
  ne : k ≠ k2
  c0 : 0 ≤ c
  n0 : 0 < ns.length
  n1 : ns.length ≤ 1000
def hold (μ : Mu) (k k2 : Nat) (c : Int) (ns : List Int) : Mu := (μ.set k (.lst [.int c, .own k2])).set k2 (.lst (ns.map D.int))
theorem hold_len {μ : Mu} {k k2 : Nat} {c : Int} {ns : List Int} : (hold μ k k2 c ns).length = μ.length := by simp [hold]
theorem hold_hold {μ : Mu} {k k2 : Nat} {c c' : Int} {ns ns' : List Int} (ne : k ≠ k2) : hold (hold μ k k2 c ns) k k2 c' ns' = hold μ k k2 c' ns' := by
  unfold hold
  rw [List.set_comm _ _ (Ne.symm ne), List.set_set, List.set_set]
theorem Hd.hold {μ : Mu} {k k2 : Nat} {c c' : Int} {ns ns' : List Int} (h : Hd k k2 c ns μ) (hc : 0 ≤ c') (hn : ns'.length = ns.length) : Hd k k2 c' ns' (Dl.hold μ k k2 c' ns') := by
  have h1 := (List.getElem?_eq_some_iff.mp h.a).1
  have h2 := (List.getElem?_eq_some_iff.mp h.b).1
  refine ⟨?_, ?_, h.ne, hc, by have := h.n0; omega, by have := h.n1; omega⟩
  · unfold Dl.hold
    rw [List.getElem?_set_ne (Ne.symm h.ne), List.getElem?_set_self h1]
  · unfold Dl.hold
    rw [List.getElem?_set_self (by simpa using h2)]
theorem Hd.app {μ : Mu} {k k2 : Nat} {c : Int} {ns : List Int} (h : Hd k k2 c ns μ) (ext : Mu) : Hd k k2 c ns (μ ++ ext) := ⟨mu_old h.a, mu_old h.b, h.ne, h.c0, h.n0, h.n1⟩
theorem hold_app {μ ext : Mu} {k k2 : Nat} {c c' : Int} {ns ns' : List Int} (h : Hd k k2 c ns μ) : hold (μ ++ ext) k k2 c' ns' = hold μ k k2 c' ns' ++ ext := by
  have h1 := (List.getElem?_eq_some_iff.mp h.a).1
  have h2 := (List.getElem?_eq_some_iff.mp h.b).1
  unfold hold
  rw [List.set_append_left _ _ h1, List.set_append_left _ _ (by simpa using h2)]
theorem Hd.cl {μ : Mu} {k k2 : Nat} {c c' : Int} {ns ns' : List Int} (h : Hd k k2 c ns μ) (hm : MuCl μ μ.length) : MuCl (Dl.hold μ k k2 c' ns') (Dl.hold μ k k2 c' ns').length := by
  have h2 := (List.getElem?_eq_some_iff.mp h.b).1
  rw [hold_len]
  unfold Dl.hold
  refine (hm.set ?_).set ?_
  · simp [MO.cl, clL, D.cl, h2]
  · simp only [MO.cl]
    exact clL_map fun x _ => by simp [D.cl]
def c_law_draw (K : PySem.W.Frag) : CT := fun ds μ P PX => ∃ (k k2 : Nat) (c : Int) (ns : List Int) (m : Int), ds = [.own k, .int m] ∧ Hd k k2 c ns μ ∧ c < 2 ^ 40 ∧ 0 < m ∧ m < 2 ^ 200 ∧ ∀ (r : Int) (ns' : List Int), 0 ≤ r → r < m → ns'.length = ns.length → P (.int r) (hold μ k k2 (c + 1) ns')
def c_law_far (K : PySem.W.Frag) : CT := fun ds μ P PX => ∃ (k k2 : Nat) (c : Int) (ns : List Int), ds = [.own k] ∧ Hd k k2 c ns μ ∧ c < 2 ^ 39 ∧ ∀ (r c' : Int) (ns' : List Int), 0 ≤ r → r < 10 ^ 56 → c ≤ c' → c' ≤ c + 8 → ns'.length = ns.length → P (.int r) (hold μ k k2 c' ns')
def c_law_lengths (K : PySem.W.Frag) : CT := fun ds μ P PX => ∃ (k k2 : Nat) (c : Int) (ns : List Int) (most many : Int), ds = [.own k, .int most, .int many] ∧ Hd k k2 c ns μ ∧ c < 2 ^ 39 ∧ 1 ≤ most ∧ most ≤ 1000 ∧ 1 ≤ many ∧ many ≤ 100 ∧
  ∀ (ls : List Int) (c' : Int) (ns' : List Int), 0 < ls.length → (ls.length : Int) ≤ many → (∀ x ∈ ls, 1 ≤ x ∧ x ≤ max 5 most) → c ≤ c' → c' ≤ c + 2 + many → ns'.length = ns.length → P (intsD ls) (hold μ k k2 c' ns')
def c_law_is (K : PySem.W.Frag) : CT := fun ds μ P PX => ∃ a : Int, ds = [.int a, .int a] ∧ P (.bl true) μ
/-- a list, a tuple of whole numbers -/
inductive SeqI (μ : Mu) : Bool → D → List Int → Prop
  | lst (xs : List Int) : SeqI μ true (.lst (xs.map D.int)) xs
  | own {k : Nat} {xs : List Int} (h : μ[k]? = some (.lst (xs.map D.int))) : SeqI μ true (.own k) xs
  | tup (xs : List Int) : SeqI μ false (.tup (xs.map D.int)) xs
def c_law_row_is (K : PySem.W.Frag) : CT := fun ds μ P PX => ∃ (x y : D) (b : Bool) (xs : List Int), ds = [x, y] ∧ SeqI μ b x xs ∧ SeqI μ b y xs ∧ xs.length ≤ 1000 ∧ P (.bl true) μ
def t_law_draw (K : PySem.W.Frag) (E : XK) : TS :=
    (tSeq (tAsg (tOp rModA (tOp (rIx K) (tVar 0) (tC (.int 0))) (tCB (rLen K) (tCons (tOp (rIx K) (tVar 0) (tC (.int 1))) tNil))) (gName 2))
      (tSeq (tAsg (tOp (rIx K) (tOp (rIx K) (tVar 0) (tC (.int 1))) (tVar 2)) (gName 3))
      (tSeq (tAugS (tVar 0) (tC (.int 0)) (tC (.int 1)) (rIxL K) (ipI fun i j => i + j) rSetL)
      (tSeq (tIfS (tTest (tOp (rI0 fun i j => .bl (decide (j ≤ i))) (tVar 3) (tC (.int 1000000000000000000)))) (tSeq (tAsg (tOp rFdivA (tVar 3) (tVar 1)) (gSub (tOp (rIx K) (tVar 0) (tC (.int 1))) (tVar 2) rSetL))
      (tRet (tOp rModA (tVar 3) (tVar 1)))) tNext)
      (tSeq (tAsg (tOp rModA (tOp (rAddA K) (tOp rModA (tVar 3) (tC (.int 2147483629))) (tOp rMulA (tC (.int 104729)) (tOp (rIx K) (tVar 0) (tC (.int 0))))) (tC (.int 2147483647))) (gName 4))
      (tSeq (tAsg (tOp rModA (tOp rMulA (tOp rModA (tOp (rI CPow fun i j => .int (i ^ j.toNat)) (tVar 4) (tC (.int 5))) (tC (.int 2147483647))) (tC (.int 48271))) (tC (.int 2147483629))) (gName 4))
      (tRet (tOp rModA (tOp rFdivA (tOp rModA (tOp (rI CPow fun i j => .int (i ^ j.toNat)) (tOp (rAddA K) (tVar 4) (tOp rMulA (tOp rModA (tVar 3) (tC (.int 1000003))) (tOp (rIx K) (tVar 0) (tC (.int 0))))) (tC (.int 3))) (tC (.int 2147483587))) (tC (.int 11))) (tVar 1)))))))))
def t_law_far (K : PySem.W.Frag) (E : XK) : TS :=
    (tSeq (tAsg (tCall (spD K (c_law_draw K)) [] E (tCons (tVar 0) (tCons (tC (.int 4)) tNil))) (gName 1))
      (tSeq (tIfS (tTest (tOp (rI0 fun i j => .bl (decide (i < j))) (tVar 1) (tC (.int 2)))) (tRet (tCall (spD K (c_law_draw K)) [] E (tCons (tVar 0) (tCons (tOp (rIx K) (tLst (tCons (tC (.int 1000)) (tCons (tC (.int 10000000)) tNil))) (tVar 1)) tNil)))) tNext)
      (tSeq (tAsg (tC (.int 0)) (gName 2))
      (tSeq (tFor (iRng1 (tCons (tC (.int 7)) tNil)) (gName 3) (tAsg (tOp (rAddA K) (tOp rMulA (tVar 2) (tC (.int 100000000))) (tCall (spD K (c_law_draw K)) [] E (tCons (tVar 0) (tCons (tC (.int 100000000)) tNil)))) (gName 2)))
      (tRet (tVar 2))))))
def t_law_lengths (K : PySem.W.Frag) (E : XK) : TS :=
    (tSeq (tAsg (tCall (spD K (c_law_draw K)) [] E (tCons (tVar 0) (tCons (tC (.int 8)) tNil))) (gName 3))
      (tSeq (tIfS (tTest (tOp (rEqD K) (tVar 3) (tC (.int 0)))) (tRet (tOp rMulA (tLst (tCons (tVar 1) tNil)) (tVar 2))) tNext)
      (tSeq (tAsg (tOp (rIx K) (tLst (tCons (tC (.int 1)) (tCons (tC (.int 2)) (tCons (tC (.int 5)) (tCons (tVar 1) (tCons (tVar 1) (tCons (tVar 1) (tCons (tVar 1) tNil)))))))) (tOp (rI0 fun i j => .int (i - j)) (tVar 3) (tC (.int 1)))) (gName 4))
      (tRet (tLc (iRng1 (tCons (tOp (rAddA K) (tC (.int 1)) (tCall (spD K (c_law_draw K)) [] E (tCons (tVar 0) (tCons (tVar 2) tNil)))) tNil)) (gName 5) tYes (tOp (rAddA K) (tC (.int 1)) (tCall (spD K (c_law_draw K)) [] E0 (tCons (tVar 0) (tCons (tVar 4) tNil)))) [5])))))
def t_law_is (K : PySem.W.Frag) (E : XK) : TS :=
    (tRet (tAndV (tCB (rIsi K) (tCons (tVar 0) (tCons (tC (.ty "int")) tNil))) (tAndV (tNotV (tCB (rIsi K) (tCons (tVar 0) (tCons (tC (.ty "bool")) tNil)))) (tOp (rEqD K) (tVar 0) (tVar 1)))))
def t_law_row_is (K : PySem.W.Frag) (E : XK) : TS :=
    (tSeq (tIfS (tOr (tTest (tOp (rNeD K) (tCB (rIsi K) (tCons (tVar 0) (tCons (tC (.ty "list")) tNil))) (tCB (rIsi K) (tCons (tVar 1) (tCons (tC (.ty "list")) tNil))))) (tTest (tOp (rNeD K) (tCB (rIsi K) (tCons (tVar 0) (tCons (tC (.ty "tuple")) tNil))) (tCB (rIsi K) (tCons (tVar 1) (tCons (tC (.ty "tuple")) tNil)))))) (tRet (tC (.bl false))) tNext)
      (tSeq (tIfS (tTest (tOp (rNeD K) (tCB (rLen K) (tCons (tVar 0) tNil)) (tCB (rLen K) (tCons (tVar 1) tNil)))) (tRet (tC (.bl false))) tNext)
      (tRet (tOp (rEqD K) (tLc (iRng1 (tCons (tCB (rLen K) (tCons (tVar 1) tNil)) tNil)) (gName 2) (tNot (tTruth K (tCall (spD K (c_law_is K)) [] E0 (tCons (tOp (rIx K) (tVar 0) (tVar 2)) (tCons (tOp (rIx K) (tVar 1) (tVar 2)) tNil))))) (tVar 2) [2]) (tLst tNil)))))
local macro_rules | `(tactic| wtm_at "dS") => `(tactic| with_reducible (show DS _ _ _ _ _ _; first
  | refine q_set ?_
  | refine q_when ?_
  | refine ds_ret ?_
  | refine ds_set ?_
  | refine q_drop ?_
  | refine q_if ?_
  | refine q_asg ?_
  | refine q_par ?_
  | refine q_fld ?_
  | refine ds_drop ?_
  | refine s_when ?_
  | refine ds_if ?_
  | refine ds_asg ?_
  | refine ds_next ?_
  | refine ds_par ?_
  | refine ds_fld ?_
  | refine ds_retN ?_))
local macro_rules | `(tactic| wtm_at "dE") => `(tactic| with_reducible (show DE _ _ _ _ _ _; first
  | refine de_op ?_
  | refine de_int ?_
  | refine de_cb ?_
  | refine de_bl ?_
  | refine de_non ?_
  | refine de_str ?_
  | refine de_ty ?_
  | refine de_loc ?_
  | refine de_un ?_
  | refine de_andV ?_
  | refine de_orV ?_
  | refine de_notV ?_
  | refine de_if ?_
  | refine de_chain ?_
  | refine de_chain3 ?_
  | refine de_isN ?_
  | refine de_notN ?_
  | refine de_sl ?_
  | refine de_bm ?_
  | refine de_bm0 ?_))
local macro_rules | `(tactic| wtm_at "dT") => `(tactic| with_reducible (show DT _ _ _ _ _ _; first
  | refine dt_test ?_
  | refine dt_truth ?_
  | refine dt_and ?_
  | refine dt_or ?_
  | refine dt_not ?_
  | refine dt_B ?_
  | refine dt_yes ?_))
local macro_rules | `(tactic| wtm_at "dO") => `(tactic| with_reducible (first
  | refine da_cons ?_
  | refine da_nil ?_
  | refine ro_i ?_
  | refine ro_b ?_
  | refine ro_addI ?_
  | refine ro_eqI ?_
  | refine ro_neI ?_
  | refine ru_i ?_
  | refine ro_ip ?_
  | refine rc_max2' ?_
  | refine rc_min2' ?_
  | refine ro_eqB ?_
  | refine ro_neB ?_
  | refine ro_isB ?_
  | refine ro_notB ?_
  | refine do_no ?_
  | refine do_part ?_
  | refine dg_name ?_
  | refine dgs_cons ?_
  | refine dgs_nil ?_
  | refine dg_sub ?_
  | refine di_range1 ?_
  | refine di_range2 ?_
  | refine di_any ?_
  | refine di_enum' ?_))
local macro_rules | `(tactic| wtm_at "v") => `(tactic| ((with_reducible show DE _ _ (tVar _) _ _ _); refine de_var (by first | rfl | assumption) ?_))
local macro_rules | `(tactic| wtm_at "h") => `(tactic| with_reducible refine ⟨_, rfl, ?_⟩)
local macro_rules | `(tactic| wtm_at "b") => `(tactic| ((first | refine ⟨_, rfl, br ?_ ?_⟩ | refine ⟨_, rfl, br' ?_ ?_⟩ | refine br ?_ ?_ | refine br' ?_ ?_ | fail) <;> intro hb <;> (try contradiction) <;> (try (simp only [decide_eq_true_eq, decide_eq_false_iff_not, Bool.not_eq_true', Bool.not_eq_false', Bool.not_true, Bool.not_false, Bool.not_eq_eq_eq_not, reduceCtorEq, List.length_map] at hb)) <;> (try (exfalso; omega; done))))
local macro_rules | `(tactic| wtm_at "i") => `(tactic| first | refine rc_isiD (by assumption) (by decide) ?_ | refine rc_isiB rfl (by first | rfl | decide +kernel) ?_)
local macro_rules | `(tactic| wtm_at "r") => `(tactic| refine ret_same0 (Nat.le_refl _) (by assumption) (by first | rfl | simp [D.cl, clL]) ?_)
local macro_rules | `(tactic| wtm_at "g") => `(tactic| repeat' first | wtm_at "v" | wtm_at "dE" | wtm_at "dO" | wtm_at "dT" | wtm_at "dS" | fail)
local macro_rules | `(tactic| wtm_at "a") => `(tactic| repeat' first | wtm_at "v" | wtm_at "dE" | wtm_at "dO" | wtm_at "dT" | wtm_at "dS" | wtm_at "i" | wtm_at "l" | wtm_at "x" | wtm_at "h" | wtm_at "b" | fail)
local macro_rules | `(tactic| wtm_at "l") => `(tactic| first | refine rc_lenL (.lst _) ?_ | refine rc_lenT' (.tup _) ?_ | refine rc_lenL (.rdl _) ?_ | refine rc_lenL (.own (by first | assumption | exact mu_last)) ?_)
local macro_rules | `(tactic| wtm_at "x") => `(tactic| refine ro_ixT (.tup _) rfl ?_)
local macro_rules | `(tactic| wtm_at "ow") => `(tactic| first | assumption | exact mu_last | exact mu_old (by assumption) | (simp; done) | fail)
local macro_rules | `(tactic| wtm_at "m") => `(tactic| refine ⟨ty_list (.own (by wtm_at "ow")), ?_⟩)
local macro_rules | `(tactic| wtm_at "e") => `(tactic| repeat' first | wtm_at "v" | wtm_at "dE" | wtm_at "dO" | wtm_at "dT" | wtm_at "i" | wtm_at "l" | wtm_at "x" | wtm_at "h" | wtm_at "b" | fail)
local macro_rules | `(tactic| wtm_at "sz") => `(tactic| ((with_reducible show Sz _ ∧ _); refine And.intro (by unfold Sz; first | decide | (simp; done) | (simp; omega) | omega) ?_))
local macro_rules | `(tactic| wtm_at "d2") => `(tactic| with_reducible (first
  | refine de_tupZ ?_
  | refine de_revL ?_
  | refine de_call (by assumption) ?_))
local macro_rules | `(tactic| wtm_at "o2") => `(tactic| first
  | refine ro_mod (by first | decide | omega) ?_
  | refine ro_pow ⟨by decide, by decide, by decide⟩ ?_
  | refine rs_anyL (.lst _) ?_
  | refine ro_mulI (by first | exact .inl ⟨by omega, by omega⟩ | exact .inr ⟨by omega, by omega⟩) ?_
  | refine rc_list (.lst _) ?_
  | refine dg_tup rfl ?_
  | fail)
local macro_rules | `(tactic| wtm_at "h2") => `(tactic| with_reducible (first | refine two_i ?_ | refine ⟨_, Ls.lst _, ?_⟩))
local macro_rules | `(tactic| wtm_at "sP") => `(tactic| with_reducible (first | refine q_parZ ?_ | refine ds_parZ ?_))
local macro_rules | `(tactic| wtm_at "A") => `(tactic| repeat' first | wtm_at "v" | wtm_at "dE" | wtm_at "dO" | wtm_at "dT" | wtm_at "sP" | wtm_at "dS" | wtm_at "d2" | wtm_at "i" | wtm_at "l" | wtm_at "x" | wtm_at "o2" | wtm_at "h" | wtm_at "h2" | wtm_at "sz" | wtm_at "b" | fail)
local macro_rules | `(tactic| wtm_at "E") => `(tactic| repeat' first | wtm_at "v" | wtm_at "dE" | wtm_at "dO" | wtm_at "dT" | wtm_at "d2" | wtm_at "i" | wtm_at "l" | wtm_at "x" | wtm_at "o2" | wtm_at "h" | wtm_at "h2" | wtm_at "sz" | wtm_at "b" | fail)
local macro_rules | `(tactic| wtm_at "f3") => `(tactic| with_reducible (first
  | refine de_fldZ ?_
  | refine de_methZ (by assumption) ?_))
local macro_rules | `(tactic| wtm_at "p3") => `(tactic| first
  | refine fp_obj (by assumption) (by assumption) (by rfl) ?_
  | refine fp_own (by assumption) (by assumption) (by assumption) (by rfl) ?_
  | refine mp_obj (by rfl) ?_
  | refine mp_own (by assumption) (by rfl) ?_)
local macro_rules | `(tactic| wtm_at "s3") => `(tactic| with_reducible (first | refine q_fldZ ?_ | refine ds_fldZ ?_))
local macro_rules | `(tactic| wtm_at "A") => `(tactic| repeat' first | wtm_at "v" | wtm_at "dE" | wtm_at "dO" | wtm_at "dT" | wtm_at "sP" | wtm_at "s3" | wtm_at "dS" | wtm_at "d2" | wtm_at "f3" | wtm_at "i" | wtm_at "l" | wtm_at "x" | wtm_at "o2" | wtm_at "h" | wtm_at "h2" | wtm_at "sz" | wtm_at "p3" | wtm_at "b" | fail)
local macro_rules | `(tactic| wtm_at "E") => `(tactic| repeat' first | wtm_at "v" | wtm_at "dE" | wtm_at "dO" | wtm_at "dT" | wtm_at "d2" | wtm_at "f3" | wtm_at "i" | wtm_at "l" | wtm_at "x" | wtm_at "o2" | wtm_at "h" | wtm_at "h2" | wtm_at "sz" | wtm_at "p3" | wtm_at "b" | fail)
section
variable {K : PySem.W.Frag}
theorem d_law_draw : ∀ ds μ P PX, c_law_draw K ds μ P PX → MuCl μ μ.length → clL ds μ.length = true → ∀ B E, XAg K B (RetX μ.length PX) E → DS K B (t_law_draw K E) (startD ["_law_hold", "_law_many", "_law_spot", "_law_cell", "_law_mark"] ds) μ (fnE μ.length P) := by
  intro ds μ P PX h hm hc B E hE
  obtain ⟨k, k2, c, ns, m, rfl, hd, hc40, hm0, hm1, h⟩ := h
  show DS K B _ [some (.own k), some (.int m), none, none, none] μ _
  have hn0 := hd.n0; have hc0 := hd.c0
  unfold t_law_draw
  wtm_at "A"
  refine ro_ixL (.own hd.a) (d := .int c) rfl ?_
  wtm_at "A"
  refine ro_ixL (.own hd.a) (d := .own k2) rfl ?_
  wtm_at "A"
  refine rc_lenL (.own hd.b) ?_
  rw [List.length_map]
  wtm_at "A"
  refine ro_ixL (.own hd.a) (d := .own k2) rfl ?_
  have hs0 := Int.emod_nonneg c (b := (ns.length : Int)) (by omega)
  have hs1 := Int.emod_lt_of_pos c (b := (ns.length : Int)) (by omega)
  obtain ⟨cell, hcell, hcell'⟩ := atNN (xs := ns) hs0 hs1
  wtm_at "A"
  refine ro_ixL (.own hd.b) (d := .int cell) (at_map (j := (c % ns.length).toNat) (by omega) hcell') ?_
  wtm_at "A"
  refine q_augS ?_
  wtm_at "A"
  refine ro_ixLL (.own hd.a) (d := .int c) rfl ?_
  wtm_at "A"
  refine rset_lst hd.a (j := 0) rfl ?_
  have e1 : (μ.set k (.lst ([D.int c, .own k2].set 0 (.int (c + 1))))) = hold μ k k2 (c + 1) ns := by
    unfold hold
    show μ.set k (.lst [.int (c + 1), .own k2]) = _
    apply List.ext_getElem?
    intro i
    by_cases e : k2 = i
    · subst e
      rw [List.getElem?_set_self (by simpa using (List.getElem?_eq_some_iff.mp hd.b).1), List.getElem?_set_ne hd.ne, hd.b]
    · rw [List.getElem?_set_ne e]
  rw [e1]
  have hd1 : Hd k k2 (c + 1) ns (hold μ k k2 (c + 1) ns) := hd.hold (by omega) rfl
  have ret : ∀ (r : Int) (ns' : List Int), 0 ≤ r → r < m → ns'.length = ns.length → Ret μ.length P (.int r) (hold μ k k2 (c + 1) ns') := fun r ns' h0 h1 hn => ret_same0 (by rw [hold_len]; exact Nat.le_refl _) (hd.cl hm) rfl (h r ns' h0 h1 hn)
  have hr : ∀ z : Int, 0 ≤ z % m ∧ z % m < m := fun z => ⟨Int.emod_nonneg z (by omega), Int.emod_lt_of_pos z hm0⟩
  wtm_at "A"
  · refine ro_fdiv hm0 (log2S hm0 hm1) ?_
    wtm_at "A"
    refine ro_ixL (.own hd1.a) (d := .own k2) rfl ?_
    wtm_at "A"
    refine rset_lst hd1.b (j := (c % ns.length).toNat) (by unfold ixN; rw [if_pos hs0, if_pos (by rw [List.length_map]; omega)]) ?_
    rw [show (hold μ k k2 (c + 1) ns).set k2 (.lst ((ns.map D.int).set (c % ns.length).toNat (.int (cell / m)))) = hold μ k k2 (c + 1) (ns.set (c % ns.length).toNat (cell / m)) by
      unfold hold
      rw [List.set_set, List.map_set]]
    wtm_at "A"
    exact ret _ _ (hr _).1 (hr _).2 (by simp)
  · have q1 := Int.emod_nonneg cell (b := 2147483629) (by decide)
    have q2 := Int.emod_lt_of_pos cell (b := 2147483629) (by decide)
    have q3 := Int.emod_nonneg cell (b := 1000003) (by decide)
    have q4 := Int.emod_lt_of_pos cell (b := 1000003) (by decide)
    refine ro_ixL (.own hd1.a) (d := .int (c + 1)) rfl ?_
    wtm_at "A"
    have q5 := Int.emod_nonneg (cell % 2147483629 + 104729 * (c + 1)) (b := 2147483647) (by decide)
    have q6 := Int.emod_lt_of_pos (cell % 2147483629 + 104729 * (c + 1)) (b := 2147483647) (by decide)
    refine ro_pow ⟨by decide, by decide, by omega⟩ ?_
    generalize hz : (cell % 2147483629 + 104729 * (c + 1)) % 2147483647 = z at *
    wtm_at "A"
    refine ro_ixL (.own hd1.a) (d := .int (c + 1)) rfl ?_
    wtm_at "A"
    generalize hy : z ^ (5 : Int).toNat % 2147483647 * 48271 % 2147483629 = y at *
    have q7 : 0 ≤ y ∧ y < 2147483629 := by
      rw [← hy]
      exact ⟨Int.emod_nonneg _ (by decide), Int.emod_lt_of_pos _ (by decide)⟩
    have q8 : 0 ≤ cell % 1000003 * (c + 1) ∧ cell % 1000003 * (c + 1) ≤ 1000003 * (2 ^ 40 + 1) := by
      refine ⟨Int.mul_nonneg q3 (by omega), ?_⟩
      exact Int.mul_le_mul (by omega) (by omega) (by omega) (by decide)
    refine ro_pow ⟨by decide, by decide, by omega⟩ ?_
    wtm_at "A"
    refine ro_fdiv (by decide) (by decide) ?_
    wtm_at "A"
    exact ret _ _ (hr _).1 (hr _).2 rfl
theorem d_law_far : ∀ ds μ P PX, c_law_far K ds μ P PX → MuCl μ μ.length → clL ds μ.length = true → ∀ B E, XAg K B (RetX μ.length PX) E → DS K B (t_law_far K E) (startD ["_law_hold", "_law_way", "_law_number", "_law_k"] ds) μ (fnE μ.length P) := by
  intro ds μ P PX h hm hc B E hE
  obtain ⟨k, k2, c, ns, rfl, hd, hc39, h⟩ := h
  show DS K B _ [some (.own k), none, none, none] μ _
  have hn0 := hd.n0; have hc0 := hd.c0
  have ret : ∀ (r c' : Int) (ns' : List Int), 0 ≤ r → r < 10 ^ 56 → c ≤ c' → c' ≤ c + 8 → ns'.length = ns.length → Ret μ.length P (.int r) (hold μ k k2 c' ns') := fun r c' ns' h0 h1 h2 h3 hn => ret_same0 (by rw [hold_len]; exact Nat.le_refl _) (hd.cl hm) rfl (h r c' ns' h0 h1 h2 h3 hn)
  unfold t_law_far
  wtm_at "A"
  refine ⟨k, k2, c, ns, 4, rfl, hd, by omega, by decide, by decide, fun w ns1 hw0 hw1 hn1 => ?_⟩
  have hd1 := hd.hold (c' := c + 1) (ns' := ns1) (by omega) hn1
  wtm_at "A"
  · refine de_lstZ ?_
    wtm_at "A"
    have hw : w = 0 ∨ w = 1 := by omega
    obtain ⟨top, htop, ht0, ht1⟩ : ∃ top, atI [D.int 1000, .int 10000000] w = some (.int top) ∧ 0 < top ∧ top ≤ 10000000 := by
      rcases hw with rfl | rfl
      · exact ⟨1000, rfl, by decide, by decide⟩
      · exact ⟨10000000, rfl, by decide, by decide⟩
    refine ro_ixL (.lst _) htop ?_
    wtm_at "A"
    refine ⟨k, k2, _, ns1, top, rfl, hd1, by omega, ht0, by omega, fun r ns2 hr0 hr1 hn2 => ?_⟩
    rw [hold_hold hd.ne]
    exact ret r _ ns2 hr0 (by omega) (by omega) (by omega) (by omega)
  · refine q_for ?_
    wtm_at "E"
    refine ⟨by decide, by decide, fun i ρ μ' => ∃ (num : Int) (y3 : Option D) (ns2 : List Int), ρ = [some (.own k), some (.int w), some (.int num), y3] ∧ hold μ k k2 (c + 1 + i) ns2 = μ' ∧ ns2.length = ns.length ∧ 0 ≤ num ∧ num < 100000000 ^ i ∧ i ≤ 7,
      ⟨0, none, ns1, rfl, by simp, hn1, by omega, by decide, by omega⟩, fun _ _ _ _ _ => trivial, ?_, ?_⟩
    · rintro i d ρ μ' hd' ⟨num, y3, ns2, rfl, rfl, hn2, h0, h1, hi7⟩
      obtain ⟨hi, rfl⟩ := rangeD_some hd'
      have hd2 := hd.hold (c' := c + 1 + i) (ns' := ns2) (by omega) hn2
      wtm_at "A"
      refine ⟨k, k2, _, ns2, 100000000, rfl, hd2, by omega, by decide, by decide, fun r ns3 hr0 hr1 hn3 => ?_⟩
      rw [hold_hold hd.ne]
      wtm_at "A"
      refine ⟨_, _, ns3, rfl, by rw [show c + 1 + (i : Int) + 1 = c + 1 + ((i + 1 : Nat) : Int) by omega], by omega, by omega, ?_, by omega⟩
      rw [Int.pow_succ]
      omega
    · rintro ρ μ' ⟨num, y3, ns2, rfl, rfl, hn2, h0, h1, hi7⟩
      wtm_at "A"
      refine ret num _ ns2 h0 ?_ (by omega) ?_ hn2
      · have : (100000000 : Int) ^ (rangeD 0 (Int.toNat 7)).length = 10 ^ 56 := by
          rw [rangeD_length]; decide
        omega
      · have : (rangeD 0 (Int.toNat 7)).length = 7 := by rw [rangeD_length]; rfl
        omega
theorem d_law_lengths : ∀ ds μ P PX, c_law_lengths K ds μ P PX → MuCl μ μ.length → clL ds μ.length = true → ∀ B E, XAg K B (RetX μ.length PX) E → DS K B (t_law_lengths K E) (startD ["_law_hold", "_law_most", "_law_many", "_law_way", "_law_some", "_law_k"] ds) μ (fnE μ.length P) := by
  intro ds μ P PX h hm hc B E hE
  obtain ⟨k, k2, c, ns, most, many, rfl, hd, hc39, hm0, hm1, hy0, hy1, h⟩ := h
  show DS K B _ [some (.own k), some (.int most), some (.int many), none, none, none] μ _
  have hn0 := hd.n0; have hc0 := hd.c0
  have ret : ∀ (ls : List Int) (c' : Int) (ns' : List Int), 0 < ls.length → (ls.length : Int) ≤ many → (∀ x ∈ ls, 1 ≤ x ∧ x ≤ max 5 most) → c ≤ c' → c' ≤ c + 2 + many → ns'.length = ns.length → Ret μ.length P (.lst (ls.map D.int)) (hold μ k k2 c' ns') := fun ls c' ns' h0 h1 h2 h3 h4 hn => ret_same0 (by rw [hold_len]; exact Nat.le_refl _) (hd.cl hm) (by simp [D.cl, cl_ints]) (h ls c' ns' h0 h1 h2 h3 h4 hn)
  unfold t_law_lengths
  wtm_at "A"
  refine ⟨k, k2, c, ns, 8, rfl, hd, by omega, by decide, by decide, fun w ns1 hw0 hw1 hn1 => ?_⟩
  have hd1 := hd.hold (c' := c + 1) (ns' := ns1) (by omega) hn1
  wtm_at "A"
  · refine de_lstZ ?_
    wtm_at "A"
    refine ro_rep (.lst _) (by omega) (by simp; omega) ?_
    have e : repD [D.int most] many = (List.replicate many.toNat most).map D.int := by
      simp [repD]
    rw [e]
    exact ret _ _ ns1 (by simp; omega) (by simp; omega) (fun x hx => by rw [List.mem_replicate] at hx; omega) (by omega) (by omega) hn1
  · refine de_lstZ ?_
    wtm_at "A"
    obtain ⟨top, htop, ht0, ht1⟩ : ∃ top, atI [D.int 1, .int 2, .int 5, .int most, .int most, .int most, .int most] (w - 1) = some (.int top) ∧ 0 < top ∧ top ≤ max 5 most := by
      have hw : w - 1 = 0 ∨ w - 1 = 1 ∨ w - 1 = 2 ∨ w - 1 = 3 ∨ w - 1 = 4 ∨ w - 1 = 5 ∨ w - 1 = 6 := by omega
      rcases hw with e | e | e | e | e | e | e <;> rw [e]
      · exact ⟨1, rfl, by omega, by omega⟩
      · exact ⟨2, rfl, by omega, by omega⟩
      · exact ⟨5, rfl, by omega, by omega⟩
      all_goals exact ⟨most, rfl, by omega, by omega⟩
    refine ro_ixL (.lst _) htop ?_
    wtm_at "A"
    refine de_lc (gw_name (by simp)) ?_
    wtm_at "A"
    refine ⟨k, k2, _, ns1, many, rfl, hd1, by omega, by omega, by omega, fun n ns2 hn0' hn1' hn2 => ?_⟩
    rw [hold_hold hd.ne]
    wtm_at "A"
    refine ⟨by omega, by omega, by rw [rangeD_length]; omega, fun i acc μ' => ∃ (ls ns3 : List Int), acc = ls.map D.int ∧ μ' = hold μ k k2 (c + 2 + i) ns3 ∧ ns3.length = ns.length ∧ ls.length = i ∧ ∀ x ∈ ls, 1 ≤ x ∧ x ≤ max 5 most,
      ⟨[], ns2, rfl, by rw [show c + 1 + 1 = c + 2 + ((0 : Nat) : Int) by omega], by omega, rfl, by simp⟩, fun _ _ _ _ _ => trivial, ?_, ?_⟩
    · rintro i d acc μ' hd' ⟨ls, ns3, rfl, rfl, hn3, hli, hls⟩
      obtain ⟨hi, rfl⟩ := rangeD_some hd'
      have hd3 := hd.hold (c' := c + 2 + i) (ns' := ns3) (by omega) hn3
      wtm_at "E"
      refine de_call XAg.none ?_
      wtm_at "E"
      refine ⟨k, k2, _, ns3, top, rfl, hd3, by omega, ht0, by omega, fun r ns4 hr0 hr1 hn4 => ?_⟩
      rw [hold_hold hd.ne]
      wtm_at "E"
      refine ⟨ls ++ [1 + r], ns4, by simp, by rw [show c + 2 + (i : Int) + 1 = c + 2 + ((i + 1 : Nat) : Int) by omega], by omega, by simp [hli], fun x hx => ?_⟩
      rcases List.mem_append.mp hx with m | m
      · exact hls x m
      · simp at m; subst m; omega
    · rintro acc μ' ⟨ls, ns3, rfl, rfl, hn3, hli, hls⟩
      rw [rangeD_length] at hli ⊢
      exact ret ls _ ns3 (by omega) (by omega) hls (by omega) (by omega) hn3
theorem d_law_is : ∀ ds μ P PX, c_law_is K ds μ P PX → MuCl μ μ.length → clL ds μ.length = true → ∀ B E, XAg K B (RetX μ.length PX) E → DS K B (t_law_is K E) (startD ["_law_found", "_law_due"] ds) μ (fnE μ.length P) := by
  intro ds μ P PX h hm hc B E hE
  obtain ⟨a, rfl, h⟩ := h
  show DS K B _ [some (.int a), some (.int a)] μ _
  unfold t_law_is
  wtm_at "A"
  wtm_at "r"
  simpa using h
theorem SeqI.len {μ : Mu} {b : Bool} {x : D} {xs : List Int} {P : D → Mu → Prop} (h : SeqI μ b x xs) (p : P (.int (xs.length : Int)) μ) : RC K (rLen K) [x] μ P := by
  have e : ((xs.map D.int).length : Int) = (xs.length : Int) := by rw [List.length_map]
  cases h with
  | lst => exact rc_lenL (.lst _) (by rw [e]; exact p)
  | own h => exact rc_lenL (.own h) (by rw [e]; exact p)
  | tup => exact rc_lenT' (.tup _) (by rw [e]; exact p)
theorem SeqI.ix {μ : Mu} {b : Bool} {x : D} {xs : List Int} {P : D → Mu → Prop} {i : Int} {j : Nat} {n : Int} (h : SeqI μ b x xs) (e : i = (j : Int)) (hj : xs[j]? = some n) (p : P (.int n) μ) : RO K (rIx K) x (.int i) μ P := by
  cases h with
  | lst => exact ro_ixL (.lst _) (at_map e hj) p
  | own h => exact ro_ixL (.own h) (at_map e hj) p
  | tup => exact ro_ixT (.tup _) (at_map e hj) p
theorem SeqI.isL {μ : Mu} {b : Bool} {x : D} {xs : List Int} {P : D → Mu → Prop} (h : SeqI μ b x xs) (p : P (.bl b) μ) : RC K (rIsi K) [x, .ty "list"] μ P := by
  cases h with
  | lst => exact rc_isiB rfl (by rfl) p
  | own h => exact rc_isiB (n := "list") (by simp [tyD, h]) (by rfl) p
  | tup => exact rc_isiB rfl (by rfl) p
theorem SeqI.isT {μ : Mu} {b : Bool} {x : D} {xs : List Int} {P : D → Mu → Prop} (h : SeqI μ b x xs) (p : P (.bl (!b)) μ) : RC K (rIsi K) [x, .ty "tuple"] μ P := by
  cases h with
  | lst => exact rc_isiB rfl (by rfl) p
  | own h => exact rc_isiB (n := "list") (by simp [tyD, h]) (by rfl) p
  | tup => exact rc_isiB rfl (by rfl) p
theorem d_law_row_is : ∀ ds μ P PX, c_law_row_is K ds μ P PX → MuCl μ μ.length → clL ds μ.length = true → ∀ B E, XAg K B (RetX μ.length PX) E → DS K B (t_law_row_is K E) (startD ["_law_found", "_law_due", "_law_k"] ds) μ (fnE μ.length P) := by
  intro ds μ P PX h hm hc B E hE
  obtain ⟨x, y, b, xs, rfl, hx, hy, hl, h⟩ := h
  show DS K B _ [some x, some y, none] μ _
  unfold t_law_row_is
  wtm_at "g"
  refine hx.isL ?_
  wtm_at "g"
  refine hy.isL ?_
  wtm_at "g"
  refine ⟨_, rfl, br' (fun _ => ?_) (fun hb => by simp at hb)⟩
  wtm_at "g"
  refine hx.isT ?_
  wtm_at "g"
  refine hy.isT ?_
  wtm_at "g"
  refine ⟨_, rfl, br (fun hb => by simp at hb) (fun _ => ?_)⟩
  wtm_at "g"
  refine hx.len ?_
  wtm_at "g"
  refine hy.len ?_
  wtm_at "g"
  refine ⟨_, rfl, br (fun hb => by simp at hb) (fun _ => ?_)⟩
  wtm_at "g"
  refine lc_filt (fun _ => false) id (gw_name (by simp)) ?_
  wtm_at "g"
  refine hy.len ?_
  wtm_at "g"
  refine ⟨_, rfl, by omega, by omega, trivial, by rw [rangeD_length]; omega, fun i d hd => ?_, fun out ho => ?_⟩
  · obtain ⟨hi, rfl⟩ := rangeD_some hd
    have hget : xs[i]? = some (xs[i]'(by omega)) := List.getElem?_eq_getElem (by omega)
    wtm_at "g"
    refine ⟨rfl, ?_⟩
    wtm_at "g"
    refine de_call XAg.none ?_
    wtm_at "g"
    refine hx.ix (j := i) (by omega) hget ?_
    wtm_at "g"
    refine hy.ix (j := i) (by omega) hget ?_
    wtm_at "g"
    refine ⟨_, rfl, ?_⟩
    refine ⟨true, rfl, ?_⟩
    exact ⟨rfl, rfl, fun z => by cases z⟩
  have ho' : out = [] := by rw [← ho]; simp
  subst ho'
  wtm_at "g"
  refine de_lstZ ?_
  wtm_at "A"
  refine ro_eqNil (.id _) (n := 0) rfl ?_
  wtm_at "r"
  exact h
end
section
variable {K : PySem.W.Frag}
/-- hold = [0, list(script) if script != [] else [0]] -/
theorem de_hold0 {B : Bs} {ρ : En} {μ : Mu} {ns : List Int} {P : D → Mu → Prop} (e : ρ[0]? = some (some (.rdl (ns.map D.int)))) (hl : ns.length ≤ 63) (h : ∀ cs : List Int, Hd (μ.length + 1) μ.length 0 cs (μ ++ [.lst (cs.map D.int), .lst [.int 0, .own μ.length]]) → P (.own (μ.length + 1)) (μ ++ [.lst (cs.map D.int), .lst [.int 0, .own μ.length]])) :
    DE K B (tLst (tCons (tC (.int 0)) (tCons (tIf (tTest (tOp (rNeD K) (tVar 0) (tLst tNil))) (tCB (rListOf K) (tCons (tVar 0) tNil)) (tLst (tCons (tC (.int 0)) tNil))) tNil))) ρ μ P := by
  have fin : ∀ cs : List Int, 0 < cs.length → cs.length ≤ 63 → P (.own (μ ++ [MO.lst (cs.map D.int)]).length) (μ ++ [MO.lst (cs.map D.int)] ++ [MO.lst [.int 0, .own μ.length]]) := fun cs h0 h1 => by
    have := h cs ⟨by rw [List.getElem?_append_right (by omega)]; simp, by rw [List.getElem?_append_right (by omega)]; simp, by omega, by omega, h0, by omega⟩
    rw [List.append_assoc, List.length_append]
    exact this
  refine de_lstOZ ?_
  wtm_at "E"
  refine de_lstZ ?_
  wtm_at "E"
  refine ro_neD (n := 1) (m := 1) (.id _) (.id _) (by simpa [D.shp] using shpL_map (f := D.int) (n := 0) fun x _ => rfl) rfl ?_
  rw [show eqvD (.rdl (ns.map D.int)) (.lst []) = decide (ns = []) by
    have := eqv_nil (ns.map D.int)
    simp only [List.map_eq_nil_iff] at this
    rw [← this]
    simp only [eqvD, D.py]]
  wtm_at "E"
  · rename_i hb
    refine rc_listO (.rdl _) ?_
    wtm_at "E"
    exact fin ns (by cases ns with
      | nil => simp at hb
      | cons _ _ => simp) hl
  · refine de_lstOZ ?_
    wtm_at "E"
    exact fin [0] (by decide) (by decide)
theorem cal_dat (ls : List Int) : (intsD ls).dat = true := by
  unfold intsD D.dat
  rw [datL_iff]
  intro x hx
  obtain ⟨s, _, rfl⟩ := List.mem_map.mp hx
  rfl
theorem clF_cal (ls : List Int) (n : Nat) : clF (calF ls) n = true := by simp only [clF, calF, D.cl, intsD, cl_ints, Bool.and_self]
theorem Fz.app {μ : Mu} {x d : D} (h : Fz μ x d) (ext : Mu) : Fz (μ ++ ext) x d := by
  cases h with
  | id => exact .id _
  | own h => exact .own (mu_old h)
/-- Calendar(..) -/
theorem de_cal {B : Bs} {E : XK} {PX : PXT} {ts : TA} {ρ : En} {μ : Mu} {P : D → Mu → Prop} (hE : XAg K B PX E) (h : DA K B ts ρ μ fun ds μ1 => ∃ x ls, ds = [x] ∧ Fz μ1 x (intsD ls) ∧ GCal ls ∧ P (calD K ls) μ1) : DE K B (tMake (He.ga K "Calendar") (spD K (c_Calendar_init K)) [] E ts) ρ μ P := by
  refine de_make hE da_nd ?_
  refine fun σ G H al hB hσ hA Q hQ => h σ G H al hB hσ hA Q fun vs ds μ1 G1 H1 al1 n1 A1 r1 p1 => hQ vs ds μ1 G1 H1 al1 n1 A1 r1 ?_
  obtain ⟨x, ls, rfl, fz, hg, p⟩ := p1
  have fz' := fz.app [MO.ins (He.ga K "Calendar") []]
  refine ⟨_, x, intsD ls, rfl, mu_last, fz', cal_dat ls, fun ls' e hg' => ⟨rfl, calF ls, ?_, clF_cal ls _, p⟩, fun e => ?_⟩
  · have : ls' = ls := by
      unfold intsD at e
      injection e with e
      exact (List.map_inj_right (fun a b h => by injection h)).mp e.symm
    subst this
    exact set_last
  · exact absurd (areNums_of hg) (by rw [e]; simp)
/-- sum(ls[:place]) -/
theorem cut_pre {ls : List Int} {p : Int} (h0 : 0 ≤ p) (h1 : p ≤ ls.length) : cutD (ls.map D.int) none (some p) = (ls.take p.toNat).map D.int := by
  have e : cutD (ls.map D.int) none (some p) = cutD (ls.map D.int) (some 0) (some p) := by
    unfold cutD
    congr 2 <;> simp [HT.sIx]
  rw [e, cut_nat (by omega) h0 (by rw [List.length_map]; exact h1)]
  simp
end
end Dl
set_option Elab.async false
set_option linter.all false
set_option maxRecDepth 100000
namespace Dl
open PySem L2 PyProof.Rows
/-! ### == of calendars -/
def c_Calendar_eq (K : PySem.W.Frag) : CT := fun ds μ P PX => ∃ (ls : List Int) (y : D), ds = [calD K ls, y] ∧ ((∃ ms, y = calD K ms ∧ P (.bl (decide (ls = ms))) μ) ∨ ∃ t, TyDV K μ y t ∧ PySem.W.kitOne K t (.ref (cCal K)) = some false ∧ P (.bl false) μ)
def t_Calendar_eq (K : PySem.W.Frag) (E : XK) : TS :=
    (tRet (tAndV (tCB (rIsi K) (tCons (tVar 1) (tCons (tC (.ref (He.ga K "Calendar"))) tNil))) (tOp (rEqD K) (tFld K (tVar 0) "lengths") (tFld K (tVar 1) "lengths"))))
local macro_rules | `(tactic| wtm_at "dS") => `(tactic| with_reducible (show DS _ _ _ _ _ _; first
  | refine q_set ?_
  | refine q_when ?_
  | refine ds_ret ?_
  | refine ds_set ?_
  | refine q_drop ?_
  | refine q_if ?_
  | refine q_asg ?_
  | refine q_par ?_
  | refine q_fld ?_
  | refine ds_drop ?_
  | refine s_when ?_
  | refine ds_if ?_
  | refine ds_asg ?_
  | refine ds_next ?_
  | refine ds_par ?_
  | refine ds_fld ?_
  | refine ds_retN ?_))
local macro_rules | `(tactic| wtm_at "dE") => `(tactic| with_reducible (show DE _ _ _ _ _ _; first
  | refine de_op ?_
  | refine de_int ?_
  | refine de_cb ?_
  | refine de_bl ?_
  | refine de_non ?_
  | refine de_str ?_
  | refine de_ty ?_
  | refine de_loc ?_
  | refine de_un ?_
  | refine de_andV ?_
  | refine de_orV ?_
  | refine de_notV ?_
  | refine de_if ?_
  | refine de_chain ?_
  | refine de_chain3 ?_
  | refine de_isN ?_
  | refine de_notN ?_
  | refine de_sl ?_
  | refine de_bm ?_
  | refine de_bm0 ?_))
local macro_rules | `(tactic| wtm_at "dT") => `(tactic| with_reducible (show DT _ _ _ _ _ _; first
  | refine dt_test ?_
  | refine dt_truth ?_
  | refine dt_and ?_
  | refine dt_or ?_
  | refine dt_not ?_
  | refine dt_B ?_
  | refine dt_yes ?_))
local macro_rules | `(tactic| wtm_at "dO") => `(tactic| with_reducible (first
  | refine da_cons ?_
  | refine da_nil ?_
  | refine ro_i ?_
  | refine ro_b ?_
  | refine ro_addI ?_
  | refine ro_eqI ?_
  | refine ro_neI ?_
  | refine ru_i ?_
  | refine ro_ip ?_
  | refine rc_max2' ?_
  | refine rc_min2' ?_
  | refine ro_eqB ?_
  | refine ro_neB ?_
  | refine ro_isB ?_
  | refine ro_notB ?_
  | refine do_no ?_
  | refine do_part ?_
  | refine dg_name ?_
  | refine dgs_cons ?_
  | refine dgs_nil ?_
  | refine dg_sub ?_
  | refine di_range1 ?_
  | refine di_range2 ?_
  | refine di_any ?_
  | refine di_enum' ?_))
local macro_rules | `(tactic| wtm_at "v") => `(tactic| ((with_reducible show DE _ _ (tVar _) _ _ _); refine de_var (by first | rfl | assumption) ?_))
local macro_rules | `(tactic| wtm_at "h") => `(tactic| with_reducible refine ⟨_, rfl, ?_⟩)
local macro_rules | `(tactic| wtm_at "b") => `(tactic| ((first | refine ⟨_, rfl, br ?_ ?_⟩ | refine ⟨_, rfl, br' ?_ ?_⟩ | refine br ?_ ?_ | refine br' ?_ ?_ | fail) <;> intro hb <;> (try contradiction) <;> (try (simp only [decide_eq_true_eq, decide_eq_false_iff_not, Bool.not_eq_true', Bool.not_eq_false', Bool.not_true, Bool.not_false, Bool.not_eq_eq_eq_not, reduceCtorEq, List.length_map] at hb)) <;> (try (exfalso; omega; done))))
local macro_rules | `(tactic| wtm_at "i") => `(tactic| first | refine rc_isiD (by assumption) (by decide) ?_ | refine rc_isiB rfl (by first | rfl | decide +kernel) ?_)
local macro_rules | `(tactic| wtm_at "r") => `(tactic| refine ret_same0 (Nat.le_refl _) (by assumption) (by first | rfl | simp [D.cl, clL]) ?_)
local macro_rules | `(tactic| wtm_at "g") => `(tactic| repeat' first | wtm_at "v" | wtm_at "dE" | wtm_at "dO" | wtm_at "dT" | wtm_at "dS" | fail)
local macro_rules | `(tactic| wtm_at "a") => `(tactic| repeat' first | wtm_at "v" | wtm_at "dE" | wtm_at "dO" | wtm_at "dT" | wtm_at "dS" | wtm_at "i" | wtm_at "l" | wtm_at "x" | wtm_at "h" | wtm_at "b" | fail)
local macro_rules | `(tactic| wtm_at "l") => `(tactic| first | refine rc_lenL (.lst _) ?_ | refine rc_lenT' (.tup _) ?_ | refine rc_lenL (.rdl _) ?_ | refine rc_lenL (.own (by first | assumption | exact mu_last)) ?_)
local macro_rules | `(tactic| wtm_at "x") => `(tactic| refine ro_ixT (.tup _) rfl ?_)
local macro_rules | `(tactic| wtm_at "ow") => `(tactic| first | assumption | exact mu_last | exact mu_old (by assumption) | (simp; done) | fail)
local macro_rules | `(tactic| wtm_at "m") => `(tactic| refine ⟨ty_list (.own (by wtm_at "ow")), ?_⟩)
local macro_rules | `(tactic| wtm_at "e") => `(tactic| repeat' first | wtm_at "v" | wtm_at "dE" | wtm_at "dO" | wtm_at "dT" | wtm_at "i" | wtm_at "l" | wtm_at "x" | wtm_at "h" | wtm_at "b" | fail)
local macro_rules | `(tactic| wtm_at "sz") => `(tactic| ((with_reducible show Sz _ ∧ _); refine And.intro (by unfold Sz; first | decide | (simp; done) | (simp; omega) | omega) ?_))
local macro_rules | `(tactic| wtm_at "d2") => `(tactic| with_reducible (first
  | refine de_tupZ ?_
  | refine de_revL ?_
  | refine de_call (by assumption) ?_))
local macro_rules | `(tactic| wtm_at "o2") => `(tactic| first
  | refine ro_mod (by first | decide | omega) ?_
  | refine ro_pow ⟨by decide, by decide, by decide⟩ ?_
  | refine rs_anyL (.lst _) ?_
  | refine ro_mulI (by first | exact .inl ⟨by omega, by omega⟩ | exact .inr ⟨by omega, by omega⟩) ?_
  | refine rc_list (.lst _) ?_
  | refine dg_tup rfl ?_
  | fail)
local macro_rules | `(tactic| wtm_at "h2") => `(tactic| with_reducible (first | refine two_i ?_ | refine ⟨_, Ls.lst _, ?_⟩))
local macro_rules | `(tactic| wtm_at "sP") => `(tactic| with_reducible (first | refine q_parZ ?_ | refine ds_parZ ?_))
local macro_rules | `(tactic| wtm_at "A") => `(tactic| repeat' first | wtm_at "v" | wtm_at "dE" | wtm_at "dO" | wtm_at "dT" | wtm_at "sP" | wtm_at "dS" | wtm_at "d2" | wtm_at "i" | wtm_at "l" | wtm_at "x" | wtm_at "o2" | wtm_at "h" | wtm_at "h2" | wtm_at "sz" | wtm_at "b" | fail)
local macro_rules | `(tactic| wtm_at "E") => `(tactic| repeat' first | wtm_at "v" | wtm_at "dE" | wtm_at "dO" | wtm_at "dT" | wtm_at "d2" | wtm_at "i" | wtm_at "l" | wtm_at "x" | wtm_at "o2" | wtm_at "h" | wtm_at "h2" | wtm_at "sz" | wtm_at "b" | fail)
local macro_rules | `(tactic| wtm_at "f3") => `(tactic| with_reducible (first
  | refine de_fldZ ?_
  | refine de_methZ (by assumption) ?_))
local macro_rules | `(tactic| wtm_at "p3") => `(tactic| first
  | refine fp_obj (by assumption) (by assumption) (by rfl) ?_
  | refine fp_own (by assumption) (by assumption) (by assumption) (by rfl) ?_
  | refine mp_obj (by rfl) ?_
  | refine mp_own (by assumption) (by rfl) ?_)
local macro_rules | `(tactic| wtm_at "s3") => `(tactic| with_reducible (first | refine q_fldZ ?_ | refine ds_fldZ ?_))
local macro_rules | `(tactic| wtm_at "A") => `(tactic| repeat' first | wtm_at "v" | wtm_at "dE" | wtm_at "dO" | wtm_at "dT" | wtm_at "sP" | wtm_at "s3" | wtm_at "dS" | wtm_at "d2" | wtm_at "f3" | wtm_at "i" | wtm_at "l" | wtm_at "x" | wtm_at "o2" | wtm_at "h" | wtm_at "h2" | wtm_at "sz" | wtm_at "p3" | wtm_at "b" | fail)
local macro_rules | `(tactic| wtm_at "E") => `(tactic| repeat' first | wtm_at "v" | wtm_at "dE" | wtm_at "dO" | wtm_at "dT" | wtm_at "d2" | wtm_at "f3" | wtm_at "i" | wtm_at "l" | wtm_at "x" | wtm_at "o2" | wtm_at "h" | wtm_at "h2" | wtm_at "sz" | wtm_at "p3" | wtm_at "b" | fail)
local macro_rules | `(tactic| wtm_at "f4") => `(tactic| with_reducible (first | refine de_isNZ ?_ | refine de_notNZ ?_ | refine np_t ?_))
local macro_rules | `(tactic| wtm_at "g4") => `(tactic| first | refine np_int ?_ | refine np_lst ?_ | refine np_tup ?_ | refine np_obj ?_ | refine np_own ?_ | refine np_str ?_ | refine np_bl ?_)
local macro_rules | `(tactic| wtm_at "A") => `(tactic| repeat' first | wtm_at "v" | wtm_at "f4" | wtm_at "dE" | wtm_at "dO" | wtm_at "dT" | wtm_at "sP" | wtm_at "s3" | wtm_at "dS" | wtm_at "d2" | wtm_at "f3" | wtm_at "i" | wtm_at "l" | wtm_at "x" | wtm_at "o2" | wtm_at "h" | wtm_at "h2" | wtm_at "sz" | wtm_at "p3" | wtm_at "g4" | wtm_at "b" | fail)
local macro_rules | `(tactic| wtm_at "E") => `(tactic| repeat' first | wtm_at "v" | wtm_at "f4" | wtm_at "dE" | wtm_at "dO" | wtm_at "dT" | wtm_at "d2" | wtm_at "f3" | wtm_at "i" | wtm_at "l" | wtm_at "x" | wtm_at "o2" | wtm_at "h" | wtm_at "h2" | wtm_at "sz" | wtm_at "p3" | wtm_at "g4" | wtm_at "b" | fail)
local macro_rules | `(tactic| wtm_at "s5") => `(tactic| with_reducible (first | refine q_par3 ?_ | refine ds_par3 ?_ | refine three_i ?_ | refine di_range2W ?_))
local macro_rules | `(tactic| wtm_at "o5") => `(tactic| first | refine ro_eqNI ?_ | fail)
local macro_rules | `(tactic| wtm_at "A") => `(tactic| repeat' first | wtm_at "v" | wtm_at "f4" | wtm_at "dE" | wtm_at "dO" | wtm_at "dT" | wtm_at "s5" | wtm_at "sP" | wtm_at "s3" | wtm_at "dS" | wtm_at "d2" | wtm_at "f3" | wtm_at "i" | wtm_at "l" | wtm_at "x" | wtm_at "o2" | wtm_at "o5" | wtm_at "h" | wtm_at "h2" | wtm_at "sz" | wtm_at "p3" | wtm_at "g4" | wtm_at "b" | fail)
local macro_rules | `(tactic| wtm_at "E") => `(tactic| repeat' first | wtm_at "v" | wtm_at "f4" | wtm_at "dE" | wtm_at "dO" | wtm_at "dT" | wtm_at "d2" | wtm_at "f3" | wtm_at "i" | wtm_at "l" | wtm_at "x" | wtm_at "o2" | wtm_at "o5" | wtm_at "h" | wtm_at "h2" | wtm_at "sz" | wtm_at "p3" | wtm_at "g4" | wtm_at "b" | fail)
local macro_rules | `(tactic| wtm_at "d6") => `(tactic| with_reducible (first | refine de_dget ?_ | refine de_din ?_ | refine de_dnin ?_ | refine rc_abs ?_))
local macro_rules | `(tactic| wtm_at "g6") => `(tactic| first | refine dgp_s (.own (by assumption)) (by rfl) ?_ | refine dgp_s (.dct _) (by rfl) ?_)
local macro_rules | `(tactic| wtm_at "A") => `(tactic| repeat' first | wtm_at "v" | wtm_at "f4" | wtm_at "dE" | wtm_at "d6" | wtm_at "dO" | wtm_at "dT" | wtm_at "s5" | wtm_at "sP" | wtm_at "s3" | wtm_at "dS" | wtm_at "d2" | wtm_at "f3" | wtm_at "i" | wtm_at "l" | wtm_at "x" | wtm_at "o2" | wtm_at "o5" | wtm_at "h" | wtm_at "h2" | wtm_at "sz" | wtm_at "g6" | wtm_at "p3" | wtm_at "g4" | wtm_at "b" | fail)
local macro_rules | `(tactic| wtm_at "E") => `(tactic| repeat' first | wtm_at "v" | wtm_at "f4" | wtm_at "dE" | wtm_at "d6" | wtm_at "dO" | wtm_at "dT" | wtm_at "d2" | wtm_at "f3" | wtm_at "i" | wtm_at "l" | wtm_at "x" | wtm_at "o2" | wtm_at "o5" | wtm_at "h" | wtm_at "h2" | wtm_at "sz" | wtm_at "g6" | wtm_at "p3" | wtm_at "g4" | wtm_at "b" | fail)
local macro_rules | `(tactic| wtm_at "d7") => `(tactic| with_reducible (first | refine de_xfZ ?_ | refine np_exc ?_))
local macro_rules | `(tactic| wtm_at "g7") => `(tactic| first | refine xf_i (by assumption) (by simp) (by rfl) ?_ | refine ro_eqSS (by decide +kernel) ?_ | refine ro_neSS (by decide +kernel) ?_ | refine ro_eqSd (by decide +kernel) (by decide +kernel) (by decide +kernel) ?_ | refine ro_neSd (by decide +kernel) (by decide +kernel) (by decide +kernel) ?_)
local macro_rules | `(tactic| wtm_at "A") => `(tactic| repeat' first | wtm_at "v" | wtm_at "f4" | wtm_at "d7" | wtm_at "dE" | wtm_at "d6" | wtm_at "dO" | wtm_at "dT" | wtm_at "s5" | wtm_at "sP" | wtm_at "s3" | wtm_at "dS" | wtm_at "d2" | wtm_at "f3" | wtm_at "i" | wtm_at "l" | wtm_at "x" | wtm_at "o2" | wtm_at "o5" | wtm_at "h" | wtm_at "h2" | wtm_at "sz" | wtm_at "g6" | wtm_at "p3" | wtm_at "g4" | wtm_at "g7" | wtm_at "b" | fail)
local macro_rules | `(tactic| wtm_at "E") => `(tactic| repeat' first | wtm_at "v" | wtm_at "f4" | wtm_at "d7" | wtm_at "dE" | wtm_at "d6" | wtm_at "dO" | wtm_at "dT" | wtm_at "d2" | wtm_at "f3" | wtm_at "i" | wtm_at "l" | wtm_at "x" | wtm_at "o2" | wtm_at "o5" | wtm_at "h" | wtm_at "h2" | wtm_at "sz" | wtm_at "g6" | wtm_at "p3" | wtm_at "g4" | wtm_at "g7" | wtm_at "b" | fail)
theorem shp_ints (ls : List Int) : (intsD ls).shp 1 = true := by
  unfold intsD
  simp only [D.shp]
  exact shpL_map fun _ _ => rfl
theorem eqv_ints (ls ms : List Int) : eqvD (intsD ls) (intsD ms) = decide (ls = ms) := by
  unfold intsD
  rw [eqvD_lst]
  exact eqvL_map (fun a b => eqvD_int a b) ls ms
section
variable {K : PySem.W.Frag}
theorem d_Calendar_eq (kc : KCal K) (kq : KEq K "Calendar") : ∀ ds μ P PX, c_Calendar_eq K ds μ P PX → MuCl μ μ.length → clL ds μ.length = true → ∀ B E, XAg K B (RetX μ.length PX) E → DS K B (t_Calendar_eq K E) (startD ["self", "other"] ds) μ (fnE μ.length P) := by
  intro ds μ P PX h hm hc B E hE
  obtain ⟨ls, y, rfl, h⟩ := h
  obtain ⟨_, _, _, _⟩ := kc
  show DS K B _ [some (calD K ls), some y] μ _
  unfold t_Calendar_eq
  refine ds_ret (de_andV (de_cb ?_))
  wtm_at "g"
  rcases h with ⟨ms, rfl, h⟩ | ⟨t, ht, hk, h⟩
  · refine rc_isi (.obj kq.ob) (.loc _) kq.is ?_
    refine ⟨true, rfl, fun _ => ?_, fun e => (nomatch e)⟩
    unfold calD
    wtm_at "E"
    refine ro_eqD (n := 1) (m := 1) (.id _) (.id _) (shp_ints _) (shp_ints _) ?_
    rw [eqv_ints]
    exact ret_same0 (Nat.le_refl _) hm rfl h
  · refine rc_isi ht (.loc _) hk ?_
    exact ⟨false, rfl, fun e => (nomatch e), fun _ => ret_same0 (Nat.le_refl _) hm rfl h⟩
theorem ro_calEq {E : XK} {μ : Mu} {P : D → Mu → Prop} {ls ms : List Int} (kq : KEq K "Calendar") (h : P (.bl (decide (ls = ms))) μ) : RO K (rEqO K (He.ga K "Calendar") (spD K (c_Calendar_eq K)) E) (calD K ls) (calD K ms) μ P :=
  ro_eqO ⟨_, .inl rfl⟩ (.obj kq.ob) kq.nf ⟨ls, _, rfl, .inl ⟨ms, rfl, _, rfl, h⟩⟩
theorem ro_calNe {E : XK} {μ : Mu} {P : D → Mu → Prop} {ls ms : List Int} (kq : KEq K "Calendar") (h : P (.bl (!decide (ls = ms))) μ) : RO K (rNeO K (He.ga K "Calendar") (spD K (c_Calendar_eq K)) E) (calD K ls) (calD K ms) μ P :=
  ro_neO ⟨_, .inl rfl⟩ (.obj kq.ob) kq.nf ⟨ls, _, rfl, .inl ⟨ms, rfl, _, rfl, h⟩⟩
/-- a calendar is no number, list, tuple -/
theorem ro_calT {E : XK} {μ : Mu} {P : D → Mu → Prop} {ls : List Int} {y : D} {n : String} (kq : KEq K "Calendar") (ht : tyD μ y = some n) (hn : n ∈ (["int", "list", "tuple"] : List String)) (h : P (.bl false) μ) : RO K (rEqO K (He.ga K "Calendar") (spD K (c_Calendar_eq K)) E) (calD K ls) y μ P :=
  ro_eqO ⟨_, .inl rfl⟩ (.ty ht) (kq.no n hn).2 ⟨ls, y, rfl, .inr ⟨_, .ty ht, (kq.no n hn).1, _, rfl, h⟩⟩
end
end Dl
set_option Elab.async false
set_option linter.all false
set_option maxRecDepth 100000
namespace Dl
open PySem L2 PyProof.Rows
def c_law_year_right (K : PySem.W.Frag) : CT := fun ds μ P PX => ∃ (ls : List Int) (y : Int) (k k2 : Nat) (c : Int) (ns : List Int), ds = [calD K ls, intsD ls, .int y, .own k] ∧ GCal ls ∧ 0 ≤ y ∧ Hd k k2 c ns μ ∧ c < 2 ^ 39 ∧ ∀ ns' : List Int, ns'.length = ns.length → P (.bl true) (hold μ k k2 (c + 1) ns')
def c_law_alike_right (K : PySem.W.Frag) : CT := fun ds μ P PX => ∃ (ls : List Int) (k k2 : Nat) (c : Int) (ns : List Int), ds = [calD K ls, intsD ls, .own k] ∧ GCal ls ∧ Hd k k2 c ns μ ∧ c < 2 ^ 39 ∧ ∀ (c' : Int) (ns' : List Int), c ≤ c' → c' ≤ c + 3 → ns'.length = ns.length → P (.bl true) (hold μ k k2 c' ns')
def c_law (K : PySem.W.Frag) : CT := fun ds μ P PX => ∃ ns : List Int, ds = [.rdl (ns.map D.int)] ∧ ns.length ≤ 63 ∧ ∀ μ', P (.bl true) μ'
def t_law_year_right (K : PySem.W.Frag) (E : XK) : TS :=
    (tSeq (tAsg (tCB rDivmod (tCons (tVar 2) (tCons (tCB (rLen K) (tCons (tVar 1) tNil)) tNil))) (gTup K 2 (gCons (gName 4) (gCons (gName 5) gNil))))
      (tSeq (tAsg (tOp (rAddA K) (tOp rMulA (tVar 4) (tCB (rSum K) (tCons (tVar 1) tNil))) (tCB (rSum K) (tCons (tSl (rSlA K) (tVar 1) tNoPart (tPart (tVar 5))) tNil))) (gName 6))
      (tSeq (tIfS (tOr (tNot (tTruth K (tCall (spD K (c_law_is K)) [] E (tCons (tMeth (He.ga K "Calendar") "long" (spD K (c_Calendar_long K)) [] E (tVar 0) (tCons (tVar 2) tNil)) (tCons (tOp (rIx K) (tVar 1) (tVar 5)) tNil))))) (tNot (tTruth K (tCall (spD K (c_law_is K)) [] E (tCons (tMeth (He.ga K "Calendar") "first" (spD K (c_Calendar_first K)) [] E (tVar 0) (tCons (tVar 2) tNil)) (tCons (tVar 6) tNil)))))) (tRet (tC (.bl false))) tNext)
      (tSeq (tFor (iAny K (tLst (tCons (tC (.int 0)) (tCons (tOp (rI0 fun i j => .int (i - j)) (tOp (rIx K) (tVar 1) (tVar 5)) (tC (.int 1))) (tCons (tCall (spD K (c_law_draw K)) [] E (tCons (tVar 3) (tCons (tOp (rIx K) (tVar 1) (tVar 5)) tNil))) tNil))))) (gName 7) (tIfS (tNot (tTruth K (tCall (spD K (c_law_row_is K)) [] E (tCons (tMeth (He.ga K "Calendar") "at" (spD K (c_Calendar_at K)) [] E (tVar 0) (tCons (tOp (rAddA K) (tVar 6) (tVar 7)) tNil)) (tCons (tTup (tCons (tVar 2) (tCons (tVar 7) tNil))) tNil))))) (tRet (tC (.bl false))) tNext))
      (tRet (tC (.bl true)))))))
def t_law_alike_right (K : PySem.W.Frag) (E : XK) : TS :=
    (tSeq (tAsg (tCall (spD K (c_law_draw K)) [] E (tCons (tVar 2) (tCons (tC (.int 6)) tNil))) (gName 3))
      (tSeq (tAsg (tCall (spD K (c_law_draw K)) [] E (tCons (tVar 2) (tCons (tCB (rLen K) (tCons (tVar 1) tNil)) tNil))) (gName 4))
      (tSeq (tAsg (tCB (rListOf K) (tCons (tVar 1) tNil)) (gName 5))
      (tSeq (tIfS (tTest (tOp (rEqD K) (tVar 3) (tC (.int 1)))) (tAsg (tOp (rAddA K) (tOp rModA (tOp (rIx K) (tVar 5) (tVar 4)) (tC (.int 400))) (tC (.int 1))) (gSub (tVar 5) (tVar 4) rSetL)) (tIfS (tTest (tOp (rEqD K) (tVar 3) (tC (.int 2)))) (tAsg (tSl (rSlA K) (tOp (rAddA K) (tVar 5) (tVar 5)) tNoPart (tPart (tC (.int 20)))) (gName 5)) (tIfS (tTest (tOp (rEqD K) (tVar 3) (tC (.int 3)))) (tDrop (tBM0 K "list" rReverse (tVar 5))) (tIfS (tTest (tOp (rEqD K) (tVar 3) (tC (.int 4)))) (tAsg (tSl (rSlA K) (tOp (rAddA K) (tVar 5) (tLst (tCons (tOp (rAddA K) (tC (.int 1)) (tCall (spD K (c_law_draw K)) [] E (tCons (tVar 2) (tCons (tC (.int 400)) tNil)))) tNil))) tNoPart (tPart (tC (.int 20)))) (gName 5)) (tIfS (tTest (tOp (rEqD K) (tVar 3) (tC (.int 5)))) (tAsg (tSl (rSlA K) (tVar 5) tNoPart (tPart (tCB (rMaxA K) (tCons (tC (.int 1)) (tCons (tOp (rI0 fun i j => .int (i - j)) (tCB (rLen K) (tCons (tVar 5) tNil)) (tC (.int 1))) tNil))))) (gName 5)) tNext)))))
      (tSeq (tAsg (tMake (He.ga K "Calendar") (spD K (c_Calendar_init K)) [] E (tCons (tCB (rListOf K) (tCons (tVar 5) tNil)) tNil)) (gName 6))
      (tSeq (tPar 7 8 (tCons (tOp (rEqO K (He.ga K "Calendar") (spD K (c_Calendar_eq K)) E) (tVar 0) (tVar 6)) (tCons (tOp (rNeO K (He.ga K "Calendar") (spD K (c_Calendar_eq K)) E) (tVar 6) (tVar 0)) tNil)))
      (tSeq (tIfS (tOr (tNot (tTruth K (tCB (rIsi K) (tCons (tVar 7) (tCons (tC (.ty "bool")) tNil))))) (tOr (tTest (tOp (rNeD K) (tVar 7) (tOp (rEqD K) (tVar 5) (tVar 1)))) (tTest (tOp (rNeD K) (tVar 8) (tOp (rNeD K) (tVar 5) (tVar 1)))))) (tRet (tC (.bl false))) tNext)
      (tRet (tAndV (tOp rIsB (tOp (rEqO K (He.ga K "Calendar") (spD K (c_Calendar_eq K)) E) (tVar 0) (tVar 1)) (tC (.bl false))) (tOp rIsB (tOp (rEqO K (He.ga K "Calendar") (spD K (c_Calendar_eq K)) E) (tVar 0) (tC (.int 0))) (tC (.bl false))))))))))))
def t_law (K : PySem.W.Frag) (E : XK) : TS :=
    (tSeq (tAsg (tLst (tCons (tC (.int 0)) (tCons (tIf (tTest (tOp (rNeD K) (tVar 0) (tLst tNil))) (tCB (rListOf K) (tCons (tVar 0) tNil)) (tLst (tCons (tC (.int 0)) tNil))) tNil))) (gName 1))
      (tSeq (tAsg (tCall (spD K (c_law_lengths K)) [] E (tCons (tVar 1) (tCons (tC (.int 400)) (tCons (tC (.int 20)) tNil)))) (gName 2))
      (tSeq (tAsg (tMake (He.ga K "Calendar") (spD K (c_Calendar_init K)) [] E (tCons (tCB (rListOf K) (tCons (tVar 2) tNil)) tNil)) (gName 3))
      (tSeq (tIfS (tOr (tNot (tTruth K (tCall (spD K (c_law_row_is K)) [] E (tCons (tMeth (He.ga K "Calendar") "years" (spD K (c_Calendar_years K)) [] E (tVar 3) tNil) (tCons (tVar 2) tNil))))) (tNot (tTruth K (tCall (spD K (c_law_is K)) [] E (tCons (tMeth (He.ga K "Calendar") "turn" (spD K (c_Calendar_turn K)) [] E (tVar 3) tNil) (tCons (tCB (rSum K) (tCons (tVar 2) tNil)) tNil)))))) (tRet (tC (.bl false))) tNext)
      (tSeq (tFor (iRng1 (tCons (tC (.int 2)) tNil)) (gName 4) (tIfS (tNot (tTruth K (tCall (spD K (c_law_alike_right K)) [] E (tCons (tVar 3) (tCons (tVar 2) (tCons (tVar 1) tNil)))))) (tRet (tC (.bl false))) tNext))
      (tSeq (tFor (iRng1 (tCons (tCB (rMaxA K) (tCons (tC (.int 1)) (tCons (tCB (rMinA K) (tCons (tC (.int 63)) (tCons (tCB (rLen K) (tCons (tVar 0) tNil)) tNil))) tNil))) tNil)) (gName 4) (tIfS (tNot (tTruth K (tCall (spD K (c_law_year_right K)) [] E (tCons (tVar 3) (tCons (tVar 2) (tCons (tCall (spD K (c_law_far K)) [] E (tCons (tVar 1) tNil)) (tCons (tVar 1) tNil))))))) (tRet (tC (.bl false))) tNext))
      (tRet (tC (.bl true)))))))))
local macro_rules | `(tactic| wtm_at "dS") => `(tactic| with_reducible (show DS _ _ _ _ _ _; first
  | refine q_set ?_
  | refine q_when ?_
  | refine ds_ret ?_
  | refine ds_set ?_
  | refine q_drop ?_
  | refine q_if ?_
  | refine q_asg ?_
  | refine q_par ?_
  | refine q_fld ?_
  | refine ds_drop ?_
  | refine s_when ?_
  | refine ds_if ?_
  | refine ds_asg ?_
  | refine ds_next ?_
  | refine ds_par ?_
  | refine ds_fld ?_
  | refine ds_retN ?_))
local macro_rules | `(tactic| wtm_at "dE") => `(tactic| with_reducible (show DE _ _ _ _ _ _; first
  | refine de_op ?_
  | refine de_int ?_
  | refine de_cb ?_
  | refine de_bl ?_
  | refine de_non ?_
  | refine de_str ?_
  | refine de_ty ?_
  | refine de_loc ?_
  | refine de_un ?_
  | refine de_andV ?_
  | refine de_orV ?_
  | refine de_notV ?_
  | refine de_if ?_
  | refine de_chain ?_
  | refine de_chain3 ?_
  | refine de_isN ?_
  | refine de_notN ?_
  | refine de_sl ?_
  | refine de_bm ?_
  | refine de_bm0 ?_))
local macro_rules | `(tactic| wtm_at "dT") => `(tactic| with_reducible (show DT _ _ _ _ _ _; first
  | refine dt_test ?_
  | refine dt_truth ?_
  | refine dt_and ?_
  | refine dt_or ?_
  | refine dt_not ?_
  | refine dt_B ?_
  | refine dt_yes ?_))
local macro_rules | `(tactic| wtm_at "dO") => `(tactic| with_reducible (first
  | refine da_cons ?_
  | refine da_nil ?_
  | refine ro_i ?_
  | refine ro_b ?_
  | refine ro_addI ?_
  | refine ro_eqI ?_
  | refine ro_neI ?_
  | refine ru_i ?_
  | refine ro_ip ?_
  | refine rc_max2' ?_
  | refine rc_min2' ?_
  | refine ro_eqB ?_
  | refine ro_neB ?_
  | refine ro_isB ?_
  | refine ro_notB ?_
  | refine do_no ?_
  | refine do_part ?_
  | refine dg_name ?_
  | refine dgs_cons ?_
  | refine dgs_nil ?_
  | refine dg_sub ?_
  | refine di_range1 ?_
  | refine di_range2 ?_
  | refine di_any ?_
  | refine di_enum' ?_))
local macro_rules | `(tactic| wtm_at "v") => `(tactic| ((with_reducible show DE _ _ (tVar _) _ _ _); refine de_var (by first | rfl | assumption) ?_))
local macro_rules | `(tactic| wtm_at "h") => `(tactic| with_reducible refine ⟨_, rfl, ?_⟩)
local macro_rules | `(tactic| wtm_at "b") => `(tactic| ((first | refine ⟨_, rfl, br ?_ ?_⟩ | refine ⟨_, rfl, br' ?_ ?_⟩ | refine br ?_ ?_ | refine br' ?_ ?_ | fail) <;> intro hb <;> (try contradiction) <;> (try (simp only [decide_eq_true_eq, decide_eq_false_iff_not, Bool.not_eq_true', Bool.not_eq_false', Bool.not_true, Bool.not_false, Bool.not_eq_eq_eq_not, reduceCtorEq, List.length_map] at hb)) <;> (try (exfalso; omega; done))))
local macro_rules | `(tactic| wtm_at "i") => `(tactic| first | refine rc_isiD (by assumption) (by decide) ?_ | refine rc_isiB rfl (by first | rfl | decide +kernel) ?_)
local macro_rules | `(tactic| wtm_at "r") => `(tactic| refine ret_same0 (Nat.le_refl _) (by assumption) (by first | rfl | simp [D.cl, clL]) ?_)
local macro_rules | `(tactic| wtm_at "g") => `(tactic| repeat' first | wtm_at "v" | wtm_at "dE" | wtm_at "dO" | wtm_at "dT" | wtm_at "dS" | fail)
local macro_rules | `(tactic| wtm_at "a") => `(tactic| repeat' first | wtm_at "v" | wtm_at "dE" | wtm_at "dO" | wtm_at "dT" | wtm_at "dS" | wtm_at "i" | wtm_at "l" | wtm_at "x" | wtm_at "h" | wtm_at "b" | fail)
local macro_rules | `(tactic| wtm_at "l") => `(tactic| first | refine rc_lenL (.lst _) ?_ | refine rc_lenT' (.tup _) ?_ | refine rc_lenL (.rdl _) ?_ | refine rc_lenL (.own (by first | assumption | exact mu_last)) ?_)
local macro_rules | `(tactic| wtm_at "x") => `(tactic| refine ro_ixT (.tup _) rfl ?_)
local macro_rules | `(tactic| wtm_at "ow") => `(tactic| first | assumption | exact mu_last | exact mu_old (by assumption) | (simp; done) | fail)
local macro_rules | `(tactic| wtm_at "m") => `(tactic| refine ⟨ty_list (.own (by wtm_at "ow")), ?_⟩)
local macro_rules | `(tactic| wtm_at "e") => `(tactic| repeat' first | wtm_at "v" | wtm_at "dE" | wtm_at "dO" | wtm_at "dT" | wtm_at "i" | wtm_at "l" | wtm_at "x" | wtm_at "h" | wtm_at "b" | fail)
local macro_rules | `(tactic| wtm_at "sz") => `(tactic| ((with_reducible show Sz _ ∧ _); refine And.intro (by unfold Sz; first | decide | (simp; done) | (simp; omega) | omega) ?_))
local macro_rules | `(tactic| wtm_at "d2") => `(tactic| with_reducible (first
  | refine de_tupZ ?_
  | refine de_revL ?_
  | refine de_call (by assumption) ?_))
local macro_rules | `(tactic| wtm_at "o2") => `(tactic| first
  | refine ro_mod (by first | decide | omega) ?_
  | refine ro_pow ⟨by decide, by decide, by decide⟩ ?_
  | refine rs_anyL (.lst _) ?_
  | refine ro_mulI (by first | exact .inl ⟨by omega, by omega⟩ | exact .inr ⟨by omega, by omega⟩) ?_
  | refine rc_list (.lst _) ?_
  | refine dg_tup rfl ?_
  | fail)
local macro_rules | `(tactic| wtm_at "h2") => `(tactic| with_reducible (first | refine two_i ?_ | refine ⟨_, Ls.lst _, ?_⟩))
local macro_rules | `(tactic| wtm_at "sP") => `(tactic| with_reducible (first | refine q_parZ ?_ | refine ds_parZ ?_))
local macro_rules | `(tactic| wtm_at "A") => `(tactic| repeat' first | wtm_at "v" | wtm_at "dE" | wtm_at "dO" | wtm_at "dT" | wtm_at "sP" | wtm_at "dS" | wtm_at "d2" | wtm_at "i" | wtm_at "l" | wtm_at "x" | wtm_at "o2" | wtm_at "h" | wtm_at "h2" | wtm_at "sz" | wtm_at "b" | fail)
local macro_rules | `(tactic| wtm_at "E") => `(tactic| repeat' first | wtm_at "v" | wtm_at "dE" | wtm_at "dO" | wtm_at "dT" | wtm_at "d2" | wtm_at "i" | wtm_at "l" | wtm_at "x" | wtm_at "o2" | wtm_at "h" | wtm_at "h2" | wtm_at "sz" | wtm_at "b" | fail)
local macro_rules | `(tactic| wtm_at "f3") => `(tactic| with_reducible (first
  | refine de_fldZ ?_
  | refine de_methZ (by assumption) ?_))
local macro_rules | `(tactic| wtm_at "p3") => `(tactic| first
  | refine fp_obj (by assumption) (by assumption) (by rfl) ?_
  | refine fp_own (by assumption) (by assumption) (by assumption) (by rfl) ?_
  | refine mp_obj (by rfl) ?_
  | refine mp_own (by assumption) (by rfl) ?_)
local macro_rules | `(tactic| wtm_at "s3") => `(tactic| with_reducible (first | refine q_fldZ ?_ | refine ds_fldZ ?_))
local macro_rules | `(tactic| wtm_at "A") => `(tactic| repeat' first | wtm_at "v" | wtm_at "dE" | wtm_at "dO" | wtm_at "dT" | wtm_at "sP" | wtm_at "s3" | wtm_at "dS" | wtm_at "d2" | wtm_at "f3" | wtm_at "i" | wtm_at "l" | wtm_at "x" | wtm_at "o2" | wtm_at "h" | wtm_at "h2" | wtm_at "sz" | wtm_at "p3" | wtm_at "b" | fail)
local macro_rules | `(tactic| wtm_at "E") => `(tactic| repeat' first | wtm_at "v" | wtm_at "dE" | wtm_at "dO" | wtm_at "dT" | wtm_at "d2" | wtm_at "f3" | wtm_at "i" | wtm_at "l" | wtm_at "x" | wtm_at "o2" | wtm_at "h" | wtm_at "h2" | wtm_at "sz" | wtm_at "p3" | wtm_at "b" | fail)
local macro_rules | `(tactic| wtm_at "f4") => `(tactic| with_reducible (first | refine de_isNZ ?_ | refine de_notNZ ?_ | refine np_t ?_))
local macro_rules | `(tactic| wtm_at "g4") => `(tactic| first | refine np_int ?_ | refine np_lst ?_ | refine np_tup ?_ | refine np_obj ?_ | refine np_own ?_ | refine np_str ?_ | refine np_bl ?_)
local macro_rules | `(tactic| wtm_at "A") => `(tactic| repeat' first | wtm_at "v" | wtm_at "f4" | wtm_at "dE" | wtm_at "dO" | wtm_at "dT" | wtm_at "sP" | wtm_at "s3" | wtm_at "dS" | wtm_at "d2" | wtm_at "f3" | wtm_at "i" | wtm_at "l" | wtm_at "x" | wtm_at "o2" | wtm_at "h" | wtm_at "h2" | wtm_at "sz" | wtm_at "p3" | wtm_at "g4" | wtm_at "b" | fail)
local macro_rules | `(tactic| wtm_at "E") => `(tactic| repeat' first | wtm_at "v" | wtm_at "f4" | wtm_at "dE" | wtm_at "dO" | wtm_at "dT" | wtm_at "d2" | wtm_at "f3" | wtm_at "i" | wtm_at "l" | wtm_at "x" | wtm_at "o2" | wtm_at "h" | wtm_at "h2" | wtm_at "sz" | wtm_at "p3" | wtm_at "g4" | wtm_at "b" | fail)
local macro_rules | `(tactic| wtm_at "s5") => `(tactic| with_reducible (first | refine q_par3 ?_ | refine ds_par3 ?_ | refine three_i ?_ | refine di_range2W ?_))
local macro_rules | `(tactic| wtm_at "o5") => `(tactic| first | refine ro_eqNI ?_ | fail)
local macro_rules | `(tactic| wtm_at "A") => `(tactic| repeat' first | wtm_at "v" | wtm_at "f4" | wtm_at "dE" | wtm_at "dO" | wtm_at "dT" | wtm_at "s5" | wtm_at "sP" | wtm_at "s3" | wtm_at "dS" | wtm_at "d2" | wtm_at "f3" | wtm_at "i" | wtm_at "l" | wtm_at "x" | wtm_at "o2" | wtm_at "o5" | wtm_at "h" | wtm_at "h2" | wtm_at "sz" | wtm_at "p3" | wtm_at "g4" | wtm_at "b" | fail)
local macro_rules | `(tactic| wtm_at "E") => `(tactic| repeat' first | wtm_at "v" | wtm_at "f4" | wtm_at "dE" | wtm_at "dO" | wtm_at "dT" | wtm_at "d2" | wtm_at "f3" | wtm_at "i" | wtm_at "l" | wtm_at "x" | wtm_at "o2" | wtm_at "o5" | wtm_at "h" | wtm_at "h2" | wtm_at "sz" | wtm_at "p3" | wtm_at "g4" | wtm_at "b" | fail)
local macro_rules | `(tactic| wtm_at "d6") => `(tactic| with_reducible (first | refine de_dget ?_ | refine de_din ?_ | refine de_dnin ?_ | refine rc_abs ?_))
local macro_rules | `(tactic| wtm_at "g6") => `(tactic| first | refine dgp_s (.own (by assumption)) (by rfl) ?_ | refine dgp_s (.dct _) (by rfl) ?_)
local macro_rules | `(tactic| wtm_at "A") => `(tactic| repeat' first | wtm_at "v" | wtm_at "f4" | wtm_at "dE" | wtm_at "d6" | wtm_at "dO" | wtm_at "dT" | wtm_at "s5" | wtm_at "sP" | wtm_at "s3" | wtm_at "dS" | wtm_at "d2" | wtm_at "f3" | wtm_at "i" | wtm_at "l" | wtm_at "x" | wtm_at "o2" | wtm_at "o5" | wtm_at "h" | wtm_at "h2" | wtm_at "sz" | wtm_at "g6" | wtm_at "p3" | wtm_at "g4" | wtm_at "b" | fail)
local macro_rules | `(tactic| wtm_at "E") => `(tactic| repeat' first | wtm_at "v" | wtm_at "f4" | wtm_at "dE" | wtm_at "d6" | wtm_at "dO" | wtm_at "dT" | wtm_at "d2" | wtm_at "f3" | wtm_at "i" | wtm_at "l" | wtm_at "x" | wtm_at "o2" | wtm_at "o5" | wtm_at "h" | wtm_at "h2" | wtm_at "sz" | wtm_at "g6" | wtm_at "p3" | wtm_at "g4" | wtm_at "b" | fail)
local macro_rules | `(tactic| wtm_at "d7") => `(tactic| with_reducible (first | refine de_xfZ ?_ | refine np_exc ?_))
local macro_rules | `(tactic| wtm_at "g7") => `(tactic| first | refine xf_i (by assumption) (by simp) (by rfl) ?_ | refine ro_eqSS (by decide +kernel) ?_ | refine ro_neSS (by decide +kernel) ?_ | refine ro_eqSd (by decide +kernel) (by decide +kernel) (by decide +kernel) ?_ | refine ro_neSd (by decide +kernel) (by decide +kernel) (by decide +kernel) ?_)
local macro_rules | `(tactic| wtm_at "A") => `(tactic| repeat' first | wtm_at "v" | wtm_at "f4" | wtm_at "d7" | wtm_at "dE" | wtm_at "d6" | wtm_at "dO" | wtm_at "dT" | wtm_at "s5" | wtm_at "sP" | wtm_at "s3" | wtm_at "dS" | wtm_at "d2" | wtm_at "f3" | wtm_at "i" | wtm_at "l" | wtm_at "x" | wtm_at "o2" | wtm_at "o5" | wtm_at "h" | wtm_at "h2" | wtm_at "sz" | wtm_at "g6" | wtm_at "p3" | wtm_at "g4" | wtm_at "g7" | wtm_at "b" | fail)
local macro_rules | `(tactic| wtm_at "E") => `(tactic| repeat' first | wtm_at "v" | wtm_at "f4" | wtm_at "d7" | wtm_at "dE" | wtm_at "d6" | wtm_at "dO" | wtm_at "dT" | wtm_at "d2" | wtm_at "f3" | wtm_at "i" | wtm_at "l" | wtm_at "x" | wtm_at "o2" | wtm_at "o5" | wtm_at "h" | wtm_at "h2" | wtm_at "sz" | wtm_at "g6" | wtm_at "p3" | wtm_at "g4" | wtm_at "g7" | wtm_at "b" | fail)
section
theorem hold0_cl {μ : Mu} {cs : List Int} (hm : MuCl μ μ.length) : MuCl (μ ++ [MO.lst (cs.map D.int), MO.lst [D.int 0, D.own μ.length]]) (μ ++ [MO.lst (cs.map D.int), MO.lst [D.int 0, D.own μ.length]]).length := by
  have h1 := hm.app (o := .lst (cs.map D.int)) (by simp only [MO.cl]; exact cl_ints _ _)
  have h2 := h1.app (o := MO.lst [D.int 0, D.own μ.length]) (by simp [MO.cl, clL, D.cl])
  rw [List.append_assoc] at h2
  exact h2
end
theorem cut_take {xs : List D} {p : Int} (h0 : 0 ≤ p) : cutD xs none (some p) = xs.take p.toNat := by
  unfold cutD
  have e1 : HT.sIx xs.length 0 none = 0 := by simp [HT.sIx]
  have e2 : HT.sIx xs.length xs.length (some p) = min p.toNat xs.length := by
    simp only [HT.sIx]
    split <;> omega
  rw [e1, e2]
  simp [List.take_eq_take_iff]
theorem GCal.take {ls : List Int} (h : GCal ls) {n : Nat} (hn : 1 ≤ n) : GCal (ls.take n) := by
  have := h.pos
  have := h.most
  exact ⟨by simp; omega, by simp; omega, fun x hx => h.each x (List.mem_of_mem_take hx)⟩
section
variable {K : PySem.W.Frag}
theorem d_law_year_right (kc : KCal K) : ∀ ds μ P PX, c_law_year_right K ds μ P PX → MuCl μ μ.length → clL ds μ.length = true → ∀ B E, XAg K B (RetX μ.length PX) E → DS K B (t_law_year_right K E) (startD ["_law_calendar", "_law_lengths_here", "_law_year", "_law_hold", "_law_turns", "_law_place", "_law_first", "_law_spot"] ds) μ (fnE μ.length P) := by
  intro ds μ P PX h hm hc B E hE
  obtain ⟨ls, y, k, k2, c, ns, rfl, hg, hy0, hd, hc1, h⟩ := h
  have hpos := hg.pos; have hmost := hg.most; have hsp := hg.sum_pos; have hsl := hg.sum_le
  have h1 := Int.emod_nonneg y (b := (ls.length : Int)) (by omega)
  have h2 := Int.emod_lt_of_pos y (b := (ls.length : Int)) (by omega)
  have hlb := longY_bd hg hy0
  have hix : atI (ls.map D.int) (y % ls.length) = some (.int (longY ls y)) := at_map (j := (y % ls.length).toNat) (by omega) (longY_get hg hy0)
  show DS K B _ [some (calD K ls), some (intsD ls), some (.int y), some (.own k), none, none, none, none] μ _
  unfold t_law_year_right intsD
  wtm_at "A"
  rw [List.length_map]
  refine rc_divmod ⟨by omega, by omega⟩ ?_
  wtm_at "A"
  refine rc_sum (.lst _) ?_
  wtm_at "A"
  rw [cut_pre h1 (by omega)]
  refine rc_sum (.lst _) ?_
  wtm_at "A"
  have eD : y / ls.length * ls.sum + (ls.take (y % ls.length).toNat).sum = firstY ls y := rfl
  rw [eD]
  refine ⟨ls, y, rfl, hg, fun _ => ?_, fun e => by omega⟩
  wtm_at "E"
  refine ro_ixL (.lst _) hix ?_
  wtm_at "E"
  refine ⟨_, rfl, ?_⟩
  wtm_at "E"
  refine ⟨ls, y, rfl, hg, fun _ => ?_, fun e => by omega⟩
  wtm_at "E"
  refine ⟨_, rfl, ?_⟩
  wtm_at "E"
  refine q_for (di_any ?_)
  refine de_lstZ ?_
  wtm_at "E"
  refine ro_ixL (.lst _) hix ?_
  wtm_at "E"
  refine ro_ixL (.lst _) hix ?_
  wtm_at "E"
  refine ⟨k, k2, c, ns, longY ls y, rfl, hd, by omega, by omega, by omega, fun r ns1 hr0 hr1 hn1 => ?_⟩
  wtm_at "E"
  refine ⟨_, _, .lst _, fun i ρ' μ' => ∃ y7 : Option D, ρ' = [some (calD K ls), some (intsD ls), some (.int y), some (.own k), some (.int (y / ls.length)), some (.int (y % ls.length)), some (.int (firstY ls y)), y7] ∧ μ' = hold μ k k2 (c + 1) ns1, ⟨_, rfl, rfl⟩, fun _ _ _ _ _ => trivial, ?_, ?_⟩
  · rintro i d ρ' μ' hi ⟨y7, rfl, rfl⟩
    obtain ⟨s, rfl, hs0, hs1⟩ : ∃ s, d = .int s ∧ 0 ≤ s ∧ s < longY ls y := by
      have := List.mem_of_getElem? hi
      simp at this
      rcases this with rfl | rfl | rfl
      · exact ⟨_, rfl, by omega, by omega⟩
      · exact ⟨_, rfl, by omega, by omega⟩
      · exact ⟨_, rfl, by omega, by omega⟩
    have hp : PosY ls y s (firstY ls y + s) := ⟨hy0, hs0, hs1, rfl⟩
    have hf0 := firstY_nn hg hy0
    refine dg_name (s_when (dt_not (dt_truth ?_)))
    refine de_call hE ?_
    unfold calD
    wtm_at "E"
    refine ⟨ls, _, rfl, hg, fun _ => ?_, fun e => by omega⟩
    rw [atY_pos hg hp]
    wtm_at "E"
    refine ⟨_, _, false, [y, s], rfl, .tup [y, s], .tup [y, s], by simp, ?_⟩
    wtm_at "E"
    rfl
  · rintro ρ' μ' ⟨y7, rfl, rfl⟩
    wtm_at "A"
    exact ret_same0 (by rw [hold_len]; exact Nat.le_refl _) (hd.cl hm) rfl (h ns1 hn1)
/-- what the other list of years is -/
theorem d_law_alike_right (kc : KCal K) (kq : KEq K "Calendar") : ∀ ds μ P PX, c_law_alike_right K ds μ P PX → MuCl μ μ.length → clL ds μ.length = true → ∀ B E, XAg K B (RetX μ.length PX) E → DS K B (t_law_alike_right K E) (startD ["_law_calendar", "_law_lengths_here", "_law_hold", "_law_way", "_law_spot", "_law_other", "_law_twin", "_law_same", "_law_unlike"] ds) μ (fnE μ.length P) := by
  intro ds μ P PX h hm hc B E hE
  obtain ⟨ls, k, k2, c, ns, rfl, hg, hd, hc1, h⟩ := h
  have hpos := hg.pos; have hmost := hg.most
  show DS K B _ [some (calD K ls), some (intsD ls), some (.own k), none, none, none, none, none, none] μ _
  unfold t_law_alike_right intsD
  wtm_at "A"
  refine ⟨k, k2, c, ns, 6, rfl, hd, by omega, by decide, by decide, fun w ns1 hw0 hw1 hn1 => ?_⟩
  have hd1 := hd.hold (c' := c + 1) (ns' := ns1) (by have := hd.c0; omega) (by omega)
  wtm_at "A"
  refine ⟨k, k2, c + 1, ns1, _, rfl, hd1, by omega, by simp; omega, by simp; omega, fun sp ns2 hs0 hs1 hn2 => ?_⟩
  rw [hold_hold hd.ne]
  rw [List.length_map] at hs1
  have hd2 := hd.hold (c' := c + 1 + 1) (ns' := ns2) (by have := hd.c0; omega) (by omega)
  refine q_set (de_cb ?_)
  wtm_at "g"
  refine rc_listO (.lst _) ?_
  have hlen : (hold μ k k2 (c + 1 + 1) ns2).length = μ.length := hold_len
  generalize hν : hold μ k k2 (c + 1 + 1) ns2 = ν at hd2 hlen
  refine ds_cut (M := fun ρ' μ' => ∃ (x : D) (os : List Int) (c' : Int) (ns' : List Int) (ext : Mu), μ' = hold μ k k2 c' ns' ++ ext ∧ c ≤ c' ∧ c' ≤ c + 3 ∧ ns'.length = ns.length ∧ Lt μ' x (os.map D.int) ∧ GCal os ∧ ρ' = [some (calD K ls), some (.lst (ls.map D.int)), some (.own k), some (.int w), some (.int sp), some x, none, none, none]) ?_ ?_
  · have hold2 : ∀ ext, ν ++ ext = hold μ k k2 (c + 1 + 1) ns2 ++ ext := fun ext => by rw [hν]
    have old : DS K B tNext [some (calD K ls), some (.lst (ls.map D.int)), some (.own k), some (.int w), some (.int sp), some (.own ν.length), none, none, none] (ν ++ [.lst (ls.map D.int)]) _ := ds_next (P := { fnE μ.length P with nx := fun ρ' μ' => ∃ (x : D) (os : List Int) (c' : Int) (ns' : List Int) (ext : Mu), μ' = hold μ k k2 c' ns' ++ ext ∧ c ≤ c' ∧ c' ≤ c + 3 ∧ ns'.length = ns.length ∧ Lt μ' x (os.map D.int) ∧ GCal os ∧ ρ' = [some (calD K ls), some (.lst (ls.map D.int)), some (.own k), some (.int w), some (.int sp), some x, none, none, none] }) ⟨_, ls, c + 1 + 1, ns2, _, hold2 _, by omega, by omega, by omega, .own mu_last, hg, rfl⟩
    refine ds_if ?_
    wtm_at "E"
    · -- one year changed
      obtain ⟨x, hx, hx2⟩ := atNN (xs := ls) hs0 (by omega)
      have hxm := hg.each x (List.mem_of_getElem? hx2)
      refine ds_asg (de_op (de_op (de_op ?_)))
      wtm_at "v"
      wtm_at "v"
      refine ro_ixL (.own mu_last) (at_map (j := sp.toNat) (by omega) hx2) ?_
      wtm_at "E"
      refine rset_lst (j := sp.toNat) mu_last (by simp only [ixN, List.length_map]; split <;> simp <;> omega) ?_
      rw [set_last]
      refine ⟨_, ls.set sp.toNat (x % 400 + 1), c + 1 + 1, ns2, _, hold2 _, by omega, by omega, by omega, .own ?_, ⟨by simp; omega, by simp; omega, fun z hz => ?_⟩, rfl⟩
      · rw [List.map_set]; exact mu_last
      · rcases List.mem_or_eq_of_mem_set hz with q | q
        · exact hg.each z q
        · subst q; omega
    refine ds_if ?_
    wtm_at "E"
    · -- told twice
      refine ds_set (de_sl (de_op ?_))
      wtm_at "v"
      wtm_at "v"
      refine ro_addL (.own mu_last) (.own mu_last) (by simp; omega) ?_
      wtm_at "E"
      rw [← List.map_append, cut_take (by decide), ← List.map_take]
      refine ⟨_, (ls ++ ls).take 20, c + 1 + 1, ns2, _, hold2 _, by omega, by omega, by omega, .lst _, ⟨by simp; omega, by simp; omega, fun z hz => ?_⟩, rfl⟩
      rcases List.mem_append.mp (List.mem_of_mem_take hz) with q | q <;> exact hg.each z q
    refine ds_if ?_
    wtm_at "E"
    · -- turned about
      refine ds_drop ?_
      wtm_at "E"
      wtm_at "m"
      refine rm_reverse mu_last ?_
      rw [set_last]
      refine ⟨_, ls.reverse, c + 1 + 1, ns2, _, hold2 _, by omega, by omega, by omega, .own ?_, ⟨by simp; omega, by simp; omega, fun z hz => hg.each z (List.mem_reverse.mp hz)⟩, rfl⟩
      rw [List.map_reverse]; exact mu_last
    refine ds_if ?_
    wtm_at "E"
    · -- one more
      refine ds_set (de_sl (de_op ?_))
      wtm_at "v"
      refine de_lstZ ?_
      wtm_at "E"
      refine ⟨k, k2, c + 1 + 1, ns2, 400, rfl, hd2.app _, by omega, by decide, by decide, fun r ns3 hr0 hr1 hn3 => ?_⟩
      rw [hold_app hd2, ← hν, hold_hold hd.ne]
      wtm_at "E"
      have hl3 : (hold μ k k2 (c + 1 + 1 + 1) ns3).length = ν.length := by rw [hold_len, hlen]
      refine ro_addL (.own (ds := ls.map D.int) (by rw [hν, ← hl3]; exact mu_last)) (.lst _) (by simp; omega) ?_
      wtm_at "E"
      rw [show (ls.map D.int ++ [D.int (1 + r)]) = (ls ++ [1 + r]).map D.int by simp, cut_take (by decide), ← List.map_take]
      refine ⟨_, (ls ++ [1 + r]).take 20, c + 1 + 1 + 1, ns3, _, rfl, by omega, by omega, by omega, .lst _, ⟨by simp; omega, by simp; omega, fun z hz => ?_⟩, rfl⟩
      rcases List.mem_append.mp (List.mem_of_mem_take hz) with q | q
      · exact hg.each z q
      · simp at q; omega
    refine ds_if ?_
    wtm_at "E"
    · -- one less
      refine ds_set (de_sl ?_)
      wtm_at "E"
      refine rs_anyL (.own mu_last) ?_
      rw [cut_take (by omega), ← List.map_take]
      refine ⟨_, ls.take (max 1 ((ls.map D.int).length - 1 : Int)).toNat, c + 1 + 1, ns2, _, hold2 _, by omega, by omega, by omega, .lst _, hg.take (by omega), rfl⟩
    exact old
  · rintro ρ' μ' ⟨x, os, c', ns', ext, rfl, hc0', hc1', hn', hx, hgo, rfl⟩
    have hxL : Ls (hold μ k k2 c' ns' ++ ext) x (os.map D.int) := by
      cases hx with
      | lst => exact .lst _
      | own h => exact .own h
    have hxF : Fz (hold μ k k2 c' ns' ++ ext) x (intsD os) := by
      cases hx with
      | lst => exact .id _
      | own h => exact .own h
    refine q_set (de_cal hE ?_)
    wtm_at "g"
    refine rc_list hxL ?_
    wtm_at "g"
    refine ⟨_, os, rfl, .id _, hgo, ?_⟩
    refine q_parZ ?_
    wtm_at "g"
    refine ro_calEq kq ?_
    wtm_at "g"
    refine ro_calNe kq ?_
    wtm_at "g"
    refine two_i ?_
    refine q_when ?_
    wtm_at "E"
    refine ro_eqD (n := 1) (m := 1) hxF (.id _) (shp_ints _) (shp_ints ls) ?_
    rw [show D.lst (ls.map D.int) = intsD ls from rfl, eqv_ints]
    have e : (os = ls) = (ls = os) := propext ⟨Eq.symm, Eq.symm⟩
    simp only [e]
    refine ro_neB ?_
    simp only [decide_true, Bool.not_true]
    wtm_at "E"
    refine ro_neD (n := 1) (m := 1) hxF (.id _) (shp_ints _) (shp_ints ls) ?_
    rw [eqv_ints]
    simp only [e]
    refine ro_neB ?_
    simp only [decide_true, Bool.not_true]
    wtm_at "E"
    refine ds_ret (de_andV (de_op (de_op ?_)))
    wtm_at "g"
    refine ro_calT (n := "list") kq rfl (by simp) ?_
    wtm_at "E"
    refine ro_calT (n := "int") kq rfl (by simp) ?_
    wtm_at "E"
    exact ret_same (by rw [hold_len]; exact Nat.le_refl _) (hd.cl hm) rfl (h c' ns' hc0' hc1' hn')
theorem d_law (kc : KCal K) : ∀ ds μ P PX, c_law K ds μ P PX → MuCl μ μ.length → clL ds μ.length = true → ∀ B E, XAg K B (RetX μ.length PX) E → DS K B (t_law K E) (startD ["_law_script", "_law_hold", "_law_lengths_here", "_law_calendar", "_law_k"] ds) μ (fnE μ.length P) := by
  intro ds μ P PX h hm hc B E hE
  obtain ⟨ns, rfl, hl, h⟩ := h
  show DS K B _ [some (.rdl (ns.map D.int)), none, none, none, none] μ _
  unfold t_law
  wtm_at "dS"
  refine de_hold0 rfl hl fun cs hd0 => ?_
  have hm0 := hold0_cl (cs := cs) hm
  have hle : μ.length ≤ (μ ++ [MO.lst (cs.map D.int), MO.lst [D.int 0, D.own μ.length]]).length := by simp
  generalize μ ++ [MO.lst (cs.map D.int), MO.lst [D.int 0, D.own μ.length]] = μ0 at hd0 hm0 hle ⊢
  generalize μ.length + 1 = k at hd0 ⊢
  generalize hk2 : μ.length = k2 at hd0
  wtm_at "A"
  refine ⟨k, k2, 0, cs, 400, 20, rfl, hd0, by decide, by decide, by decide, by decide, by decide, fun ls c1 cs1 hl0 hl1 hle' hc0 hc1 hn1 => ?_⟩
  have hg : GCal ls := ⟨hl0, by omega, fun x hx => by have := hle' x hx; omega⟩
  have hpos := hg.pos; have hmost := hg.most
  have hd1 := hd0.hold (c' := c1) (ns' := cs1) (by omega) (by omega)
  wtm_at "A"
  refine de_cal hE ?_
  unfold intsD
  wtm_at "A"
  refine ⟨_, ls, rfl, .id _, hg, ?_⟩
  unfold calD
  refine q_when (dt_or (dt_not (dt_truth (de_call hE ?_))))
  wtm_at "E"
  refine ⟨ls, rfl, .inl ?_⟩
  wtm_at "E"
  refine ⟨_, _, true, ls, rfl, .lst _, .lst _, by omega, ?_⟩
  wtm_at "E"
  refine ⟨ls, rfl, ?_⟩
  wtm_at "E"
  refine rc_sum (.lst _) ?_
  wtm_at "E"
  refine ⟨_, rfl, ?_⟩
  wtm_at "E"
  refine q_for ?_
  wtm_at "E"
  refine ⟨by omega, by omega, fun i ρ μ' => ∃ (y4 : Option D) (c : Int) (cs' : List Int), ρ = [some (.rdl (ns.map D.int)), some (.own k), some (intsD ls), some (calD K ls), y4] ∧ μ' = hold μ0 k k2 c cs' ∧ 0 ≤ c ∧ c ≤ 22 + 3 * i ∧ cs'.length = cs.length,
    ⟨none, c1, cs1, rfl, rfl, by omega, by omega, hn1⟩, fun _ _ _ _ _ => trivial, ?_, ?_⟩
  · rintro i d ρ μ' hd ⟨y4, c, cs', rfl, rfl, hc0', hc1', hn'⟩
    obtain ⟨hi, rfl⟩ := rangeD_some hd
    have hi2 : i < 2 := by simpa using hi
    have hd2 := hd0.hold (c' := c) (ns' := cs') hc0' hn'
    wtm_at "A"
    refine ⟨ls, k, k2, c, cs', rfl, hg, hd2, by omega, fun c3 cs3 h30 h31 hn3 => ?_⟩
    rw [hold_hold hd0.ne]
    wtm_at "E"
    exact ⟨_, c3, cs3, rfl, rfl, by omega, by omega, by omega⟩
  · rintro ρ μ' ⟨y4, c, cs', rfl, rfl, hc0', hc1', hn'⟩
    rw [rangeD_length] at hc1'
    refine q_for ?_
    wtm_at "E"
    refine ⟨by rw [List.length_map]; omega, by rw [List.length_map]; omega, fun i ρ μ' => ∃ (y4 : Option D) (c : Int) (cs' : List Int), ρ = [some (.rdl (ns.map D.int)), some (.own k), some (intsD ls), some (calD K ls), y4] ∧ μ' = hold μ0 k k2 c cs' ∧ 0 ≤ c ∧ c ≤ 28 + 9 * i ∧ cs'.length = cs.length,
      ⟨_, c, cs', rfl, rfl, by omega, by simp at hc1'; omega, hn'⟩, fun _ _ _ _ _ => trivial, ?_, ?_⟩
    · rintro i d ρ μ' hd ⟨y4, c, cs', rfl, rfl, hc0', hc1', hn'⟩
      obtain ⟨hi, rfl⟩ := rangeD_some hd
      have hi63 : i < 64 := by rw [List.length_map] at hi; omega
      have hd2 := hd0.hold (c' := c) (ns' := cs') hc0' hn'
      wtm_at "A"
      refine ⟨k, k2, c, cs', rfl, hd2, by omega, fun y c3 cs3 hy0 hy1 h30 h31 hn3 => ?_⟩
      rw [hold_hold hd0.ne]
      have hd3 := hd0.hold (c' := c3) (ns' := cs3) (by omega) (by omega)
      wtm_at "E"
      refine ⟨ls, y, k, k2, c3, cs3, rfl, hg, hy0, hd3, by omega, fun cs4 hn4 => ?_⟩
      rw [hold_hold hd0.ne]
      wtm_at "E"
      exact ⟨_, c3 + 1, cs4, rfl, rfl, by omega, by omega, by omega⟩
    · rintro ρ μ' ⟨y4, c, cs', rfl, rfl, hc0', hc1', hn'⟩
      wtm_at "A"
      exact ret_same0 (by rw [hold_len]; omega) (hd0.cl hm0) rfl (h _)
end
end Dl
set_option Elab.async false
set_option linter.all false
set_option maxRecDepth 100000
namespace Dl
open PySem L2 PyProof.Rows
/-! ### the text, def by def -/
abbrev N_law_draw : List Str := ["_law_hold", "_law_many", "_law_spot", "_law_cell", "_law_mark"]
theorem sc_law_draw : FnScope N_law_draw ["_law_hold", "_law_many"] (defScope s_law_draw) := ⟨rfl, rfl, rfl, by decide +kernel, rfl, by decide +kernel, by decide +kernel⟩
set_option maxHeartbeats 1000000 in
theorem ok_law_draw {P : Program} {w : World} {K : PySem.W.Frag} {mg : Str → Option Value} {base : Heap} {f : Addr} {fd : FuncData}  (F : FunD K "_law_draw" "_law_draw" (defArgs s_law_draw) (defBody s_law_draw) (defScope s_law_draw) [] [] f fd) (n_len : mg "len" = none) :
    FnOk P w K mg base (L2.CX P w) 1 f fd ["_law_hold", "_law_many"] (spD K (c_law_draw K)) :=
  fn_DD (t := t_law_draw K) F sc_law_draw (fun ds μ P PX h => by unfold c_law_draw at h; first | (obtain ⟨_, rfl, _⟩ := h; rfl) | (obtain ⟨_, _, rfl, _⟩ := h; rfl) | (obtain ⟨_, _, _, rfl, _⟩ := h; rfl) | (obtain ⟨_, _, _, _, rfl, _⟩ := h; rfl) | (obtain ⟨_, _, _, _, _, rfl, _⟩ := h; rfl) | (obtain ⟨_, _, _, _, _, _, rfl, _⟩ := h; rfl) | (obtain ⟨_, _, _, _, _, _, _, rfl, _⟩ := h; rfl) | (obtain ⟨_, _, _, _, _, _, _, _, rfl, _⟩ := h; rfl)) (by decide)
    (fun cdv A outer s H E hr => by exact
      (pss_cons (ps_set (i := 2) sc_law_draw.nd rfl (by first | exact Or.inl rfl | exact Or.inr rfl) (pe_op op_modA (pe_ix ix_seq (pv 0) pe_int (fun _ _ => rfl)) (pe_callB call_len (by rfl) n_len (by decide +kernel) (pa_cons (pe_ix ix_seq (pv 0) pe_int (fun _ _ => rfl)) pa_nil))))
      (pss_cons (ps_set (i := 3) sc_law_draw.nd rfl (by first | exact Or.inl rfl | exact Or.inr rfl) (pe_ix ix_seq (pe_ix ix_seq (pv 0) pe_int (fun _ _ => rfl)) (pv 2) (fun _ _ => rfl)))
      (pss_cons (ps_augS (pv 0) pe_int get_list pe_int ip_add set_list)
      (pss_cons (ps_if (pt_cmpR op_ge (pv 3) pe_int (nomark _)) (pss_cons (ps_asg (pe_op op_fdivA (pv 3) (pv 1)) (pg_sub (pe_ix ix_seq (pv 0) pe_int (fun _ _ => rfl)) (pv 2) set_list))
      (pss_one (ps_ret (pe_op op_modA (pv 3) (pv 1))))) pss_nil)
      (pss_cons (ps_set (i := 4) sc_law_draw.nd rfl (by first | exact Or.inl rfl | exact Or.inr rfl) (pe_op op_modA (pe_op op_addA (pe_op op_modA (pv 3) pe_int) (pe_op op_mulA pe_int (pe_ix ix_seq (pv 0) pe_int (fun _ _ => rfl)))) pe_int))
      (pss_cons (ps_set (i := 4) sc_law_draw.nd rfl (by first | exact Or.inl rfl | exact Or.inr rfl) (pe_op op_modA (pe_op op_mulA (pe_op op_modA (pe_op op_pow (pv 4) pe_int) pe_int) pe_int) pe_int))
      (pss_one (ps_ret (pe_op op_modA (pe_op op_fdivA (pe_op op_modA (pe_op op_pow (pe_op op_addA (pv 4) (pe_op op_mulA (pe_op op_modA (pv 3) pe_int) (pe_ix ix_seq (pv 0) pe_int (fun _ _ => rfl)))) pe_int) pe_int) pe_int) (pv 1)))))))))))
    (d_law_draw)
abbrev N_law_lengths : List Str := ["_law_hold", "_law_most", "_law_many", "_law_way", "_law_some", "_law_k"]
theorem sc_law_lengths : FnScope N_law_lengths ["_law_hold", "_law_most", "_law_many"] (defScope s_law_lengths) := ⟨rfl, rfl, rfl, by decide +kernel, rfl, by decide +kernel, by decide +kernel⟩
set_option maxHeartbeats 1000000 in
theorem ok_law_lengths {P : Program} {w : World} {K : PySem.W.Frag} {mg : Str → Option Value} {base : Heap} {f : Addr} {fd : FuncData} {f_law_draw : Addr} {fd_law_draw : FuncData} (F : FunD K "_law_lengths" "_law_lengths" (defArgs s_law_lengths) (defBody s_law_lengths) (defScope s_law_lengths) [] [] f fd) (F_law_draw : FnOk P w K mg base (L2.CX P w) 1 f_law_draw fd_law_draw ["_law_hold", "_law_many"] (spD K (c_law_draw K))) (B_law_draw : Binds K fd_law_draw ["_law_hold", "_law_many"] []) (m_law_draw : mg "_law_draw" = some (.ref f_law_draw)) (k_law_draw : PySem.W.keepIn K (.ref f_law_draw) = true) (n_range : mg "range" = none) :
    FnOk P w K mg base (L2.CX P w) 2 f fd ["_law_hold", "_law_most", "_law_many"] (spD K (c_law_lengths K)) :=
  fn_DD (t := t_law_lengths K) F sc_law_lengths (fun ds μ P PX h => by unfold c_law_lengths at h; first | (obtain ⟨_, rfl, _⟩ := h; rfl) | (obtain ⟨_, _, rfl, _⟩ := h; rfl) | (obtain ⟨_, _, _, rfl, _⟩ := h; rfl) | (obtain ⟨_, _, _, _, rfl, _⟩ := h; rfl) | (obtain ⟨_, _, _, _, _, rfl, _⟩ := h; rfl) | (obtain ⟨_, _, _, _, _, _, rfl, _⟩ := h; rfl) | (obtain ⟨_, _, _, _, _, _, _, rfl, _⟩ := h; rfl) | (obtain ⟨_, _, _, _, _, _, _, _, rfl, _⟩ := h; rfl)) (by decide)
    (fun cdv A outer s H E hr => by exact
      (pss_cons (ps_set (i := 3) sc_law_lengths.nd rfl (by first | exact Or.inl rfl | exact Or.inr rfl) (pe_call F_law_draw (hr.mono (by decide)) (by rfl) m_law_draw k_law_draw B_law_draw .nil (passes_call (takes_of rfl rfl rfl rfl) (fun _ _ _ _ h => h)) (pa_cons (pv 0) (pa_cons pe_int pa_nil))))
      (pss_cons (ps_if (pt_cmpR (op_eqD hr.units) (pv 3) pe_int (nomark _)) (pss_one (ps_ret (pe_op op_mulA (pe_lst (pa_cons (pv 1) pa_nil)) (pv 2)))) pss_nil)
      (pss_cons (ps_set (i := 4) sc_law_lengths.nd rfl (by first | exact Or.inl rfl | exact Or.inr rfl) (pe_ix ix_seq (pe_lst (pa_cons pe_int (pa_cons pe_int (pa_cons pe_int (pa_cons (pv 1) (pa_cons (pv 1) (pa_cons (pv 1) (pa_cons (pv 1) pa_nil)))))))) (pe_op op_sub (pv 3) pe_int) (fun _ _ => rfl)))
      (pss_one (ps_ret (pe_lc (own := [("_law_k", 5)]) (g := (gName 5)) (tt := tYes) (te := (tOp (rAddA K) (tC (.int 1)) (tCall (spD K (c_law_draw K)) [] E0 (tCons (tVar 0) (tCons (tVar 4) tNil))))) (by rfl) sc_law_lengths.nd (pi_range1 (by rfl) n_range (pa_cons (pe_op op_addA pe_int (pe_call F_law_draw (hr.mono (by decide)) (by rfl) m_law_draw k_law_draw B_law_draw .nil (passes_call (takes_of rfl rfl rfl rfl) (fun _ _ _ _ h => h)) (pa_cons (pv 0) (pa_cons (pv 2) pa_nil)))) pa_nil)) (blkOk_by (own := [("_law_k", 5)]) (N := N_law_lengths) (sc := defScope s_law_lengths) (by decide +kernel)) (fun _ _ _ _ _ => by exact (pg_name (i := 5) sc_law_lengths.nd rfl (by first | exact Or.inl rfl | exact Or.inr rfl))) (fun _ _ _ _ _ => by exact pts_nil) (fun _ _ _ _ _ => by exact (pe_op op_addA pe_int (pe_call F_law_draw (hr.mono (by decide)) (by rfl) m_law_draw k_law_draw B_law_draw .nil passL (pa_cons (pv 0) (pa_cons (pv 4) pa_nil))))))))))))
    (d_law_lengths)
abbrev N_is_number : List Str := ["thing", "least", "most"]
theorem sc_is_number : FnScope N_is_number ["thing", "least", "most"] (defScope s_is_number) := ⟨rfl, rfl, rfl, by decide +kernel, rfl, by decide +kernel, by decide +kernel⟩
set_option maxHeartbeats 1000000 in
theorem ok_is_number {P : Program} {w : World} {K : PySem.W.Frag} {mg : Str → Option Value} {base : Heap} {f : Addr} {fd : FuncData}  (F : FunD K "is_number" "is_number" (defArgs s_is_number) (defBody s_is_number) (defScope s_is_number) [] [] f fd) (n_int : mg "int" = none) (n_isinstance : mg "isinstance" = none) (n_bool : mg "bool" = none) :
    FnOk P w K mg base (L2.CX P w) 1 f fd ["thing", "least", "most"] (spD K (c_is_number K)) :=
  fn_DD (t := t_is_number K) F sc_is_number (fun ds μ P PX h => by unfold c_is_number at h; first | (obtain ⟨_, rfl, _⟩ := h; rfl) | (obtain ⟨_, _, rfl, _⟩ := h; rfl) | (obtain ⟨_, _, _, rfl, _⟩ := h; rfl) | (obtain ⟨_, _, _, _, rfl, _⟩ := h; rfl) | (obtain ⟨_, _, _, _, _, rfl, _⟩ := h; rfl) | (obtain ⟨_, _, _, _, _, _, rfl, _⟩ := h; rfl) | (obtain ⟨_, _, _, _, _, _, _, rfl, _⟩ := h; rfl) | (obtain ⟨_, _, _, _, _, _, _, _, rfl, _⟩ := h; rfl)) (by decide)
    (fun cdv A outer s H E hr => by exact
      (pss_one (ps_ret (pe_and (pe_callB call_isi (by rfl) n_isinstance (by decide +kernel) (pa_cons (pv 0) (pa_cons (pe_bltn (v := .ty "int") (by rfl) n_int (by decide +kernel) rfl) pa_nil))) (pe_and (pe_not (pe_callB call_isi (by rfl) n_isinstance (by decide +kernel) (pa_cons (pv 0) (pa_cons (pe_bltn (v := .ty "bool") (by rfl) n_bool (by decide +kernel) rfl) pa_nil)))) (pe_one (pe_chain op_le op_le (pv 1) (pv 0) (pv 2))))))))
    (d_is_number)
abbrev N_are_numbers : List Str := ["thing", "long", "least", "most", "one"]
theorem sc_are_numbers : FnScope N_are_numbers ["thing", "long", "least", "most"] (defScope s_are_numbers) := ⟨rfl, rfl, rfl, by decide +kernel, rfl, by decide +kernel, by decide +kernel⟩
set_option maxHeartbeats 1000000 in
theorem ok_are_numbers {P : Program} {w : World} {K : PySem.W.Frag} {mg : Str → Option Value} {base : Heap} {f : Addr} {fd : FuncData} {f_is_number : Addr} {fd_is_number : FuncData} (F : FunD K "are_numbers" "are_numbers" (defArgs s_are_numbers) (defBody s_are_numbers) (defScope s_are_numbers) [] [] f fd) (F_is_number : FnOk P w K mg base (L2.CX P w) 1 f_is_number fd_is_number ["thing", "least", "most"] (spD K (c_is_number K))) (B_is_number : Binds K fd_is_number ["thing", "least", "most"] []) (m_is_number : mg "is_number" = some (.ref f_is_number)) (k_is_number : PySem.W.keepIn K (.ref f_is_number) = true) (n_list : mg "list" = none) (n_isinstance : mg "isinstance" = none) (n_len : mg "len" = none) (n_all : mg "all" = none) :
    FnOk P w K mg base (L2.CX P w) 2 f fd ["thing", "long", "least", "most"] (spD K (c_are_numbers K)) :=
  fn_DD (t := t_are_numbers K) F sc_are_numbers (fun ds μ P PX h => by unfold c_are_numbers at h; first | (obtain ⟨_, rfl, _⟩ := h; rfl) | (obtain ⟨_, _, rfl, _⟩ := h; rfl) | (obtain ⟨_, _, _, rfl, _⟩ := h; rfl) | (obtain ⟨_, _, _, _, rfl, _⟩ := h; rfl) | (obtain ⟨_, _, _, _, _, rfl, _⟩ := h; rfl) | (obtain ⟨_, _, _, _, _, _, rfl, _⟩ := h; rfl) | (obtain ⟨_, _, _, _, _, _, _, rfl, _⟩ := h; rfl) | (obtain ⟨_, _, _, _, _, _, _, _, rfl, _⟩ := h; rfl)) (by decide)
    (fun cdv A outer s H E hr => by exact
      (pss_cons (ps_if (PW.pt (pw_or (pt_not (pt_truth (pe_callB call_isi (by rfl) n_isinstance (by decide +kernel) (pa_cons (pv 0) (pa_cons (pe_bltn (v := .ty "list") (by rfl) n_list (by decide +kernel) rfl) pa_nil))) (by intro _; rfl))) (pw_or1 (pt_not (pt_chain op_le op_le pe_int (pe_callB call_len (by rfl) n_len (by decide +kernel) (pa_cons (pv 0) pa_nil)) (pv 1)))))) (pss_one (ps_ret pe_bl)) pss_nil)
      (pss_one (ps_ret (pe_callB (cr_all rfl) (by rfl) n_all (by decide +kernel) (pa_cons (pe_lc (own := [("one", 4)]) (g := (gName 4)) (tt := tYes) (te := (tCall (spD K (c_is_number K)) [] E0 (tCons (tVar 4) (tCons (tVar 2) (tCons (tVar 3) tNil))))) (by rfl) sc_are_numbers.nd (pi_any (pv 0)) (blkOk_by (own := [("one", 4)]) (N := N_are_numbers) (sc := defScope s_are_numbers) (by decide +kernel)) (fun _ _ _ _ _ => by exact (pg_name (i := 4) sc_are_numbers.nd rfl (by first | exact Or.inl rfl | exact Or.inr rfl))) (fun _ _ _ _ _ => by exact pts_nil) (fun _ _ _ _ _ => by exact (pe_call F_is_number (hr.mono (by decide)) (by rfl) m_is_number k_is_number B_is_number .nil passL (pa_cons (pv 4) (pa_cons (pv 2) (pa_cons (pv 3) pa_nil)))))) pa_nil))))))
    (d_are_numbers)
abbrev N_Calendar_init : List Str := ["self", "years", "days"]
theorem sc_Calendar_init : FnScope N_Calendar_init ["self", "years"] (defScope s_Calendar_init) := ⟨rfl, rfl, rfl, by decide +kernel, rfl, by decide +kernel, by decide +kernel⟩
set_option maxHeartbeats 1000000 in
theorem ok_Calendar_init {P : Program} {w : World} {K : PySem.W.Frag} {mg : Str → Option Value} {base : Heap} {f : Addr} {fd : FuncData} {f_are_numbers : Addr} {fd_are_numbers : FuncData} (F : FunD K "__init__" "Calendar.__init__" (defArgs s_Calendar_init) (defBody s_Calendar_init) (defScope s_Calendar_init) [] [] f fd) (F_are_numbers : FnOk P w K mg base (L2.CX P w) 2 f_are_numbers fd_are_numbers ["thing", "long", "least", "most"] (spD K (c_are_numbers K))) (B_are_numbers : Binds K fd_are_numbers ["thing", "long", "least", "most"] []) (m_are_numbers : mg "are_numbers" = some (.ref f_are_numbers)) (k_are_numbers : PySem.W.keepIn K (.ref f_are_numbers) = true) (x_BadCalendar : ExC K mg "BadCalendar") (n_list : mg "list" = none) (kc : KCal K) :
    FnOk P w K mg base (L2.CX P w) 3 f fd ["self", "years"] (spD K (c_Calendar_init K)) :=
  fn_DD (t := t_Calendar_init K) F sc_Calendar_init (fun ds μ P PX h => by unfold c_Calendar_init at h; first | (obtain ⟨_, rfl, _⟩ := h; rfl) | (obtain ⟨_, _, rfl, _⟩ := h; rfl) | (obtain ⟨_, _, _, rfl, _⟩ := h; rfl) | (obtain ⟨_, _, _, _, rfl, _⟩ := h; rfl) | (obtain ⟨_, _, _, _, _, rfl, _⟩ := h; rfl) | (obtain ⟨_, _, _, _, _, _, rfl, _⟩ := h; rfl) | (obtain ⟨_, _, _, _, _, _, _, rfl, _⟩ := h; rfl) | (obtain ⟨_, _, _, _, _, _, _, _, rfl, _⟩ := h; rfl)) (by decide)
    (fun cdv A outer s H E hr => by exact
      (pss_cons (ps_if (pt_not (pt_truth (pe_call F_are_numbers (hr.mono (by decide)) (by rfl) m_are_numbers k_are_numbers B_are_numbers .nil (passes_call (takes_of rfl rfl rfl rfl) (fun _ _ _ _ h => h)) (pa_cons (pv 1) (pa_cons pe_int (pa_cons pe_int (pa_cons pe_int pa_nil))))) (by intro _; rfl))) (pss_one (ps_raise rfl (takes_of rfl rfl rfl rfl) (pmk_own PySem.F.excBase_ValueError x_BadCalendar.xc x_BadCalendar.gc x_BadCalendar.kc (raises_own x_BadCalendar.bc x_BadCalendar.tc) (by rfl)))) pss_nil)
      (pss_cons (ps_fld (pv 0) (pe_callTy call_list_of (by rfl) n_list (by decide +kernel) (pa_cons (pv 1) pa_nil)) rfl)
      (pss_cons (ps_fld (pv 0) (pe_lst pa_nil) rfl)
      (pss_cons (ps_fld (pv 0) pe_int rfl)
      (pss_one (ps_for (passes_of rfl) rfl (pi_any (pe_fld (pv 0) rfl)) (pg_name (i := 2) sc_Calendar_init.nd rfl (by first | exact Or.inl rfl | exact Or.inr rfl)) (pss_cons (ps_expr (pe_bm PySem.F.plainAttrs_list PySem.F.slot_list_append PySem.F.type_list_append mt_append (pe_fld (pv 0) rfl) (pa_cons (pe_fld (pv 0) rfl) pa_nil)))
      (pss_one (ps_fldaug (pv 0) (pv 2) in_add))))))))))
    (d_Calendar_init kc)
abbrev N_law_is : List Str := ["_law_found", "_law_due"]
theorem sc_law_is : FnScope N_law_is ["_law_found", "_law_due"] (defScope s_law_is) := ⟨rfl, rfl, rfl, by decide +kernel, rfl, by decide +kernel, by decide +kernel⟩
set_option maxHeartbeats 1000000 in
theorem ok_law_is {P : Program} {w : World} {K : PySem.W.Frag} {mg : Str → Option Value} {base : Heap} {f : Addr} {fd : FuncData}  (F : FunD K "_law_is" "_law_is" (defArgs s_law_is) (defBody s_law_is) (defScope s_law_is) [] [] f fd) (n_int : mg "int" = none) (n_isinstance : mg "isinstance" = none) (n_bool : mg "bool" = none) :
    FnOk P w K mg base (L2.CX P w) 1 f fd ["_law_found", "_law_due"] (spD K (c_law_is K)) :=
  fn_DD (t := t_law_is K) F sc_law_is (fun ds μ P PX h => by unfold c_law_is at h; first | (obtain ⟨_, rfl, _⟩ := h; rfl) | (obtain ⟨_, _, rfl, _⟩ := h; rfl) | (obtain ⟨_, _, _, rfl, _⟩ := h; rfl) | (obtain ⟨_, _, _, _, rfl, _⟩ := h; rfl) | (obtain ⟨_, _, _, _, _, rfl, _⟩ := h; rfl) | (obtain ⟨_, _, _, _, _, _, rfl, _⟩ := h; rfl) | (obtain ⟨_, _, _, _, _, _, _, rfl, _⟩ := h; rfl) | (obtain ⟨_, _, _, _, _, _, _, _, rfl, _⟩ := h; rfl)) (by decide)
    (fun cdv A outer s H E hr => by exact
      (pss_one (ps_ret (pe_and (pe_callB call_isi (by rfl) n_isinstance (by decide +kernel) (pa_cons (pv 0) (pa_cons (pe_bltn (v := .ty "int") (by rfl) n_int (by decide +kernel) rfl) pa_nil))) (pe_and (pe_not (pe_callB call_isi (by rfl) n_isinstance (by decide +kernel) (pa_cons (pv 0) (pa_cons (pe_bltn (v := .ty "bool") (by rfl) n_bool (by decide +kernel) rfl) pa_nil)))) (pe_one (pe_cmpR (op_eqD hr.units) (pv 0) (pv 1) (nomark _))))))))
    (d_law_is)
abbrev N_law_row_is : List Str := ["_law_found", "_law_due", "_law_k"]
theorem sc_law_row_is : FnScope N_law_row_is ["_law_found", "_law_due"] (defScope s_law_row_is) := ⟨rfl, rfl, rfl, by decide +kernel, rfl, by decide +kernel, by decide +kernel⟩
set_option maxHeartbeats 1000000 in
theorem ok_law_row_is {P : Program} {w : World} {K : PySem.W.Frag} {mg : Str → Option Value} {base : Heap} {f : Addr} {fd : FuncData} {f_law_is : Addr} {fd_law_is : FuncData} (F : FunD K "_law_row_is" "_law_row_is" (defArgs s_law_row_is) (defBody s_law_row_is) (defScope s_law_row_is) [] [] f fd) (F_law_is : FnOk P w K mg base (L2.CX P w) 1 f_law_is fd_law_is ["_law_found", "_law_due"] (spD K (c_law_is K))) (B_law_is : Binds K fd_law_is ["_law_found", "_law_due"] []) (m_law_is : mg "_law_is" = some (.ref f_law_is)) (k_law_is : PySem.W.keepIn K (.ref f_law_is) = true) (n_list : mg "list" = none) (n_isinstance : mg "isinstance" = none) (n_tuple : mg "tuple" = none) (n_len : mg "len" = none) (n_range : mg "range" = none) :
    FnOk P w K mg base (L2.CX P w) 2 f fd ["_law_found", "_law_due"] (spD K (c_law_row_is K)) :=
  fn_DD (t := t_law_row_is K) F sc_law_row_is (fun ds μ P PX h => by unfold c_law_row_is at h; first | (obtain ⟨_, rfl, _⟩ := h; rfl) | (obtain ⟨_, _, rfl, _⟩ := h; rfl) | (obtain ⟨_, _, _, rfl, _⟩ := h; rfl) | (obtain ⟨_, _, _, _, rfl, _⟩ := h; rfl) | (obtain ⟨_, _, _, _, _, rfl, _⟩ := h; rfl) | (obtain ⟨_, _, _, _, _, _, rfl, _⟩ := h; rfl) | (obtain ⟨_, _, _, _, _, _, _, rfl, _⟩ := h; rfl) | (obtain ⟨_, _, _, _, _, _, _, _, rfl, _⟩ := h; rfl)) (by decide)
    (fun cdv A outer s H E hr => by exact
      (pss_cons (ps_if (PW.pt (pw_or (pt_cmpR (op_neD hr.units) (pe_callB call_isi (by rfl) n_isinstance (by decide +kernel) (pa_cons (pv 0) (pa_cons (pe_bltn (v := .ty "list") (by rfl) n_list (by decide +kernel) rfl) pa_nil))) (pe_callB call_isi (by rfl) n_isinstance (by decide +kernel) (pa_cons (pv 1) (pa_cons (pe_bltn (v := .ty "list") (by rfl) n_list (by decide +kernel) rfl) pa_nil))) (nomark _)) (pw_or1 (pt_cmpR (op_neD hr.units) (pe_callB call_isi (by rfl) n_isinstance (by decide +kernel) (pa_cons (pv 0) (pa_cons (pe_bltn (v := .ty "tuple") (by rfl) n_tuple (by decide +kernel) rfl) pa_nil))) (pe_callB call_isi (by rfl) n_isinstance (by decide +kernel) (pa_cons (pv 1) (pa_cons (pe_bltn (v := .ty "tuple") (by rfl) n_tuple (by decide +kernel) rfl) pa_nil))) (nomark _))))) (pss_one (ps_ret pe_bl)) pss_nil)
      (pss_cons (ps_if (pt_cmpR (op_neD hr.units) (pe_callB call_len (by rfl) n_len (by decide +kernel) (pa_cons (pv 0) pa_nil)) (pe_callB call_len (by rfl) n_len (by decide +kernel) (pa_cons (pv 1) pa_nil)) (nomark _)) (pss_one (ps_ret pe_bl)) pss_nil)
      (pss_one (ps_ret (pe_cmpR (op_eqD hr.units) (pe_lc (own := [("_law_k", 2)]) (g := (gName 2)) (tt := (tNot (tTruth K (tCall (spD K (c_law_is K)) [] E0 (tCons (tOp (rIx K) (tVar 0) (tVar 2)) (tCons (tOp (rIx K) (tVar 1) (tVar 2)) tNil)))))) (te := (tVar 2)) (by rfl) sc_law_row_is.nd (pi_range1 (by rfl) n_range (pa_cons (pe_callB call_len (by rfl) n_len (by decide +kernel) (pa_cons (pv 1) pa_nil)) pa_nil)) (blkOk_by (own := [("_law_k", 2)]) (N := N_law_row_is) (sc := defScope s_law_row_is) (by decide +kernel)) (fun _ _ _ _ _ => by exact (pg_name (i := 2) sc_law_row_is.nd rfl (by first | exact Or.inl rfl | exact Or.inr rfl))) (fun _ _ _ _ _ => by exact (pts_one (pt_not (pt_truth (pe_call F_law_is (hr.mono (by decide)) (by rfl) m_law_is k_law_is B_law_is .nil passL (pa_cons (pe_ix ix_seq (pv 0) (pv 2) (fun _ _ => rfl)) (pa_cons (pe_ix ix_seq (pv 1) (pv 2) (fun _ _ => rfl)) pa_nil))) (by intro _; rfl))))) (fun _ _ _ _ _ => by exact (pv 2))) (pe_lst pa_nil) (nomark _)))))))
    (d_law_row_is)
abbrev N_Calendar_years : List Str := ["self"]
theorem sc_Calendar_years : FnScope N_Calendar_years ["self"] (defScope s_Calendar_years) := ⟨rfl, rfl, rfl, by decide +kernel, rfl, by decide +kernel, by decide +kernel⟩
set_option maxHeartbeats 1000000 in
theorem ok_Calendar_years {P : Program} {w : World} {K : PySem.W.Frag} {mg : Str → Option Value} {base : Heap} {f : Addr} {fd : FuncData}  (F : FunD K "years" "Calendar.years" (defArgs s_Calendar_years) (defBody s_Calendar_years) (defScope s_Calendar_years) [] [] f fd) (n_list : mg "list" = none) (kc : KCal K) :
    FnOk P w K mg base (L2.CX P w) 1 f fd ["self"] (spD K (c_Calendar_years K)) :=
  fn_DD (t := t_Calendar_years K) F sc_Calendar_years (fun ds μ P PX h => by unfold c_Calendar_years at h; first | (obtain ⟨_, rfl, _⟩ := h; rfl) | (obtain ⟨_, _, rfl, _⟩ := h; rfl) | (obtain ⟨_, _, _, rfl, _⟩ := h; rfl) | (obtain ⟨_, _, _, _, rfl, _⟩ := h; rfl) | (obtain ⟨_, _, _, _, _, rfl, _⟩ := h; rfl) | (obtain ⟨_, _, _, _, _, _, rfl, _⟩ := h; rfl) | (obtain ⟨_, _, _, _, _, _, _, rfl, _⟩ := h; rfl) | (obtain ⟨_, _, _, _, _, _, _, _, rfl, _⟩ := h; rfl)) (by decide)
    (fun cdv A outer s H E hr => by exact
      (pss_one (ps_ret (pe_callTy call_list_of (by rfl) n_list (by decide +kernel) (pa_cons (pe_fld (pv 0) rfl) pa_nil)))))
    (d_Calendar_years kc)
abbrev N_Calendar_turn : List Str := ["self"]
theorem sc_Calendar_turn : FnScope N_Calendar_turn ["self"] (defScope s_Calendar_turn) := ⟨rfl, rfl, rfl, by decide +kernel, rfl, by decide +kernel, by decide +kernel⟩
set_option maxHeartbeats 1000000 in
theorem ok_Calendar_turn {P : Program} {w : World} {K : PySem.W.Frag} {mg : Str → Option Value} {base : Heap} {f : Addr} {fd : FuncData}  (F : FunD K "turn" "Calendar.turn" (defArgs s_Calendar_turn) (defBody s_Calendar_turn) (defScope s_Calendar_turn) [] [] f fd) (kc : KCal K) :
    FnOk P w K mg base (L2.CX P w) 1 f fd ["self"] (spD K (c_Calendar_turn K)) :=
  fn_DD (t := t_Calendar_turn K) F sc_Calendar_turn (fun ds μ P PX h => by unfold c_Calendar_turn at h; first | (obtain ⟨_, rfl, _⟩ := h; rfl) | (obtain ⟨_, _, rfl, _⟩ := h; rfl) | (obtain ⟨_, _, _, rfl, _⟩ := h; rfl) | (obtain ⟨_, _, _, _, rfl, _⟩ := h; rfl) | (obtain ⟨_, _, _, _, _, rfl, _⟩ := h; rfl) | (obtain ⟨_, _, _, _, _, _, rfl, _⟩ := h; rfl) | (obtain ⟨_, _, _, _, _, _, _, rfl, _⟩ := h; rfl) | (obtain ⟨_, _, _, _, _, _, _, _, rfl, _⟩ := h; rfl)) (by decide)
    (fun cdv A outer s H E hr => by exact
      (pss_one (ps_ret (pe_fld (pv 0) rfl))))
    (d_Calendar_turn kc)
abbrev N_Calendar_eq : List Str := ["self", "other"]
theorem sc_Calendar_eq : FnScope N_Calendar_eq ["self", "other"] (defScope s_Calendar_eq) := ⟨rfl, rfl, rfl, by decide +kernel, rfl, by decide +kernel, by decide +kernel⟩
set_option maxHeartbeats 1000000 in
theorem ok_Calendar_eq {P : Program} {w : World} {K : PySem.W.Frag} {mg : Str → Option Value} {base : Heap} {f : Addr} {fd : FuncData}  (F : FunD K "__eq__" "Calendar.__eq__" (defArgs s_Calendar_eq) (defBody s_Calendar_eq) (defScope s_Calendar_eq) [] [] f fd) (g_Calendar : mg "Calendar" = some (.ref (He.ga K "Calendar"))) (n_isinstance : mg "isinstance" = none) (kc : KCal K) (kq_Calendar : KEq K "Calendar") :
    FnOk P w K mg base (L2.CX P w) 1 f fd ["self", "other"] (spD K (c_Calendar_eq K)) :=
  fn_DD (t := t_Calendar_eq K) F sc_Calendar_eq (fun ds μ P PX h => by unfold c_Calendar_eq at h; first | (obtain ⟨_, rfl, _⟩ := h; rfl) | (obtain ⟨_, _, rfl, _⟩ := h; rfl) | (obtain ⟨_, _, _, rfl, _⟩ := h; rfl) | (obtain ⟨_, _, _, _, rfl, _⟩ := h; rfl) | (obtain ⟨_, _, _, _, _, rfl, _⟩ := h; rfl) | (obtain ⟨_, _, _, _, _, _, rfl, _⟩ := h; rfl) | (obtain ⟨_, _, _, _, _, _, _, rfl, _⟩ := h; rfl) | (obtain ⟨_, _, _, _, _, _, _, _, rfl, _⟩ := h; rfl)) (by decide)
    (fun cdv A outer s H E hr => by exact
      (pss_one (ps_ret (pe_and (pe_callB call_isi (by rfl) n_isinstance (by decide +kernel) (pa_cons (pv 1) (pa_cons (pe_glob (v := .ref (He.ga K "Calendar")) (by rfl) g_Calendar rfl) pa_nil))) (pe_one (pe_cmpR (op_eqD hr.units) (pe_fld (pv 0) rfl) (pe_fld (pv 1) rfl) (nomark _)))))))
    (d_Calendar_eq kc kq_Calendar)
abbrev N_law_alike_right : List Str := ["_law_calendar", "_law_lengths_here", "_law_hold", "_law_way", "_law_spot", "_law_other", "_law_twin", "_law_same", "_law_unlike"]
theorem sc_law_alike_right : FnScope N_law_alike_right ["_law_calendar", "_law_lengths_here", "_law_hold"] (defScope s_law_alike_right) := ⟨rfl, rfl, rfl, by decide +kernel, rfl, by decide +kernel, by decide +kernel⟩
set_option maxHeartbeats 1000000 in
theorem ok_law_alike_right {P : Program} {w : World} {K : PySem.W.Frag} {mg : Str → Option Value} {base : Heap} {f : Addr} {fd : FuncData} {f_law_draw : Addr} {fd_law_draw : FuncData} {f_Calendar_init : Addr} {fd_Calendar_init : FuncData} {f_Calendar_eq : Addr} {fd_Calendar_eq : FuncData} (F : FunD K "_law_alike_right" "_law_alike_right" (defArgs s_law_alike_right) (defBody s_law_alike_right) (defScope s_law_alike_right) [] [] f fd) (F_law_draw : FnOk P w K mg base (L2.CX P w) 1 f_law_draw fd_law_draw ["_law_hold", "_law_many"] (spD K (c_law_draw K))) (B_law_draw : Binds K fd_law_draw ["_law_hold", "_law_many"] []) (m_law_draw : mg "_law_draw" = some (.ref f_law_draw)) (k_law_draw : PySem.W.keepIn K (.ref f_law_draw) = true) (F_Calendar_init : FnOk P w K mg base (L2.CX P w) 3 f_Calendar_init fd_Calendar_init ["self", "years"] (spD K (c_Calendar_init K))) (B_Calendar_init : Binds K fd_Calendar_init ["self", "years"] []) (M_Calendar : Mk K (He.ga K "Calendar") f_Calendar_init) (F_Calendar_eq : FnOk P w K mg base (L2.CX P w) 1 f_Calendar_eq fd_Calendar_eq ["self", "other"] (spD K (c_Calendar_eq K))) (B_Calendar_eq : Binds K fd_Calendar_eq ["self", "other"] []) (n_len : mg "len" = none) (n_list : mg "list" = none) (n_max : mg "max" = none) (g_Calendar : mg "Calendar" = some (.ref (He.ga K "Calendar"))) (mm_Calendar_eq : Meth K (He.ga K "Calendar") "__eq__" f_Calendar_eq) (ne_Calendar : NeO K (He.ga K "Calendar")) (n_bool : mg "bool" = none) (n_isinstance : mg "isinstance" = none) (kc : KCal K) (kq_Calendar : KEq K "Calendar") :
    FnOk P w K mg base (L2.CX P w) 5 f fd ["_law_calendar", "_law_lengths_here", "_law_hold"] (spD K (c_law_alike_right K)) :=
  fn_DD (t := t_law_alike_right K) F sc_law_alike_right (fun ds μ P PX h => by unfold c_law_alike_right at h; first | (obtain ⟨_, rfl, _⟩ := h; rfl) | (obtain ⟨_, _, rfl, _⟩ := h; rfl) | (obtain ⟨_, _, _, rfl, _⟩ := h; rfl) | (obtain ⟨_, _, _, _, rfl, _⟩ := h; rfl) | (obtain ⟨_, _, _, _, _, rfl, _⟩ := h; rfl) | (obtain ⟨_, _, _, _, _, _, rfl, _⟩ := h; rfl) | (obtain ⟨_, _, _, _, _, _, _, rfl, _⟩ := h; rfl) | (obtain ⟨_, _, _, _, _, _, _, _, rfl, _⟩ := h; rfl)) (by decide)
    (fun cdv A outer s H E hr => by exact
      (pss_cons (ps_set (i := 3) sc_law_alike_right.nd rfl (by first | exact Or.inl rfl | exact Or.inr rfl) (pe_call F_law_draw (hr.mono (by decide)) (by rfl) m_law_draw k_law_draw B_law_draw .nil (passes_call (takes_of rfl rfl rfl rfl) (fun _ _ _ _ h => h)) (pa_cons (pv 2) (pa_cons pe_int pa_nil))))
      (pss_cons (ps_set (i := 4) sc_law_alike_right.nd rfl (by first | exact Or.inl rfl | exact Or.inr rfl) (pe_call F_law_draw (hr.mono (by decide)) (by rfl) m_law_draw k_law_draw B_law_draw .nil (passes_call (takes_of rfl rfl rfl rfl) (fun _ _ _ _ h => h)) (pa_cons (pv 2) (pa_cons (pe_callB call_len (by rfl) n_len (by decide +kernel) (pa_cons (pv 1) pa_nil)) pa_nil))))
      (pss_cons (ps_set (i := 5) sc_law_alike_right.nd rfl (by first | exact Or.inl rfl | exact Or.inr rfl) (pe_callTy call_list_of (by rfl) n_list (by decide +kernel) (pa_cons (pv 1) pa_nil)))
      (pss_cons (ps_if (pt_cmpR (op_eqD hr.units) (pv 3) pe_int (nomark _)) (pss_one (ps_asg (pe_op op_addA (pe_op op_modA (pe_ix ix_seq (pv 5) (pv 4) (fun _ _ => rfl)) pe_int) pe_int) (pg_sub (pv 5) (pv 4) set_list))) (pss_one (ps_if (pt_cmpR (op_eqD hr.units) (pv 3) pe_int (nomark _)) (pss_one (ps_set (i := 5) sc_law_alike_right.nd rfl (by first | exact Or.inl rfl | exact Or.inr rfl) (pe_slice sl_any (pe_op op_addA (pv 5) (pv 5)) po_none (po_some pe_int)))) (pss_one (ps_if (pt_cmpR (op_eqD hr.units) (pv 3) pe_int (nomark _)) (pss_one (ps_expr (pe_bm0 PySem.F.plainAttrs_list PySem.F.slot_list_reverse PySem.F.type_list_reverse mt_reverse (pv 5)))) (pss_one (ps_if (pt_cmpR (op_eqD hr.units) (pv 3) pe_int (nomark _)) (pss_one (ps_set (i := 5) sc_law_alike_right.nd rfl (by first | exact Or.inl rfl | exact Or.inr rfl) (pe_slice sl_any (pe_op op_addA (pv 5) (pe_lst (pa_cons (pe_op op_addA pe_int (pe_call F_law_draw (hr.mono (by decide)) (by rfl) m_law_draw k_law_draw B_law_draw .nil (passes_call (takes_of rfl rfl rfl rfl) (fun _ _ _ _ h => h)) (pa_cons (pv 2) (pa_cons pe_int pa_nil)))) pa_nil))) po_none (po_some pe_int)))) (pss_one (ps_if (pt_cmpR (op_eqD hr.units) (pv 3) pe_int (nomark _)) (pss_one (ps_set (i := 5) sc_law_alike_right.nd rfl (by first | exact Or.inl rfl | exact Or.inr rfl) (pe_slice sl_any (pv 5) po_none (po_some (pe_callB (call_maxA rfl) (by rfl) n_max (by decide +kernel) (pa_cons pe_int (pa_cons (pe_op op_sub (pe_callB call_len (by rfl) n_len (by decide +kernel) (pa_cons (pv 5) pa_nil)) pe_int) pa_nil))))))) pss_nil)))))))))
      (pss_cons (ps_set (i := 6) sc_law_alike_right.nd rfl (by first | exact Or.inl rfl | exact Or.inr rfl) (pe_make M_Calendar F_Calendar_init (hr.mono (by decide)) (by rfl) g_Calendar B_Calendar_init .nil (passes_call (takes_of rfl rfl rfl rfl) (fun _ _ _ _ h => h)) (pa_cons (pe_callTy call_list_of (by rfl) n_list (by decide +kernel) (pa_cons (pv 5) pa_nil)) pa_nil)))
      (pss_cons (ps_par (i := 7) (j := 8) (by rfl) sc_law_alike_right.nd rfl rfl (by decide) rfl rfl (pa_cons (pe_cmpR (op_eqO mm_Calendar_eq F_Calendar_eq (hr.mono (by decide)) B_Calendar_eq (passes_call (takes_of rfl rfl rfl rfl) (fun _ _ _ _ h => h))) (pv 0) (pv 6) (nomark _)) (pa_cons (pe_cmpR (op_neO mm_Calendar_eq ne_Calendar F_Calendar_eq (hr.mono (by decide)) B_Calendar_eq (passes_call (takes_of rfl rfl rfl rfl) (fun _ _ _ _ h => h))) (pv 6) (pv 0) (nomark _)) pa_nil)) (by rfl))
      (pss_cons (ps_if (PW.pt (pw_or (pt_not (pt_truth (pe_callB call_isi (by rfl) n_isinstance (by decide +kernel) (pa_cons (pv 7) (pa_cons (pe_bltn (v := .ty "bool") (by rfl) n_bool (by decide +kernel) rfl) pa_nil))) (by intro _; rfl))) (pw_or (pt_cmpR (op_neD hr.units) (pv 7) (pe_cmpR (op_eqD hr.units) (pv 5) (pv 1) (nomark _)) (nomark _)) (pw_or1 (pt_cmpR (op_neD hr.units) (pv 8) (pe_cmpR (op_neD hr.units) (pv 5) (pv 1) (nomark _)) (nomark _)))))) (pss_one (ps_ret pe_bl)) pss_nil)
      (pss_one (ps_ret (pe_and (pe_cmpR op_isBl (pe_cmpR (op_eqO mm_Calendar_eq F_Calendar_eq (hr.mono (by decide)) B_Calendar_eq (passes_call (takes_of rfl rfl rfl rfl) (fun _ _ _ _ h => h))) (pv 0) (pv 1) (nomark _)) pe_bl (nomark _)) (pe_one (pe_cmpR op_isBl (pe_cmpR (op_eqO mm_Calendar_eq F_Calendar_eq (hr.mono (by decide)) B_Calendar_eq (passes_call (takes_of rfl rfl rfl rfl) (fun _ _ _ _ h => h))) (pv 0) pe_int (nomark _)) pe_bl (nomark _))))))))))))))
    (d_law_alike_right kc kq_Calendar)
abbrev N_need_day : List Str := ["number"]
theorem sc_need_day : FnScope N_need_day ["number"] (defScope s_need_day) := ⟨rfl, rfl, rfl, by decide +kernel, rfl, by decide +kernel, by decide +kernel⟩
set_option maxHeartbeats 1000000 in
theorem ok_need_day {P : Program} {w : World} {K : PySem.W.Frag} {mg : Str → Option Value} {base : Heap} {f : Addr} {fd : FuncData}  (F : FunD K "need_day" "need_day" (defArgs s_need_day) (defBody s_need_day) (defScope s_need_day) [] [] f fd) (x_NoDay : ExC K mg "NoDay") :
    FnOk P w K mg base (L2.CX P w) 1 f fd ["number"] (spD K (c_need_day K)) :=
  fn_DD (t := t_need_day K) F sc_need_day (fun ds μ P PX h => by unfold c_need_day at h; first | (obtain ⟨_, rfl, _⟩ := h; rfl) | (obtain ⟨_, _, rfl, _⟩ := h; rfl) | (obtain ⟨_, _, _, rfl, _⟩ := h; rfl) | (obtain ⟨_, _, _, _, rfl, _⟩ := h; rfl) | (obtain ⟨_, _, _, _, _, rfl, _⟩ := h; rfl) | (obtain ⟨_, _, _, _, _, _, rfl, _⟩ := h; rfl) | (obtain ⟨_, _, _, _, _, _, _, rfl, _⟩ := h; rfl) | (obtain ⟨_, _, _, _, _, _, _, _, rfl, _⟩ := h; rfl)) (by decide)
    (fun cdv A outer s H E hr => by exact
      (pss_one (ps_if (pt_cmpR op_lt (pv 0) pe_int (nomark _)) (pss_one (ps_raise rfl (takes_of rfl rfl rfl rfl) (pmk_own PySem.F.excBase_ValueError x_NoDay.xc x_NoDay.gc x_NoDay.kc (raises_own x_NoDay.bc x_NoDay.tc) (by rfl)))) pss_nil)))
    (d_need_day)
abbrev N_Calendar_long : List Str := ["self", "year"]
theorem sc_Calendar_long : FnScope N_Calendar_long ["self", "year"] (defScope s_Calendar_long) := ⟨rfl, rfl, rfl, by decide +kernel, rfl, by decide +kernel, by decide +kernel⟩
set_option maxHeartbeats 1000000 in
theorem ok_Calendar_long {P : Program} {w : World} {K : PySem.W.Frag} {mg : Str → Option Value} {base : Heap} {f : Addr} {fd : FuncData} {f_need_day : Addr} {fd_need_day : FuncData} (F : FunD K "long" "Calendar.long" (defArgs s_Calendar_long) (defBody s_Calendar_long) (defScope s_Calendar_long) [] [] f fd) (F_need_day : FnOk P w K mg base (L2.CX P w) 1 f_need_day fd_need_day ["number"] (spD K (c_need_day K))) (B_need_day : Binds K fd_need_day ["number"] []) (m_need_day : mg "need_day" = some (.ref f_need_day)) (k_need_day : PySem.W.keepIn K (.ref f_need_day) = true) (n_len : mg "len" = none) (kc : KCal K) :
    FnOk P w K mg base (L2.CX P w) 2 f fd ["self", "year"] (spD K (c_Calendar_long K)) :=
  fn_DD (t := t_Calendar_long K) F sc_Calendar_long (fun ds μ P PX h => by unfold c_Calendar_long at h; first | (obtain ⟨_, rfl, _⟩ := h; rfl) | (obtain ⟨_, _, rfl, _⟩ := h; rfl) | (obtain ⟨_, _, _, rfl, _⟩ := h; rfl) | (obtain ⟨_, _, _, _, rfl, _⟩ := h; rfl) | (obtain ⟨_, _, _, _, _, rfl, _⟩ := h; rfl) | (obtain ⟨_, _, _, _, _, _, rfl, _⟩ := h; rfl) | (obtain ⟨_, _, _, _, _, _, _, rfl, _⟩ := h; rfl) | (obtain ⟨_, _, _, _, _, _, _, _, rfl, _⟩ := h; rfl)) (by decide)
    (fun cdv A outer s H E hr => by exact
      (pss_cons (ps_expr (pe_call F_need_day (hr.mono (by decide)) (by rfl) m_need_day k_need_day B_need_day .nil (passes_call (takes_of rfl rfl rfl rfl) (fun _ _ _ _ h => h)) (pa_cons (pv 1) pa_nil)))
      (pss_one (ps_ret (pe_ix ix_seq (pe_fld (pv 0) rfl) (pe_op op_modA (pv 1) (pe_callB call_len (by rfl) n_len (by decide +kernel) (pa_cons (pe_fld (pv 0) rfl) pa_nil))) (fun _ _ => rfl))))))
    (d_Calendar_long kc)
abbrev N_Calendar_first : List Str := ["self", "year", "turns", "place"]
theorem sc_Calendar_first : FnScope N_Calendar_first ["self", "year"] (defScope s_Calendar_first) := ⟨rfl, rfl, rfl, by decide +kernel, rfl, by decide +kernel, by decide +kernel⟩
set_option maxHeartbeats 1000000 in
theorem ok_Calendar_first {P : Program} {w : World} {K : PySem.W.Frag} {mg : Str → Option Value} {base : Heap} {f : Addr} {fd : FuncData} {f_need_day : Addr} {fd_need_day : FuncData} (F : FunD K "first" "Calendar.first" (defArgs s_Calendar_first) (defBody s_Calendar_first) (defScope s_Calendar_first) [] [] f fd) (F_need_day : FnOk P w K mg base (L2.CX P w) 1 f_need_day fd_need_day ["number"] (spD K (c_need_day K))) (B_need_day : Binds K fd_need_day ["number"] []) (m_need_day : mg "need_day" = some (.ref f_need_day)) (k_need_day : PySem.W.keepIn K (.ref f_need_day) = true) (n_len : mg "len" = none) (n_divmod : mg "divmod" = none) (kc : KCal K) :
    FnOk P w K mg base (L2.CX P w) 2 f fd ["self", "year"] (spD K (c_Calendar_first K)) :=
  fn_DD (t := t_Calendar_first K) F sc_Calendar_first (fun ds μ P PX h => by unfold c_Calendar_first at h; first | (obtain ⟨_, rfl, _⟩ := h; rfl) | (obtain ⟨_, _, rfl, _⟩ := h; rfl) | (obtain ⟨_, _, _, rfl, _⟩ := h; rfl) | (obtain ⟨_, _, _, _, rfl, _⟩ := h; rfl) | (obtain ⟨_, _, _, _, _, rfl, _⟩ := h; rfl) | (obtain ⟨_, _, _, _, _, _, rfl, _⟩ := h; rfl) | (obtain ⟨_, _, _, _, _, _, _, rfl, _⟩ := h; rfl) | (obtain ⟨_, _, _, _, _, _, _, _, rfl, _⟩ := h; rfl)) (by decide)
    (fun cdv A outer s H E hr => by exact
      (pss_cons (ps_expr (pe_call F_need_day (hr.mono (by decide)) (by rfl) m_need_day k_need_day B_need_day .nil (passes_call (takes_of rfl rfl rfl rfl) (fun _ _ _ _ h => h)) (pa_cons (pv 1) pa_nil)))
      (pss_cons (ps_asg (pe_callB call_divmod (by rfl) n_divmod (by decide +kernel) (pa_cons (pv 1) (pa_cons (pe_callB call_len (by rfl) n_len (by decide +kernel) (pa_cons (pe_fld (pv 0) rfl) pa_nil)) pa_nil))) (pg_tup rfl (pgs_cons (pg_name (i := 2) sc_Calendar_first.nd rfl (by first | exact Or.inl rfl | exact Or.inr rfl)) (pgs_cons (pg_name (i := 3) sc_Calendar_first.nd rfl (by first | exact Or.inl rfl | exact Or.inr rfl)) pgs_nil))))
      (pss_one (ps_ret (pe_op op_addA (pe_op op_mulA (pv 2) (pe_fld (pv 0) rfl)) (pe_ix ix_seq (pe_fld (pv 0) rfl) (pv 3) (fun _ _ => rfl))))))))
    (d_Calendar_first kc)
abbrev N_Calendar_at : List Str := ["self", "day", "turns", "left", "place", "begin"]
theorem sc_Calendar_at : FnScope N_Calendar_at ["self", "day"] (defScope s_Calendar_at) := ⟨rfl, rfl, rfl, by decide +kernel, rfl, by decide +kernel, by decide +kernel⟩
set_option maxHeartbeats 1000000 in
theorem ok_Calendar_at {P : Program} {w : World} {K : PySem.W.Frag} {mg : Str → Option Value} {base : Heap} {f : Addr} {fd : FuncData} {f_need_day : Addr} {fd_need_day : FuncData} (F : FunD K "at" "Calendar.at" (defArgs s_Calendar_at) (defBody s_Calendar_at) (defScope s_Calendar_at) [] [] f fd) (F_need_day : FnOk P w K mg base (L2.CX P w) 1 f_need_day fd_need_day ["number"] (spD K (c_need_day K))) (B_need_day : Binds K fd_need_day ["number"] []) (m_need_day : mg "need_day" = some (.ref f_need_day)) (k_need_day : PySem.W.keepIn K (.ref f_need_day) = true) (n_divmod : mg "divmod" = none) (n_len : mg "len" = none) (kc : KCal K) :
    FnOk P w K mg base (L2.CX P w) 2 f fd ["self", "day"] (spD K (c_Calendar_at K)) :=
  fn_DD (t := t_Calendar_at K) F sc_Calendar_at (fun ds μ P PX h => by unfold c_Calendar_at at h; first | (obtain ⟨_, rfl, _⟩ := h; rfl) | (obtain ⟨_, _, rfl, _⟩ := h; rfl) | (obtain ⟨_, _, _, rfl, _⟩ := h; rfl) | (obtain ⟨_, _, _, _, rfl, _⟩ := h; rfl) | (obtain ⟨_, _, _, _, _, rfl, _⟩ := h; rfl) | (obtain ⟨_, _, _, _, _, _, rfl, _⟩ := h; rfl) | (obtain ⟨_, _, _, _, _, _, _, rfl, _⟩ := h; rfl) | (obtain ⟨_, _, _, _, _, _, _, _, rfl, _⟩ := h; rfl)) (by decide)
    (fun cdv A outer s H E hr => by exact
      (pss_cons (ps_expr (pe_call F_need_day (hr.mono (by decide)) (by rfl) m_need_day k_need_day B_need_day .nil (passes_call (takes_of rfl rfl rfl rfl) (fun _ _ _ _ h => h)) (pa_cons (pv 1) pa_nil)))
      (pss_cons (ps_asg (pe_callB call_divmod (by rfl) n_divmod (by decide +kernel) (pa_cons (pv 1) (pa_cons (pe_fld (pv 0) rfl) pa_nil))) (pg_tup rfl (pgs_cons (pg_name (i := 2) sc_Calendar_at.nd rfl (by first | exact Or.inl rfl | exact Or.inr rfl)) (pgs_cons (pg_name (i := 3) sc_Calendar_at.nd rfl (by first | exact Or.inl rfl | exact Or.inr rfl)) pgs_nil))))
      (pss_cons (ps_set (i := 4) sc_Calendar_at.nd rfl (by first | exact Or.inl rfl | exact Or.inr rfl) (pe_op op_sub (pe_callB call_len (by rfl) n_len (by decide +kernel) (pa_cons (pe_lc (own := [("begin", 5)]) (g := (gName 5)) (tt := (tTest (tOp (rI0 fun i j => .bl (decide (i ≤ j))) (tVar 5) (tVar 3)))) (te := (tVar 5)) (by rfl) sc_Calendar_at.nd (pi_any (pe_fld (pv 0) rfl)) (blkOk_by (own := [("begin", 5)]) (N := N_Calendar_at) (sc := defScope s_Calendar_at) (by decide +kernel)) (fun _ _ _ _ _ => by exact (pg_name (i := 5) sc_Calendar_at.nd rfl (by first | exact Or.inl rfl | exact Or.inr rfl))) (fun _ _ _ _ _ => by exact (pts_one (pt_cmpR op_le (pv 5) (pv 3) (nomark _)))) (fun _ _ _ _ _ => by exact (pv 5))) pa_nil)) pe_int))
      (pss_one (ps_ret (pe_tup (pa_cons (pe_op op_addA (pe_op op_mulA (pv 2) (pe_callB call_len (by rfl) n_len (by decide +kernel) (pa_cons (pe_fld (pv 0) rfl) pa_nil))) (pv 4)) (pa_cons (pe_op op_sub (pv 3) (pe_ix ix_seq (pe_fld (pv 0) rfl) (pv 4) (fun _ _ => rfl))) pa_nil)))))))))
    (d_Calendar_at kc)
abbrev N_law_year_right : List Str := ["_law_calendar", "_law_lengths_here", "_law_year", "_law_hold", "_law_turns", "_law_place", "_law_first", "_law_spot"]
theorem sc_law_year_right : FnScope N_law_year_right ["_law_calendar", "_law_lengths_here", "_law_year", "_law_hold"] (defScope s_law_year_right) := ⟨rfl, rfl, rfl, by decide +kernel, rfl, by decide +kernel, by decide +kernel⟩
set_option maxHeartbeats 1000000 in
theorem ok_law_year_right {P : Program} {w : World} {K : PySem.W.Frag} {mg : Str → Option Value} {base : Heap} {f : Addr} {fd : FuncData} {f_law_is : Addr} {fd_law_is : FuncData} {f_Calendar_long : Addr} {fd_Calendar_long : FuncData} {f_Calendar_first : Addr} {fd_Calendar_first : FuncData} {f_law_draw : Addr} {fd_law_draw : FuncData} {f_law_row_is : Addr} {fd_law_row_is : FuncData} {f_Calendar_at : Addr} {fd_Calendar_at : FuncData} (F : FunD K "_law_year_right" "_law_year_right" (defArgs s_law_year_right) (defBody s_law_year_right) (defScope s_law_year_right) [] [] f fd) (F_law_is : FnOk P w K mg base (L2.CX P w) 1 f_law_is fd_law_is ["_law_found", "_law_due"] (spD K (c_law_is K))) (B_law_is : Binds K fd_law_is ["_law_found", "_law_due"] []) (m_law_is : mg "_law_is" = some (.ref f_law_is)) (k_law_is : PySem.W.keepIn K (.ref f_law_is) = true) (F_Calendar_long : FnOk P w K mg base (L2.CX P w) 2 f_Calendar_long fd_Calendar_long ["self", "year"] (spD K (c_Calendar_long K))) (B_Calendar_long : Binds K fd_Calendar_long ["self", "year"] []) (F_Calendar_first : FnOk P w K mg base (L2.CX P w) 2 f_Calendar_first fd_Calendar_first ["self", "year"] (spD K (c_Calendar_first K))) (B_Calendar_first : Binds K fd_Calendar_first ["self", "year"] []) (F_law_draw : FnOk P w K mg base (L2.CX P w) 1 f_law_draw fd_law_draw ["_law_hold", "_law_many"] (spD K (c_law_draw K))) (B_law_draw : Binds K fd_law_draw ["_law_hold", "_law_many"] []) (m_law_draw : mg "_law_draw" = some (.ref f_law_draw)) (k_law_draw : PySem.W.keepIn K (.ref f_law_draw) = true) (F_law_row_is : FnOk P w K mg base (L2.CX P w) 2 f_law_row_is fd_law_row_is ["_law_found", "_law_due"] (spD K (c_law_row_is K))) (B_law_row_is : Binds K fd_law_row_is ["_law_found", "_law_due"] []) (m_law_row_is : mg "_law_row_is" = some (.ref f_law_row_is)) (k_law_row_is : PySem.W.keepIn K (.ref f_law_row_is) = true) (F_Calendar_at : FnOk P w K mg base (L2.CX P w) 2 f_Calendar_at fd_Calendar_at ["self", "day"] (spD K (c_Calendar_at K))) (B_Calendar_at : Binds K fd_Calendar_at ["self", "day"] []) (n_len : mg "len" = none) (n_divmod : mg "divmod" = none) (n_sum : mg "sum" = none) (cl_Calendar : Cls K (He.ga K "Calendar")) (mm_Calendar_long : Meth K (He.ga K "Calendar") "long" f_Calendar_long) (mm_Calendar_first : Meth K (He.ga K "Calendar") "first" f_Calendar_first) (mm_Calendar_at : Meth K (He.ga K "Calendar") "at" f_Calendar_at) (kc : KCal K) :
    FnOk P w K mg base (L2.CX P w) 3 f fd ["_law_calendar", "_law_lengths_here", "_law_year", "_law_hold"] (spD K (c_law_year_right K)) :=
  fn_DD (t := t_law_year_right K) F sc_law_year_right (fun ds μ P PX h => by unfold c_law_year_right at h; first | (obtain ⟨_, rfl, _⟩ := h; rfl) | (obtain ⟨_, _, rfl, _⟩ := h; rfl) | (obtain ⟨_, _, _, rfl, _⟩ := h; rfl) | (obtain ⟨_, _, _, _, rfl, _⟩ := h; rfl) | (obtain ⟨_, _, _, _, _, rfl, _⟩ := h; rfl) | (obtain ⟨_, _, _, _, _, _, rfl, _⟩ := h; rfl) | (obtain ⟨_, _, _, _, _, _, _, rfl, _⟩ := h; rfl) | (obtain ⟨_, _, _, _, _, _, _, _, rfl, _⟩ := h; rfl)) (by decide)
    (fun cdv A outer s H E hr => by exact
      (pss_cons (ps_asg (pe_callB call_divmod (by rfl) n_divmod (by decide +kernel) (pa_cons (pv 2) (pa_cons (pe_callB call_len (by rfl) n_len (by decide +kernel) (pa_cons (pv 1) pa_nil)) pa_nil))) (pg_tup rfl (pgs_cons (pg_name (i := 4) sc_law_year_right.nd rfl (by first | exact Or.inl rfl | exact Or.inr rfl)) (pgs_cons (pg_name (i := 5) sc_law_year_right.nd rfl (by first | exact Or.inl rfl | exact Or.inr rfl)) pgs_nil))))
      (pss_cons (ps_set (i := 6) sc_law_year_right.nd rfl (by first | exact Or.inl rfl | exact Or.inr rfl) (pe_op op_addA (pe_op op_mulA (pv 4) (pe_callB (cr_sum rfl) (by rfl) n_sum (by decide +kernel) (pa_cons (pv 1) pa_nil))) (pe_callB (cr_sum rfl) (by rfl) n_sum (by decide +kernel) (pa_cons (pe_slice sl_any (pv 1) po_none (po_some (pv 5))) pa_nil))))
      (pss_cons (ps_if (PW.pt (pw_or (pt_not (pt_truth (pe_call F_law_is (hr.mono (by decide)) (by rfl) m_law_is k_law_is B_law_is .nil (passes_call (takes_of rfl rfl rfl rfl) (fun _ _ _ _ h => h)) (pa_cons (pe_meth (pv 0) cl_Calendar mm_Calendar_long F_Calendar_long (hr.mono (by decide)) B_Calendar_long .nil (passes_call (takes_of rfl rfl rfl rfl) (fun _ _ _ _ h => h)) (pa_cons (pv 2) pa_nil)) (pa_cons (pe_ix ix_seq (pv 1) (pv 5) (fun _ _ => rfl)) pa_nil))) (by intro _; rfl))) (pw_or1 (pt_not (pt_truth (pe_call F_law_is (hr.mono (by decide)) (by rfl) m_law_is k_law_is B_law_is .nil (passes_call (takes_of rfl rfl rfl rfl) (fun _ _ _ _ h => h)) (pa_cons (pe_meth (pv 0) cl_Calendar mm_Calendar_first F_Calendar_first (hr.mono (by decide)) B_Calendar_first .nil (passes_call (takes_of rfl rfl rfl rfl) (fun _ _ _ _ h => h)) (pa_cons (pv 2) pa_nil)) (pa_cons (pv 6) pa_nil))) (by intro _; rfl)))))) (pss_one (ps_ret pe_bl)) pss_nil)
      (pss_cons (ps_for (passes_of rfl) rfl (pi_any (pe_lst (pa_cons pe_int (pa_cons (pe_op op_sub (pe_ix ix_seq (pv 1) (pv 5) (fun _ _ => rfl)) pe_int) (pa_cons (pe_call F_law_draw (hr.mono (by decide)) (by rfl) m_law_draw k_law_draw B_law_draw .nil (passes_call (takes_of rfl rfl rfl rfl) (fun _ _ _ _ h => h)) (pa_cons (pv 3) (pa_cons (pe_ix ix_seq (pv 1) (pv 5) (fun _ _ => rfl)) pa_nil))) pa_nil))))) (pg_name (i := 7) sc_law_year_right.nd rfl (by first | exact Or.inl rfl | exact Or.inr rfl)) (pss_one (ps_if (pt_not (pt_truth (pe_call F_law_row_is (hr.mono (by decide)) (by rfl) m_law_row_is k_law_row_is B_law_row_is .nil (passes_call (takes_of rfl rfl rfl rfl) (fun _ _ _ _ h => h)) (pa_cons (pe_meth (pv 0) cl_Calendar mm_Calendar_at F_Calendar_at (hr.mono (by decide)) B_Calendar_at .nil (passes_call (takes_of rfl rfl rfl rfl) (fun _ _ _ _ h => h)) (pa_cons (pe_op op_addA (pv 6) (pv 7)) pa_nil)) (pa_cons (pe_tup (pa_cons (pv 2) (pa_cons (pv 7) pa_nil))) pa_nil))) (by intro _; rfl))) (pss_one (ps_ret pe_bl)) pss_nil)))
      (pss_one (ps_ret pe_bl)))))))
    (d_law_year_right kc)
abbrev N_law_far : List Str := ["_law_hold", "_law_way", "_law_number", "_law_k"]
theorem sc_law_far : FnScope N_law_far ["_law_hold"] (defScope s_law_far) := ⟨rfl, rfl, rfl, by decide +kernel, rfl, by decide +kernel, by decide +kernel⟩
set_option maxHeartbeats 1000000 in
theorem ok_law_far {P : Program} {w : World} {K : PySem.W.Frag} {mg : Str → Option Value} {base : Heap} {f : Addr} {fd : FuncData} {f_law_draw : Addr} {fd_law_draw : FuncData} (F : FunD K "_law_far" "_law_far" (defArgs s_law_far) (defBody s_law_far) (defScope s_law_far) [] [] f fd) (F_law_draw : FnOk P w K mg base (L2.CX P w) 1 f_law_draw fd_law_draw ["_law_hold", "_law_many"] (spD K (c_law_draw K))) (B_law_draw : Binds K fd_law_draw ["_law_hold", "_law_many"] []) (m_law_draw : mg "_law_draw" = some (.ref f_law_draw)) (k_law_draw : PySem.W.keepIn K (.ref f_law_draw) = true) (n_range : mg "range" = none) :
    FnOk P w K mg base (L2.CX P w) 2 f fd ["_law_hold"] (spD K (c_law_far K)) :=
  fn_DD (t := t_law_far K) F sc_law_far (fun ds μ P PX h => by unfold c_law_far at h; first | (obtain ⟨_, rfl, _⟩ := h; rfl) | (obtain ⟨_, _, rfl, _⟩ := h; rfl) | (obtain ⟨_, _, _, rfl, _⟩ := h; rfl) | (obtain ⟨_, _, _, _, rfl, _⟩ := h; rfl) | (obtain ⟨_, _, _, _, _, rfl, _⟩ := h; rfl) | (obtain ⟨_, _, _, _, _, _, rfl, _⟩ := h; rfl) | (obtain ⟨_, _, _, _, _, _, _, rfl, _⟩ := h; rfl) | (obtain ⟨_, _, _, _, _, _, _, _, rfl, _⟩ := h; rfl)) (by decide)
    (fun cdv A outer s H E hr => by exact
      (pss_cons (ps_set (i := 1) sc_law_far.nd rfl (by first | exact Or.inl rfl | exact Or.inr rfl) (pe_call F_law_draw (hr.mono (by decide)) (by rfl) m_law_draw k_law_draw B_law_draw .nil (passes_call (takes_of rfl rfl rfl rfl) (fun _ _ _ _ h => h)) (pa_cons (pv 0) (pa_cons pe_int pa_nil))))
      (pss_cons (ps_if (pt_cmpR op_lt (pv 1) pe_int (nomark _)) (pss_one (ps_ret (pe_call F_law_draw (hr.mono (by decide)) (by rfl) m_law_draw k_law_draw B_law_draw .nil (passes_call (takes_of rfl rfl rfl rfl) (fun _ _ _ _ h => h)) (pa_cons (pv 0) (pa_cons (pe_ix ix_seq (pe_lst (pa_cons pe_int (pa_cons pe_int pa_nil))) (pv 1) (fun _ _ => rfl)) pa_nil))))) pss_nil)
      (pss_cons (ps_set (i := 2) sc_law_far.nd rfl (by first | exact Or.inl rfl | exact Or.inr rfl) pe_int)
      (pss_cons (ps_for (passes_of rfl) rfl (pi_range1 (by rfl) n_range (pa_cons pe_int pa_nil)) (pg_name (i := 3) sc_law_far.nd rfl (by first | exact Or.inl rfl | exact Or.inr rfl)) (pss_one (ps_set (i := 2) sc_law_far.nd rfl (by first | exact Or.inl rfl | exact Or.inr rfl) (pe_op op_addA (pe_op op_mulA (pv 2) pe_int) (pe_call F_law_draw (hr.mono (by decide)) (by rfl) m_law_draw k_law_draw B_law_draw .nil (passes_call (takes_of rfl rfl rfl rfl) (fun _ _ _ _ h => h)) (pa_cons (pv 0) (pa_cons pe_int pa_nil)))))))
      (pss_one (ps_ret (pv 2))))))))
    (d_law_far)
abbrev N_law : List Str := ["_law_script", "_law_hold", "_law_lengths_here", "_law_calendar", "_law_k"]
theorem sc_law : FnScope N_law ["_law_script"] (defScope s_law) := ⟨rfl, rfl, rfl, by decide +kernel, rfl, by decide +kernel, by decide +kernel⟩
set_option maxHeartbeats 1000000 in
theorem ok_law {P : Program} {w : World} {K : PySem.W.Frag} {mg : Str → Option Value} {base : Heap} {f : Addr} {fd : FuncData} {f_law_lengths : Addr} {fd_law_lengths : FuncData} {f_Calendar_init : Addr} {fd_Calendar_init : FuncData} {f_law_row_is : Addr} {fd_law_row_is : FuncData} {f_Calendar_years : Addr} {fd_Calendar_years : FuncData} {f_law_is : Addr} {fd_law_is : FuncData} {f_Calendar_turn : Addr} {fd_Calendar_turn : FuncData} {f_law_alike_right : Addr} {fd_law_alike_right : FuncData} {f_law_year_right : Addr} {fd_law_year_right : FuncData} {f_law_far : Addr} {fd_law_far : FuncData} (F : FunD K "law" "law" (defArgs s_law) (defBody s_law) (defScope s_law) [] [] f fd) (F_law_lengths : FnOk P w K mg base (L2.CX P w) 2 f_law_lengths fd_law_lengths ["_law_hold", "_law_most", "_law_many"] (spD K (c_law_lengths K))) (B_law_lengths : Binds K fd_law_lengths ["_law_hold", "_law_most", "_law_many"] []) (m_law_lengths : mg "_law_lengths" = some (.ref f_law_lengths)) (k_law_lengths : PySem.W.keepIn K (.ref f_law_lengths) = true) (F_Calendar_init : FnOk P w K mg base (L2.CX P w) 3 f_Calendar_init fd_Calendar_init ["self", "years"] (spD K (c_Calendar_init K))) (B_Calendar_init : Binds K fd_Calendar_init ["self", "years"] []) (M_Calendar : Mk K (He.ga K "Calendar") f_Calendar_init) (F_law_row_is : FnOk P w K mg base (L2.CX P w) 2 f_law_row_is fd_law_row_is ["_law_found", "_law_due"] (spD K (c_law_row_is K))) (B_law_row_is : Binds K fd_law_row_is ["_law_found", "_law_due"] []) (m_law_row_is : mg "_law_row_is" = some (.ref f_law_row_is)) (k_law_row_is : PySem.W.keepIn K (.ref f_law_row_is) = true) (F_Calendar_years : FnOk P w K mg base (L2.CX P w) 1 f_Calendar_years fd_Calendar_years ["self"] (spD K (c_Calendar_years K))) (B_Calendar_years : Binds K fd_Calendar_years ["self"] []) (F_law_is : FnOk P w K mg base (L2.CX P w) 1 f_law_is fd_law_is ["_law_found", "_law_due"] (spD K (c_law_is K))) (B_law_is : Binds K fd_law_is ["_law_found", "_law_due"] []) (m_law_is : mg "_law_is" = some (.ref f_law_is)) (k_law_is : PySem.W.keepIn K (.ref f_law_is) = true) (F_Calendar_turn : FnOk P w K mg base (L2.CX P w) 1 f_Calendar_turn fd_Calendar_turn ["self"] (spD K (c_Calendar_turn K))) (B_Calendar_turn : Binds K fd_Calendar_turn ["self"] []) (F_law_alike_right : FnOk P w K mg base (L2.CX P w) 5 f_law_alike_right fd_law_alike_right ["_law_calendar", "_law_lengths_here", "_law_hold"] (spD K (c_law_alike_right K))) (B_law_alike_right : Binds K fd_law_alike_right ["_law_calendar", "_law_lengths_here", "_law_hold"] []) (m_law_alike_right : mg "_law_alike_right" = some (.ref f_law_alike_right)) (k_law_alike_right : PySem.W.keepIn K (.ref f_law_alike_right) = true) (F_law_year_right : FnOk P w K mg base (L2.CX P w) 3 f_law_year_right fd_law_year_right ["_law_calendar", "_law_lengths_here", "_law_year", "_law_hold"] (spD K (c_law_year_right K))) (B_law_year_right : Binds K fd_law_year_right ["_law_calendar", "_law_lengths_here", "_law_year", "_law_hold"] []) (m_law_year_right : mg "_law_year_right" = some (.ref f_law_year_right)) (k_law_year_right : PySem.W.keepIn K (.ref f_law_year_right) = true) (F_law_far : FnOk P w K mg base (L2.CX P w) 2 f_law_far fd_law_far ["_law_hold"] (spD K (c_law_far K))) (B_law_far : Binds K fd_law_far ["_law_hold"] []) (m_law_far : mg "_law_far" = some (.ref f_law_far)) (k_law_far : PySem.W.keepIn K (.ref f_law_far) = true) (n_list : mg "list" = none) (g_Calendar : mg "Calendar" = some (.ref (He.ga K "Calendar"))) (cl_Calendar : Cls K (He.ga K "Calendar")) (mm_Calendar_years : Meth K (He.ga K "Calendar") "years" f_Calendar_years) (n_sum : mg "sum" = none) (mm_Calendar_turn : Meth K (He.ga K "Calendar") "turn" f_Calendar_turn) (n_range : mg "range" = none) (n_len : mg "len" = none) (n_min : mg "min" = none) (n_max : mg "max" = none) (kc : KCal K) :
    FnOk P w K mg base (L2.CX P w) 6 f fd ["_law_script"] (spD K (c_law K)) :=
  fn_DD (t := t_law K) F sc_law (fun ds μ P PX h => by unfold c_law at h; first | (obtain ⟨_, rfl, _⟩ := h; rfl) | (obtain ⟨_, _, rfl, _⟩ := h; rfl) | (obtain ⟨_, _, _, rfl, _⟩ := h; rfl) | (obtain ⟨_, _, _, _, rfl, _⟩ := h; rfl) | (obtain ⟨_, _, _, _, _, rfl, _⟩ := h; rfl) | (obtain ⟨_, _, _, _, _, _, rfl, _⟩ := h; rfl) | (obtain ⟨_, _, _, _, _, _, _, rfl, _⟩ := h; rfl) | (obtain ⟨_, _, _, _, _, _, _, _, rfl, _⟩ := h; rfl)) (by decide)
    (fun cdv A outer s H E hr => by exact
      (pss_cons (ps_set (i := 1) sc_law.nd rfl (by first | exact Or.inl rfl | exact Or.inr rfl) (pe_lst (pa_cons pe_int (pa_cons (pe_ifExp (pt_cmpR (op_neD hr.units) (pv 0) (pe_lst pa_nil) (nomark _)) (pe_callTy call_list_of (by rfl) n_list (by decide +kernel) (pa_cons (pv 0) pa_nil)) (pe_lst (pa_cons pe_int pa_nil))) pa_nil))))
      (pss_cons (ps_set (i := 2) sc_law.nd rfl (by first | exact Or.inl rfl | exact Or.inr rfl) (pe_call F_law_lengths (hr.mono (by decide)) (by rfl) m_law_lengths k_law_lengths B_law_lengths .nil (passes_call (takes_of rfl rfl rfl rfl) (fun _ _ _ _ h => h)) (pa_cons (pv 1) (pa_cons pe_int (pa_cons pe_int pa_nil)))))
      (pss_cons (ps_set (i := 3) sc_law.nd rfl (by first | exact Or.inl rfl | exact Or.inr rfl) (pe_make M_Calendar F_Calendar_init (hr.mono (by decide)) (by rfl) g_Calendar B_Calendar_init .nil (passes_call (takes_of rfl rfl rfl rfl) (fun _ _ _ _ h => h)) (pa_cons (pe_callTy call_list_of (by rfl) n_list (by decide +kernel) (pa_cons (pv 2) pa_nil)) pa_nil)))
      (pss_cons (ps_if (PW.pt (pw_or (pt_not (pt_truth (pe_call F_law_row_is (hr.mono (by decide)) (by rfl) m_law_row_is k_law_row_is B_law_row_is .nil (passes_call (takes_of rfl rfl rfl rfl) (fun _ _ _ _ h => h)) (pa_cons (pe_meth0 (pv 3) cl_Calendar mm_Calendar_years F_Calendar_years (hr.mono (by decide)) B_Calendar_years .nil (passes_call (takes_of rfl rfl rfl rfl) (fun _ _ _ _ h => h))) (pa_cons (pv 2) pa_nil))) (by intro _; rfl))) (pw_or1 (pt_not (pt_truth (pe_call F_law_is (hr.mono (by decide)) (by rfl) m_law_is k_law_is B_law_is .nil (passes_call (takes_of rfl rfl rfl rfl) (fun _ _ _ _ h => h)) (pa_cons (pe_meth0 (pv 3) cl_Calendar mm_Calendar_turn F_Calendar_turn (hr.mono (by decide)) B_Calendar_turn .nil (passes_call (takes_of rfl rfl rfl rfl) (fun _ _ _ _ h => h))) (pa_cons (pe_callB (cr_sum rfl) (by rfl) n_sum (by decide +kernel) (pa_cons (pv 2) pa_nil)) pa_nil))) (by intro _; rfl)))))) (pss_one (ps_ret pe_bl)) pss_nil)
      (pss_cons (ps_for (passes_of rfl) rfl (pi_range1 (by rfl) n_range (pa_cons pe_int pa_nil)) (pg_name (i := 4) sc_law.nd rfl (by first | exact Or.inl rfl | exact Or.inr rfl)) (pss_one (ps_if (pt_not (pt_truth (pe_call F_law_alike_right (hr.mono (by decide)) (by rfl) m_law_alike_right k_law_alike_right B_law_alike_right .nil (passes_call (takes_of rfl rfl rfl rfl) (fun _ _ _ _ h => h)) (pa_cons (pv 3) (pa_cons (pv 2) (pa_cons (pv 1) pa_nil)))) (by intro _; rfl))) (pss_one (ps_ret pe_bl)) pss_nil)))
      (pss_cons (ps_for (passes_of rfl) rfl (pi_range1 (by rfl) n_range (pa_cons (pe_callB (call_maxA rfl) (by rfl) n_max (by decide +kernel) (pa_cons pe_int (pa_cons (pe_callB (call_minA rfl) (by rfl) n_min (by decide +kernel) (pa_cons pe_int (pa_cons (pe_callB call_len (by rfl) n_len (by decide +kernel) (pa_cons (pv 0) pa_nil)) pa_nil))) pa_nil))) pa_nil)) (pg_name (i := 4) sc_law.nd rfl (by first | exact Or.inl rfl | exact Or.inr rfl)) (pss_one (ps_if (pt_not (pt_truth (pe_call F_law_year_right (hr.mono (by decide)) (by rfl) m_law_year_right k_law_year_right B_law_year_right .nil (passes_call (takes_of rfl rfl rfl rfl) (fun _ _ _ _ h => h)) (pa_cons (pv 3) (pa_cons (pv 2) (pa_cons (pe_call F_law_far (hr.mono (by decide)) (by rfl) m_law_far k_law_far B_law_far .nil (passes_call (takes_of rfl rfl rfl rfl) (fun _ _ _ _ h => h)) (pa_cons (pv 1) pa_nil)) (pa_cons (pv 1) pa_nil))))) (by intro _; rfl))) (pss_one (ps_ret pe_bl)) pss_nil)))
      (pss_one (ps_ret pe_bl)))))))))
    (d_law kc)
/-! ### the end -/
set_option maxHeartbeats 0 in
theorem facts {P : Program} {w : World} {K : PySem.W.Frag} {h : Heap} {mg : Str → Option Value} {f : Addr} (X : K.In h) (G : h.Ns mainGlobals mg) (hfa : mg ("law" : Str) = some (.ref f)) (c : He.SaysD fas fns K) (cx : exAll exs K = true) :
    ∃ fd : FuncData, (∀ (s : Shared) (v : Value), BindsTo s fd ⟨[v], []⟩ [("_law_script", v)]) ∧ ∀ base : Heap, K.In base → base.Ns mainGlobals mg → FnOk P w K mg base (L2.CX P w) 6 f fd ["_law_script"] (spD K (c_law K)) := by
  have e := hfa.symm.trans (He.glo_ok X G (c.fact 38 (f := .glo "law") rfl))
  cases e
  obtain ⟨fd_law_draw, G0_law_draw⟩ := c.def_ 0 (d := dd_law_draw) rfl
  have G_law_draw : FunD K "_law_draw" "_law_draw" (defArgs s_law_draw) (defBody s_law_draw) (defScope s_law_draw) [] [] (He.ga K "_law_draw") fd_law_draw := G0_law_draw
  have B_law_draw : Binds K fd_law_draw ["_law_hold", "_law_many"] [] := G_law_draw.bindsN fun _ _ _ _ _ _ us hl => match us, hl with | [_, _], _ => rfl
  obtain ⟨fd_law_lengths, G0_law_lengths⟩ := c.def_ 1 (d := dd_law_lengths) rfl
  have G_law_lengths : FunD K "_law_lengths" "_law_lengths" (defArgs s_law_lengths) (defBody s_law_lengths) (defScope s_law_lengths) [] [] (He.ga K "_law_lengths") fd_law_lengths := G0_law_lengths
  have B_law_lengths : Binds K fd_law_lengths ["_law_hold", "_law_most", "_law_many"] [] := G_law_lengths.bindsN fun _ _ _ _ _ _ us hl => match us, hl with | [_, _, _], _ => rfl
  obtain ⟨fd_is_number, G0_is_number⟩ := c.def_ 2 (d := dd_is_number) rfl
  have G_is_number : FunD K "is_number" "is_number" (defArgs s_is_number) (defBody s_is_number) (defScope s_is_number) [] [] (He.ga K "is_number") fd_is_number := G0_is_number
  have B_is_number : Binds K fd_is_number ["thing", "least", "most"] [] := G_is_number.bindsN fun _ _ _ _ _ _ us hl => match us, hl with | [_, _, _], _ => rfl
  obtain ⟨fd_are_numbers, G0_are_numbers⟩ := c.def_ 3 (d := dd_are_numbers) rfl
  have G_are_numbers : FunD K "are_numbers" "are_numbers" (defArgs s_are_numbers) (defBody s_are_numbers) (defScope s_are_numbers) [] [] (He.ga K "are_numbers") fd_are_numbers := G0_are_numbers
  have B_are_numbers : Binds K fd_are_numbers ["thing", "long", "least", "most"] [] := G_are_numbers.bindsN fun _ _ _ _ _ _ us hl => match us, hl with | [_, _, _, _], _ => rfl
  obtain ⟨fd_Calendar_init, G0_Calendar_init⟩ := c.def_ 4 (d := dd_Calendar_init) rfl
  have G_Calendar_init : FunD K "__init__" "Calendar.__init__" (defArgs s_Calendar_init) (defBody s_Calendar_init) (defScope s_Calendar_init) [] [] (He.ma K (He.ga K "Calendar") "__init__") fd_Calendar_init := G0_Calendar_init
  have B_Calendar_init : Binds K fd_Calendar_init ["self", "years"] [] := G_Calendar_init.bindsN fun _ _ _ _ _ _ us hl => match us, hl with | [_, _], _ => rfl
  obtain ⟨fd_law_is, G0_law_is⟩ := c.def_ 5 (d := dd_law_is) rfl
  have G_law_is : FunD K "_law_is" "_law_is" (defArgs s_law_is) (defBody s_law_is) (defScope s_law_is) [] [] (He.ga K "_law_is") fd_law_is := G0_law_is
  have B_law_is : Binds K fd_law_is ["_law_found", "_law_due"] [] := G_law_is.bindsN fun _ _ _ _ _ _ us hl => match us, hl with | [_, _], _ => rfl
  obtain ⟨fd_law_row_is, G0_law_row_is⟩ := c.def_ 6 (d := dd_law_row_is) rfl
  have G_law_row_is : FunD K "_law_row_is" "_law_row_is" (defArgs s_law_row_is) (defBody s_law_row_is) (defScope s_law_row_is) [] [] (He.ga K "_law_row_is") fd_law_row_is := G0_law_row_is
  have B_law_row_is : Binds K fd_law_row_is ["_law_found", "_law_due"] [] := G_law_row_is.bindsN fun _ _ _ _ _ _ us hl => match us, hl with | [_, _], _ => rfl
  obtain ⟨fd_Calendar_years, G0_Calendar_years⟩ := c.def_ 7 (d := dd_Calendar_years) rfl
  have G_Calendar_years : FunD K "years" "Calendar.years" (defArgs s_Calendar_years) (defBody s_Calendar_years) (defScope s_Calendar_years) [] [] (He.ma K (He.ga K "Calendar") "years") fd_Calendar_years := G0_Calendar_years
  have B_Calendar_years : Binds K fd_Calendar_years ["self"] [] := G_Calendar_years.bindsN fun _ _ _ _ _ _ us hl => match us, hl with | [_], _ => rfl
  obtain ⟨fd_Calendar_turn, G0_Calendar_turn⟩ := c.def_ 8 (d := dd_Calendar_turn) rfl
  have G_Calendar_turn : FunD K "turn" "Calendar.turn" (defArgs s_Calendar_turn) (defBody s_Calendar_turn) (defScope s_Calendar_turn) [] [] (He.ma K (He.ga K "Calendar") "turn") fd_Calendar_turn := G0_Calendar_turn
  have B_Calendar_turn : Binds K fd_Calendar_turn ["self"] [] := G_Calendar_turn.bindsN fun _ _ _ _ _ _ us hl => match us, hl with | [_], _ => rfl
  obtain ⟨fd_Calendar_eq, G0_Calendar_eq⟩ := c.def_ 9 (d := dd_Calendar_eq) rfl
  have G_Calendar_eq : FunD K "__eq__" "Calendar.__eq__" (defArgs s_Calendar_eq) (defBody s_Calendar_eq) (defScope s_Calendar_eq) [] [] (He.ma K (He.ga K "Calendar") "__eq__") fd_Calendar_eq := G0_Calendar_eq
  have B_Calendar_eq : Binds K fd_Calendar_eq ["self", "other"] [] := G_Calendar_eq.bindsN fun _ _ _ _ _ _ us hl => match us, hl with | [_, _], _ => rfl
  obtain ⟨fd_law_alike_right, G0_law_alike_right⟩ := c.def_ 10 (d := dd_law_alike_right) rfl
  have G_law_alike_right : FunD K "_law_alike_right" "_law_alike_right" (defArgs s_law_alike_right) (defBody s_law_alike_right) (defScope s_law_alike_right) [] [] (He.ga K "_law_alike_right") fd_law_alike_right := G0_law_alike_right
  have B_law_alike_right : Binds K fd_law_alike_right ["_law_calendar", "_law_lengths_here", "_law_hold"] [] := G_law_alike_right.bindsN fun _ _ _ _ _ _ us hl => match us, hl with | [_, _, _], _ => rfl
  obtain ⟨fd_need_day, G0_need_day⟩ := c.def_ 11 (d := dd_need_day) rfl
  have G_need_day : FunD K "need_day" "need_day" (defArgs s_need_day) (defBody s_need_day) (defScope s_need_day) [] [] (He.ga K "need_day") fd_need_day := G0_need_day
  have B_need_day : Binds K fd_need_day ["number"] [] := G_need_day.bindsN fun _ _ _ _ _ _ us hl => match us, hl with | [_], _ => rfl
  obtain ⟨fd_Calendar_long, G0_Calendar_long⟩ := c.def_ 12 (d := dd_Calendar_long) rfl
  have G_Calendar_long : FunD K "long" "Calendar.long" (defArgs s_Calendar_long) (defBody s_Calendar_long) (defScope s_Calendar_long) [] [] (He.ma K (He.ga K "Calendar") "long") fd_Calendar_long := G0_Calendar_long
  have B_Calendar_long : Binds K fd_Calendar_long ["self", "year"] [] := G_Calendar_long.bindsN fun _ _ _ _ _ _ us hl => match us, hl with | [_, _], _ => rfl
  obtain ⟨fd_Calendar_first, G0_Calendar_first⟩ := c.def_ 13 (d := dd_Calendar_first) rfl
  have G_Calendar_first : FunD K "first" "Calendar.first" (defArgs s_Calendar_first) (defBody s_Calendar_first) (defScope s_Calendar_first) [] [] (He.ma K (He.ga K "Calendar") "first") fd_Calendar_first := G0_Calendar_first
  have B_Calendar_first : Binds K fd_Calendar_first ["self", "year"] [] := G_Calendar_first.bindsN fun _ _ _ _ _ _ us hl => match us, hl with | [_, _], _ => rfl
  obtain ⟨fd_Calendar_at, G0_Calendar_at⟩ := c.def_ 14 (d := dd_Calendar_at) rfl
  have G_Calendar_at : FunD K "at" "Calendar.at" (defArgs s_Calendar_at) (defBody s_Calendar_at) (defScope s_Calendar_at) [] [] (He.ma K (He.ga K "Calendar") "at") fd_Calendar_at := G0_Calendar_at
  have B_Calendar_at : Binds K fd_Calendar_at ["self", "day"] [] := G_Calendar_at.bindsN fun _ _ _ _ _ _ us hl => match us, hl with | [_, _], _ => rfl
  obtain ⟨fd_law_year_right, G0_law_year_right⟩ := c.def_ 15 (d := dd_law_year_right) rfl
  have G_law_year_right : FunD K "_law_year_right" "_law_year_right" (defArgs s_law_year_right) (defBody s_law_year_right) (defScope s_law_year_right) [] [] (He.ga K "_law_year_right") fd_law_year_right := G0_law_year_right
  have B_law_year_right : Binds K fd_law_year_right ["_law_calendar", "_law_lengths_here", "_law_year", "_law_hold"] [] := G_law_year_right.bindsN fun _ _ _ _ _ _ us hl => match us, hl with | [_, _, _, _], _ => rfl
  obtain ⟨fd_law_far, G0_law_far⟩ := c.def_ 16 (d := dd_law_far) rfl
  have G_law_far : FunD K "_law_far" "_law_far" (defArgs s_law_far) (defBody s_law_far) (defScope s_law_far) [] [] (He.ga K "_law_far") fd_law_far := G0_law_far
  have B_law_far : Binds K fd_law_far ["_law_hold"] [] := G_law_far.bindsN fun _ _ _ _ _ _ us hl => match us, hl with | [_], _ => rfl
  obtain ⟨fd_law, G0_law⟩ := c.def_ 17 (d := dd_law) rfl
  have G_law : FunD K "law" "law" (defArgs s_law) (defBody s_law) (defScope s_law) [] [] (He.ga K "law") fd_law := G0_law
  have b := FunD.bindsA (ps := ["_law_script"]) G_law fun _ _ _ _ _ _ us hl => match us, hl with | [_], _ => rfl
  refine ⟨fd_law, fun s v => b s [v] rfl, fun base _ _ => ?_⟩
  have F_law_draw : FnOk P w K mg base (L2.CX P w) 1 _ fd_law_draw ["_law_hold", "_law_many"] (spD K (c_law_draw K)) := ok_law_draw G_law_draw (He.free_ok X G (c.fact 0 (f := .free "len") rfl))
  have F_law_lengths : FnOk P w K mg base (L2.CX P w) 2 _ fd_law_lengths ["_law_hold", "_law_most", "_law_many"] (spD K (c_law_lengths K)) := ok_law_lengths G_law_lengths F_law_draw B_law_draw (He.glo_ok X G (c.fact 1 (f := .glo "_law_draw") rfl)) G_law_draw.kp (He.free_ok X G (c.fact 2 (f := .free "range") rfl))
  have F_is_number : FnOk P w K mg base (L2.CX P w) 1 _ fd_is_number ["thing", "least", "most"] (spD K (c_is_number K)) := ok_is_number G_is_number (He.free_ok X G (c.fact 3 (f := .free "int") rfl)) (He.free_ok X G (c.fact 4 (f := .free "isinstance") rfl)) (He.free_ok X G (c.fact 5 (f := .free "bool") rfl))
  have F_are_numbers : FnOk P w K mg base (L2.CX P w) 2 _ fd_are_numbers ["thing", "long", "least", "most"] (spD K (c_are_numbers K)) := ok_are_numbers G_are_numbers F_is_number B_is_number (He.glo_ok X G (c.fact 6 (f := .glo "is_number") rfl)) G_is_number.kp (He.free_ok X G (c.fact 7 (f := .free "list") rfl)) (He.free_ok X G (c.fact 4 (f := .free "isinstance") rfl)) (He.free_ok X G (c.fact 0 (f := .free "len") rfl)) (He.free_ok X G (c.fact 8 (f := .free "all") rfl))
  have F_Calendar_init : FnOk P w K mg base (L2.CX P w) 3 _ fd_Calendar_init ["self", "years"] (spD K (c_Calendar_init K)) := ok_Calendar_init G_Calendar_init F_are_numbers B_are_numbers (He.glo_ok X G (c.fact 9 (f := .glo "are_numbers") rfl)) G_are_numbers.kp ⟨(He.exc_ok (c.fact 10 (f := .exc "BadCalendar") rfl)).1, He.glo_ok X G (c.fact 11 (f := .glo "BadCalendar") rfl), (He.exc_ok (c.fact 10 (f := .exc "BadCalendar") rfl)).2.1, (He.exc_ok (c.fact 10 (f := .exc "BadCalendar") rfl)).2.2.1, (He.exc_ok (c.fact 10 (f := .exc "BadCalendar") rfl)).2.2.2⟩ (He.free_ok X G (c.fact 7 (f := .free "list") rfl)) (⟨He.cls_ok (c.fact 12 (f := .cls "Calendar") rfl), He.noat_ok (c.fact 13 (f := .noat "Calendar" "lengths") rfl), He.noat_ok (c.fact 14 (f := .noat "Calendar" "begins") rfl), He.noat_ok (c.fact 15 (f := .noat "Calendar" "whole") rfl)⟩)
  have F_law_is : FnOk P w K mg base (L2.CX P w) 1 _ fd_law_is ["_law_found", "_law_due"] (spD K (c_law_is K)) := ok_law_is G_law_is (He.free_ok X G (c.fact 3 (f := .free "int") rfl)) (He.free_ok X G (c.fact 4 (f := .free "isinstance") rfl)) (He.free_ok X G (c.fact 5 (f := .free "bool") rfl))
  have F_law_row_is : FnOk P w K mg base (L2.CX P w) 2 _ fd_law_row_is ["_law_found", "_law_due"] (spD K (c_law_row_is K)) := ok_law_row_is G_law_row_is F_law_is B_law_is (He.glo_ok X G (c.fact 16 (f := .glo "_law_is") rfl)) G_law_is.kp (He.free_ok X G (c.fact 7 (f := .free "list") rfl)) (He.free_ok X G (c.fact 4 (f := .free "isinstance") rfl)) (He.free_ok X G (c.fact 17 (f := .free "tuple") rfl)) (He.free_ok X G (c.fact 0 (f := .free "len") rfl)) (He.free_ok X G (c.fact 2 (f := .free "range") rfl))
  have F_Calendar_years : FnOk P w K mg base (L2.CX P w) 1 _ fd_Calendar_years ["self"] (spD K (c_Calendar_years K)) := ok_Calendar_years G_Calendar_years (He.free_ok X G (c.fact 7 (f := .free "list") rfl)) (⟨He.cls_ok (c.fact 12 (f := .cls "Calendar") rfl), He.noat_ok (c.fact 13 (f := .noat "Calendar" "lengths") rfl), He.noat_ok (c.fact 14 (f := .noat "Calendar" "begins") rfl), He.noat_ok (c.fact 15 (f := .noat "Calendar" "whole") rfl)⟩)
  have F_Calendar_turn : FnOk P w K mg base (L2.CX P w) 1 _ fd_Calendar_turn ["self"] (spD K (c_Calendar_turn K)) := ok_Calendar_turn G_Calendar_turn (⟨He.cls_ok (c.fact 12 (f := .cls "Calendar") rfl), He.noat_ok (c.fact 13 (f := .noat "Calendar" "lengths") rfl), He.noat_ok (c.fact 14 (f := .noat "Calendar" "begins") rfl), He.noat_ok (c.fact 15 (f := .noat "Calendar" "whole") rfl)⟩)
  have F_Calendar_eq : FnOk P w K mg base (L2.CX P w) 1 _ fd_Calendar_eq ["self", "other"] (spD K (c_Calendar_eq K)) := ok_Calendar_eq G_Calendar_eq (He.glo_ok X G (c.fact 18 (f := .glo "Calendar") rfl)) (He.free_ok X G (c.fact 4 (f := .free "isinstance") rfl)) (⟨He.cls_ok (c.fact 12 (f := .cls "Calendar") rfl), He.noat_ok (c.fact 13 (f := .noat "Calendar" "lengths") rfl), He.noat_ok (c.fact 14 (f := .noat "Calendar" "begins") rfl), He.noat_ok (c.fact 15 (f := .noat "Calendar" "whole") rfl)⟩) (keqB_ok (He.cls_ok (c.fact 12 (f := .cls "Calendar") rfl)) (exAll_at cx 0 (e := keqB "Calendar") rfl))
  have F_law_alike_right : FnOk P w K mg base (L2.CX P w) 5 _ fd_law_alike_right ["_law_calendar", "_law_lengths_here", "_law_hold"] (spD K (c_law_alike_right K)) := ok_law_alike_right G_law_alike_right F_law_draw B_law_draw (He.glo_ok X G (c.fact 1 (f := .glo "_law_draw") rfl)) G_law_draw.kp F_Calendar_init B_Calendar_init (He.mkr_ok (c.fact 19 (f := .mkr "Calendar") rfl)) F_Calendar_eq B_Calendar_eq (He.free_ok X G (c.fact 0 (f := .free "len") rfl)) (He.free_ok X G (c.fact 7 (f := .free "list") rfl)) (He.free_ok X G (c.fact 20 (f := .free "max") rfl)) (He.glo_ok X G (c.fact 18 (f := .glo "Calendar") rfl)) (He.meth_ok (c.fact 21 (f := .meth "Calendar" "__eq__") rfl)) (neB_ok (exAll_at cx 1 (e := neB "Calendar") rfl)) (He.free_ok X G (c.fact 5 (f := .free "bool") rfl)) (He.free_ok X G (c.fact 4 (f := .free "isinstance") rfl)) (⟨He.cls_ok (c.fact 12 (f := .cls "Calendar") rfl), He.noat_ok (c.fact 13 (f := .noat "Calendar" "lengths") rfl), He.noat_ok (c.fact 14 (f := .noat "Calendar" "begins") rfl), He.noat_ok (c.fact 15 (f := .noat "Calendar" "whole") rfl)⟩) (keqB_ok (He.cls_ok (c.fact 12 (f := .cls "Calendar") rfl)) (exAll_at cx 0 (e := keqB "Calendar") rfl))
  have F_need_day : FnOk P w K mg base (L2.CX P w) 1 _ fd_need_day ["number"] (spD K (c_need_day K)) := ok_need_day G_need_day ⟨(He.exc_ok (c.fact 22 (f := .exc "NoDay") rfl)).1, He.glo_ok X G (c.fact 23 (f := .glo "NoDay") rfl), (He.exc_ok (c.fact 22 (f := .exc "NoDay") rfl)).2.1, (He.exc_ok (c.fact 22 (f := .exc "NoDay") rfl)).2.2.1, (He.exc_ok (c.fact 22 (f := .exc "NoDay") rfl)).2.2.2⟩
  have F_Calendar_long : FnOk P w K mg base (L2.CX P w) 2 _ fd_Calendar_long ["self", "year"] (spD K (c_Calendar_long K)) := ok_Calendar_long G_Calendar_long F_need_day B_need_day (He.glo_ok X G (c.fact 24 (f := .glo "need_day") rfl)) G_need_day.kp (He.free_ok X G (c.fact 0 (f := .free "len") rfl)) (⟨He.cls_ok (c.fact 12 (f := .cls "Calendar") rfl), He.noat_ok (c.fact 13 (f := .noat "Calendar" "lengths") rfl), He.noat_ok (c.fact 14 (f := .noat "Calendar" "begins") rfl), He.noat_ok (c.fact 15 (f := .noat "Calendar" "whole") rfl)⟩)
  have F_Calendar_first : FnOk P w K mg base (L2.CX P w) 2 _ fd_Calendar_first ["self", "year"] (spD K (c_Calendar_first K)) := ok_Calendar_first G_Calendar_first F_need_day B_need_day (He.glo_ok X G (c.fact 24 (f := .glo "need_day") rfl)) G_need_day.kp (He.free_ok X G (c.fact 0 (f := .free "len") rfl)) (He.free_ok X G (c.fact 25 (f := .free "divmod") rfl)) (⟨He.cls_ok (c.fact 12 (f := .cls "Calendar") rfl), He.noat_ok (c.fact 13 (f := .noat "Calendar" "lengths") rfl), He.noat_ok (c.fact 14 (f := .noat "Calendar" "begins") rfl), He.noat_ok (c.fact 15 (f := .noat "Calendar" "whole") rfl)⟩)
  have F_Calendar_at : FnOk P w K mg base (L2.CX P w) 2 _ fd_Calendar_at ["self", "day"] (spD K (c_Calendar_at K)) := ok_Calendar_at G_Calendar_at F_need_day B_need_day (He.glo_ok X G (c.fact 24 (f := .glo "need_day") rfl)) G_need_day.kp (He.free_ok X G (c.fact 25 (f := .free "divmod") rfl)) (He.free_ok X G (c.fact 0 (f := .free "len") rfl)) (⟨He.cls_ok (c.fact 12 (f := .cls "Calendar") rfl), He.noat_ok (c.fact 13 (f := .noat "Calendar" "lengths") rfl), He.noat_ok (c.fact 14 (f := .noat "Calendar" "begins") rfl), He.noat_ok (c.fact 15 (f := .noat "Calendar" "whole") rfl)⟩)
  have F_law_year_right : FnOk P w K mg base (L2.CX P w) 3 _ fd_law_year_right ["_law_calendar", "_law_lengths_here", "_law_year", "_law_hold"] (spD K (c_law_year_right K)) := ok_law_year_right G_law_year_right F_law_is B_law_is (He.glo_ok X G (c.fact 16 (f := .glo "_law_is") rfl)) G_law_is.kp F_Calendar_long B_Calendar_long F_Calendar_first B_Calendar_first F_law_draw B_law_draw (He.glo_ok X G (c.fact 1 (f := .glo "_law_draw") rfl)) G_law_draw.kp F_law_row_is B_law_row_is (He.glo_ok X G (c.fact 26 (f := .glo "_law_row_is") rfl)) G_law_row_is.kp F_Calendar_at B_Calendar_at (He.free_ok X G (c.fact 0 (f := .free "len") rfl)) (He.free_ok X G (c.fact 25 (f := .free "divmod") rfl)) (He.free_ok X G (c.fact 27 (f := .free "sum") rfl)) (He.cls_ok (c.fact 12 (f := .cls "Calendar") rfl)) (He.meth_ok (c.fact 28 (f := .meth "Calendar" "long") rfl)) (He.meth_ok (c.fact 29 (f := .meth "Calendar" "first") rfl)) (He.meth_ok (c.fact 30 (f := .meth "Calendar" "at") rfl)) (⟨He.cls_ok (c.fact 12 (f := .cls "Calendar") rfl), He.noat_ok (c.fact 13 (f := .noat "Calendar" "lengths") rfl), He.noat_ok (c.fact 14 (f := .noat "Calendar" "begins") rfl), He.noat_ok (c.fact 15 (f := .noat "Calendar" "whole") rfl)⟩)
  have F_law_far : FnOk P w K mg base (L2.CX P w) 2 _ fd_law_far ["_law_hold"] (spD K (c_law_far K)) := ok_law_far G_law_far F_law_draw B_law_draw (He.glo_ok X G (c.fact 1 (f := .glo "_law_draw") rfl)) G_law_draw.kp (He.free_ok X G (c.fact 2 (f := .free "range") rfl))
  exact ok_law (base := base) G_law F_law_lengths B_law_lengths (He.glo_ok X G (c.fact 31 (f := .glo "_law_lengths") rfl)) G_law_lengths.kp F_Calendar_init B_Calendar_init (He.mkr_ok (c.fact 19 (f := .mkr "Calendar") rfl)) F_law_row_is B_law_row_is (He.glo_ok X G (c.fact 26 (f := .glo "_law_row_is") rfl)) G_law_row_is.kp F_Calendar_years B_Calendar_years F_law_is B_law_is (He.glo_ok X G (c.fact 16 (f := .glo "_law_is") rfl)) G_law_is.kp F_Calendar_turn B_Calendar_turn F_law_alike_right B_law_alike_right (He.glo_ok X G (c.fact 32 (f := .glo "_law_alike_right") rfl)) G_law_alike_right.kp F_law_year_right B_law_year_right (He.glo_ok X G (c.fact 33 (f := .glo "_law_year_right") rfl)) G_law_year_right.kp F_law_far B_law_far (He.glo_ok X G (c.fact 34 (f := .glo "_law_far") rfl)) G_law_far.kp (He.free_ok X G (c.fact 7 (f := .free "list") rfl)) (He.glo_ok X G (c.fact 18 (f := .glo "Calendar") rfl)) (He.cls_ok (c.fact 12 (f := .cls "Calendar") rfl)) (He.meth_ok (c.fact 35 (f := .meth "Calendar" "years") rfl)) (He.free_ok X G (c.fact 27 (f := .free "sum") rfl)) (He.meth_ok (c.fact 36 (f := .meth "Calendar" "turn") rfl)) (He.free_ok X G (c.fact 2 (f := .free "range") rfl)) (He.free_ok X G (c.fact 0 (f := .free "len") rfl)) (He.free_ok X G (c.fact 37 (f := .free "min") rfl)) (He.free_ok X G (c.fact 20 (f := .free "max") rfl)) (⟨He.cls_ok (c.fact 12 (f := .cls "Calendar") rfl), He.noat_ok (c.fact 13 (f := .noat "Calendar" "lengths") rfl), He.noat_ok (c.fact 14 (f := .noat "Calendar" "begins") rfl), He.noat_ok (c.fact 15 (f := .noat "Calendar" "whole") rfl)⟩)
end Dl
open PySem PySem.W PySem.Calls PyProof.Rows
set_option maxRecDepth 100000
set_option maxHeartbeats 0
theorem PySem.Challenge.cw_readround_k10_calendars_holds : PySem.Challenge.rw_readround_k10_calendars.Holds := by
  refine Dl.lawOf ?hc
  case hc =>
    refine Dl.walk_ofW (l := PySem.Challenge.rw_readround_k10_calendars) (n := 63) (k := 6) (x := "_law_script") rfl (by decide) Dl.law_dflt ⟨rfl, by decide, by decide⟩ ?F
    intro w mg fa h Y G hmg0
    obtain ⟨K, KX, c, cx⟩ := Y
    have hmg : mg ("law" : PySem.Str) = some (.ref fa) := by
      rw [← Dl.law_name]
      exact hmg0
    obtain ⟨fd, hb, hF⟩ := Dl.facts (P := (PySem.Challenge.rw_readround_k10_calendars).prog) (w := w) KX G hmg c cx
    exact ⟨K, fd, _, KX, hb, fun H a ns hl hO hS => Dl.law_sp hS ⟨ns, rfl, hl, fun _ => rfl⟩, hF⟩
