import PyProof.Rows.All
import Wide.All
import OpenK.AllK
import Wide.FinOn
import HandS.ForMost
import HandS.ForExc
import HandS.Lambda
import HandS.IsInst
import HandS.Wide
import HandS.Defaults
import HandS.Zip
import HandS.Strs
import HandS.Style
import HandS.HeadHook2
import HandS.Ends
import HandS.HeadEnd
import HandS.Head2
import PyProof.Rows.SetListFold
import HandS.Conv
import HandS.Text
import HandS.NoneIn
import HandS.Codes
import PyProof.LongRange
import HandS.SortKw
import KE.DataMinMax
import PyProof.ListRange
import HandS.SetFor
import HandS.ExcIs
import HandS.ExcInit
import HandS.ExcField
import HandS.CallSlots
import HandS.Iter
import HandS.HeadHook4
import HandS.HeadWalk
import HandS.Deep
import HandS.DictComp
import HandS.SortInts
import HandS.More
import PyProof.InstEq
import HandS.DictTup
import HandS.TupLen
import KE.KeyNested
import KE.SortData
import HandS.TryMany
import KE.KDictSum
import HandS.RevRange
import HandS.RaiseMore
import KE.KIntText
import PyProof.InstSpecial
import PySem.Challenge.RW_readround_k01_books_known
set_option Elab.async false
set_option linter.all false
set_option maxRecDepth 100000
/-! Dl: a layer of data over the hand layer's readings: what is frozen is told as data (D), what may still change stands in a list (Mu) -/
namespace Dl
open PySem L2
/-- data -/
inductive D where
  | non | bl (b : Bool) | int (i : Int) | str (x : Str) | ty (n : String)
  | tup (xs : List D) | lst (xs : List D)
  /-- a list, a tuple that is read alone (the script, a written one) -/
  | rdl (xs : List D) | rdt (xs : List D)
  | obj (C : Addr) (fs : List (Str × D))
  | dct (kvs : List (Key × D))
  /-- the k-th thing that may change -/
  | own (k : Nat)
  /-- an object of the written part -/
  | loc (a : Addr)
  /-- a caught exception: its class, its fields -/
  | exc (C : Addr) (fs : List (Str × D))
deriving Inhabited
/-- a caught exception in the heap: its class, its own dict -/
def ExV (cls : Value) (d : Option Addr) (a : Addr) : HO := .ext fun h => ∃ (oe : Obj) (vs : Array Value), h.get? a = some oe ∧ Zc cls d oe ∧ oe.data = .fields vs
/-- the own dict of an exception -/
def ExD (G : Hp) (d : Option Addr) (fs : List (Str × V)) : Prop := (d = none ∧ fs = []) ∨ ∃ dx, d = some dx ∧ G dx = some (.xd fs)
theorem ExD.mono {G G' : Hp} (s : Same G G') {d : Option Addr} {fs : List (Str × V)} (h : ExD G d fs) : ExD G' d fs := h.imp id fun ⟨dx, e, g⟩ => ⟨dx, e, s _ _ g⟩
/-- what a thing that may change is now -/
inductive MO where
  | dead
  | lst (xs : List D)
  | ins (C : Addr) (fs : List (Str × D))
  | dK (kvs : List (Key × D))
  | dT (kvs : List (List Key × D))
  /-- the table at p of code objects of the name q -/
  | tab (p : Addr) (q : Str)
deriving Inhabited
abbrev Mu := List MO
abbrev En := List (Option D)
section
variable (K : PySem.W.Frag) (G : Hp) (al : List Addr)
mutual
inductive Rp : V → D → Prop
  | non : Rp .non .non
  | bl (b : Bool) : Rp (.bl b) (.bl b)
  | int (i : Int) : Rp (.int i) (.int i)
  | str (x : Str) : Rp (.str x) (.str x)
  | ty (n : String) : Rp (.ty n) (.ty n)
  | tup {a : Addr} {vs : List V} {ds : List D} : G a = some (.tup vs) → Rps vs ds → Rp (.ref a) (.tup ds)
  | lst {a : Addr} {vs : List V} {ds : List D} : G a = some (.lst vs) → Rps vs ds → Rp (.ref a) (.lst ds)
  | rdl {a : Addr} {vs : List V} {ds : List D} : SqL K G a vs → Rps vs ds → Rp (.ref a) (.rdl ds)
  | rdt {a : Addr} {vs : List V} {ds : List D} : SqT K G a vs → Rps vs ds → Rp (.ref a) (.rdt ds)
  | obj {a C dx : Addr} {fs : List (Str × V)} {gs : List (Str × D)} : G a = some (.ins C dx fs) → Rpf fs gs → Rp (.ref a) (.obj C gs)
  | dct {a : Addr} {kvs : List (Key × V)} {gs : List (Key × D)} : Rd G a (.dK kvs) → Rpk kvs gs → Rp (.ref a) (.dct gs)
  | own {a : Addr} {k : Nat} : al[k]? = some a → Rp (.ref a) (.own k)
  | loc (a : Addr) : Rp (.ref a) (.loc a)
  | exc {a C : Addr} {dd : Option Addr} {fs : List (Str × V)} {gs : List (Str × D)} : G a = some (ExV (.ref C) dd a) → ExD G dd fs → Rpf fs gs → Rp (.ref a) (.exc C gs)
inductive Rps : List V → List D → Prop
  | nil : Rps [] []
  | cons {v : V} {vs : List V} {d : D} {ds : List D} : Rp v d → Rps vs ds → Rps (v :: vs) (d :: ds)
inductive Rpf : List (Str × V) → List (Str × D) → Prop
  | nil : Rpf [] []
  | cons {f : Str} {v : V} {vs : List (Str × V)} {d : D} {ds : List (Str × D)} : Rp v d → Rpf vs ds → Rpf ((f, v) :: vs) ((f, d) :: ds)
inductive Rpk : List (Key × V) → List (Key × D) → Prop
  | nil : Rpk [] []
  | cons {f : Key} {v : V} {vs : List (Key × V)} {d : D} {ds : List (Key × D)} : Rp v d → Rpk vs ds → Rpk ((f, v) :: vs) ((f, d) :: ds)
end
end
theorem rd_mono {H H' : Hp} {a : Addr} {u : HO} (s : Same H H') (h : Rd H a u) : Rd H' a u := by
  rcases h with h | ⟨o, h⟩
  · exact .inl (s _ _ h)
  · exact .inr ⟨o, s _ _ h⟩
theorem sql_mono {K : PySem.W.Frag} {H H' : Hp} {a : Addr} {xs : List V} (e : Same H H') (h : SqL K H a xs) : SqL K H' a xs := e.seq h
theorem sqt_mono {K : PySem.W.Frag} {H H' : Hp} {a : Addr} {xs : List V} (e : Same H H') (h : SqT K H a xs) : SqT K H' a xs := by
  rcases h with (h | ⟨o, h⟩) | h
  · exact .inl (.inl (e _ _ h))
  · exact .inl (.inr ⟨o, e _ _ h⟩)
  · exact .inr h
/-- al' goes on from al -/
def Pre (al al' : List Addr) : Prop := ∃ be, al' = al ++ be
theorem Pre.refl (al : List Addr) : Pre al al := ⟨[], by simp⟩
theorem Pre.trans {a b c : List Addr} (h : Pre a b) (h' : Pre b c) : Pre a c := by
  obtain ⟨x, rfl⟩ := h
  obtain ⟨y, rfl⟩ := h'
  exact ⟨x ++ y, by simp⟩
theorem Pre.get {al al' : List Addr} (h : Pre al al') {k : Nat} {a : Addr} (e : al[k]? = some a) : al'[k]? = some a := by
  obtain ⟨x, rfl⟩ := h
  rw [List.getElem?_append_left (List.getElem?_eq_some_iff.mp e).1]
  exact e
theorem Pre.mem {al al' : List Addr} (h : Pre al al') {a : Addr} (e : a ∈ al) : a ∈ al' := by
  obtain ⟨x, rfl⟩ := h
  exact List.mem_append_left _ e
section
variable {K : PySem.W.Frag} {G G' : Hp} {al al' : List Addr}
mutual
theorem Rp.mono (s : Same G G') (p : Pre al al') : ∀ {v : V} {d : D}, Rp K G al v d → Rp K G' al' v d
  | _, _, .non => .non
  | _, _, .bl b => .bl b
  | _, _, .int i => .int i
  | _, _, .str x => .str x
  | _, _, .ty x => .ty x
  | _, _, .tup h r => .tup (s _ _ h) (Rps.mono s p r)
  | _, _, .lst h r => .lst (s _ _ h) (Rps.mono s p r)
  | _, _, .rdl h r => .rdl (sql_mono s h) (Rps.mono s p r)
  | _, _, .rdt h r => .rdt (sqt_mono s h) (Rps.mono s p r)
  | _, _, .obj h r => .obj (s _ _ h) (Rpf.mono s p r)
  | _, _, .dct h r => .dct (rd_mono s h) (Rpk.mono s p r)
  | _, _, .own h => .own (p.get h)
  | _, _, .loc a => .loc a
  | _, _, .exc h hd r => .exc (s _ _ h) (hd.mono s) (Rpf.mono s p r)
theorem Rps.mono (s : Same G G') (p : Pre al al') : ∀ {v : List V} {d : List D}, Rps K G al v d → Rps K G' al' v d
  | _, _, .nil => .nil
  | _, _, .cons h r => .cons (Rp.mono s p h) (Rps.mono s p r)
theorem Rpf.mono (s : Same G G') (p : Pre al al') : ∀ {v : List (Str × V)} {d : List (Str × D)}, Rpf K G al v d → Rpf K G' al' v d
  | _, _, .nil => .nil
  | _, _, .cons h r => .cons (Rp.mono s p h) (Rpf.mono s p r)
theorem Rpk.mono (s : Same G G') (p : Pre al al') : ∀ {v : List (Key × V)} {d : List (Key × D)}, Rpk K G al v d → Rpk K G' al' v d
  | _, _, .nil => .nil
  | _, _, .cons h r => .cons (Rp.mono s p h) (Rpk.mono s p r)
end
theorem Rps.length {vs : List V} {ds : List D} (h : Rps K G al vs ds) : vs.length = ds.length := by
  induction ds generalizing vs with
  | nil => cases h; rfl
  | cons d ds ih => cases h with | cons _ r => simp [ih r]
theorem Rps.get {vs : List V} {ds : List D} (h : Rps K G al vs ds) : ∀ {i : Nat} {d : D}, ds[i]? = some d → ∃ v, vs[i]? = some v ∧ Rp K G al v d := by
  induction ds generalizing vs with
  | nil => intro i d e; simp at e
  | cons x xs ih =>
    intro i d e
    cases h with
    | cons r t =>
      cases i with
      | zero => simp at e; subst e; exact ⟨_, rfl, r⟩
      | succ i => simp at e; simpa using ih t e
theorem Rps.getV {vs : List V} {ds : List D} (h : Rps K G al vs ds) {i : Nat} {v : V} (e : vs[i]? = some v) : ∃ d, ds[i]? = some d ∧ Rp K G al v d := by
  have hi : i < ds.length := by rw [← h.length]; exact (List.getElem?_eq_some_iff.mp e).1
  obtain ⟨w, e2, r⟩ := h.get (List.getElem?_eq_getElem hi)
  rw [e] at e2; cases e2
  exact ⟨_, List.getElem?_eq_getElem hi, r⟩
theorem Rps.append {vs ws : List V} {ds es : List D} (h : Rps K G al vs ds) (h' : Rps K G al ws es) : Rps K G al (vs ++ ws) (ds ++ es) := by
  induction ds generalizing vs with
  | nil => cases h; exact h'
  | cons d ds ih => cases h with | cons r t => exact .cons r (ih t)
theorem Rps.take {vs : List V} {ds : List D} (h : Rps K G al vs ds) (n : Nat) : Rps K G al (vs.take n) (ds.take n) := by
  induction n generalizing vs ds with
  | zero => simp; exact .nil
  | succ n ih => cases h with
    | nil => simp; exact .nil
    | cons r t => simpa using .cons r (ih t)
theorem Rps.drop {vs : List V} {ds : List D} (h : Rps K G al vs ds) (n : Nat) : Rps K G al (vs.drop n) (ds.drop n) := by
  induction n generalizing vs ds with
  | zero => simpa using h
  | succ n ih => cases h with
    | nil => simp; exact .nil
    | cons r t => simpa using ih t
theorem Rps.reverse {vs : List V} {ds : List D} (h : Rps K G al vs ds) : Rps K G al vs.reverse ds.reverse := by
  induction ds generalizing vs with
  | nil => cases h; exact .nil
  | cons d ds ih => cases h with | cons r t => simpa using (ih t).append (.cons r .nil)
theorem Rps.set {vs : List V} {ds : List D} (h : Rps K G al vs ds) (i : Nat) {v : V} {d : D} (r : Rp K G al v d) : Rps K G al (vs.set i v) (ds.set i d) := by
  induction ds generalizing vs i with
  | nil => cases h; simp; exact .nil
  | cons x xs ih => cases h with
    | cons r' t => cases i with
      | zero => exact .cons r t
      | succ i => exact .cons r' (ih t i)
theorem Rps.of_ints : ∀ (ns : List Int), Rps K G al (ns.map V.int) (ns.map D.int)
  | [] => .nil
  | n :: ns => .cons (.int n) (Rps.of_ints ns)
theorem Rps.bools : ∀ {vs : List V} {ns : List Bool}, Rps K G al vs (ns.map D.bl) → vs = ns.map V.bl
  | _, [], h => by cases h; rfl
  | _, n :: ns, h => by
    cases h with
    | cons r t => cases r; rw [Rps.bools (ns := ns) t]; rfl
theorem Rpf.look {fs : List (Str × V)} {gs : List (Str × D)} (h : Rpf K G al fs gs) {f : Str} {d : D} (e : gs.lookup f = some d) : ∃ v, fs.lookup f = some v ∧ Rp K G al v d := by
  induction gs generalizing fs with
  | nil => simp at e
  | cons x xs ih =>
    cases h with
    | cons r t =>
      rw [List.lookup_cons] at e ⊢
      split at e
      · cases e; exact ⟨_, rfl, r⟩
      · exact ih t e
theorem Rpf.none {fs : List (Str × V)} {gs : List (Str × D)} (h : Rpf K G al fs gs) {f : Str} (e : gs.lookup f = Option.none) : fs.lookup f = Option.none := by
  induction gs generalizing fs with
  | nil => cases h; rfl
  | cons x xs ih =>
    cases h with
    | cons r t =>
      rw [List.lookup_cons] at e ⊢
      split at e
      · cases e
      · exact ih t e
theorem Rpf.length {fs : List (Str × V)} {gs : List (Str × D)} (h : Rpf K G al fs gs) : fs.length = gs.length := by
  induction gs generalizing fs with
  | nil => cases h; rfl
  | cons d ds ih => cases h with | cons _ r => simp [ih r]
end
/-- a field put -/
def putD (f : Str) (v : D) : List (Str × D) → List (Str × D)
  | [] => [(f, v)]
  | (g, x) :: r => if g = f then (g, v) :: r else (g, x) :: putD f v r
theorem Rpf.put {K : PySem.W.Frag} {G : Hp} {al : List Addr} {fs : List (Str × V)} {gs : List (Str × D)} (h : Rpf K G al fs gs) (f : Str) {v : V} {d : D} (r : Rp K G al v d) : Rpf K G al (putF f v fs) (putD f d gs) := by
  induction gs generalizing fs with
  | nil => cases h; exact .cons r .nil
  | cons x xs ih =>
    cases h with
    | cons r' t =>
      unfold putF putD
      split
      · exact .cons r t
      · exact .cons r' (ih t)
/-! ### the slots -/
def RpS (K : PySem.W.Frag) (G : Hp) (al : List Addr) (σ : St) (ρ : En) : Prop := σ.length = ρ.length ∧ ∀ (i : Nat) (d : D), ρ[i]? = some (some d) → ∃ v, σ[i]? = some (some v) ∧ Rp K G al v d
section
variable {K : PySem.W.Frag} {G G' : Hp} {al al' : List Addr} {σ : St} {ρ : En}
theorem RpS.mono (s : Same G G') (p : Pre al al') (h : RpS K G al σ ρ) : RpS K G' al' σ ρ := ⟨h.1, fun i d e => by
  obtain ⟨v, e1, r⟩ := h.2 i d e
  exact ⟨v, e1, r.mono s p⟩⟩
theorem RpS.set (h : RpS K G al σ ρ) (i : Nat) {v : V} {d : D} (r : Rp K G al v d) : RpS K G al (σ.set i (some v)) (ρ.set i (some d)) := by
  refine ⟨by simp [h.1], fun j e hj => ?_⟩
  rw [List.getElem?_set] at hj ⊢
  by_cases hij : i = j
  · subst hij
    rw [if_pos rfl] at hj ⊢
    by_cases hl : i < ρ.length
    · rw [if_pos hl] at hj
      have hl2 : i < σ.length := by rw [h.1]; exact hl
      rw [if_pos hl2]
      cases hj
      exact ⟨v, rfl, r⟩
    · rw [if_neg hl] at hj; cases hj
  · rw [if_neg hij] at hj ⊢
    exact h.2 j e hj
/-- a slot's value forgotten -/
theorem RpS.forget (h : RpS K G al σ ρ) (i : Nat) (x : Option V) : RpS K G al (σ.set i x) (ρ.set i none) := by
  refine ⟨by simp [h.1], fun j e hj => ?_⟩
  rw [List.getElem?_set] at hj ⊢
  by_cases hij : i = j
  · subst hij
    rw [if_pos rfl] at hj
    by_cases hl : i < ρ.length
    · rw [if_pos hl] at hj; cases hj
    · rw [if_neg hl] at hj; cases hj
  · rw [if_neg hij] at hj ⊢
    exact h.2 j e hj
end
/-! ### what may change -/
def OkO (K : PySem.W.Frag) (G H : Hp) (al : List Addr) (a : Addr) : MO → Prop
  | .dead => True
  | .lst ds => G a = none ∧ ∃ vs, H a = some (.lst vs) ∧ Rps K G al vs ds
  | .ins C gs => G a = none ∧ ∃ dx fs, H a = some (.ins C dx fs) ∧ Rpf K G al fs gs
  | .dK gs => G a = none ∧ ∃ kvs, H a = some (.dK kvs) ∧ Rpk K G al kvs gs
  | .dT gs => G a = none ∧ ∃ kvs : List (List Key × V), H a = some (.dT kvs) ∧ kvs.map (·.1) = gs.map (·.1) ∧ Rps K G al (kvs.map (·.2)) (gs.map (·.2))
  | .tab p q => G a = none ∧ a = p ∧ ∃ ps : Array Value, H a = some (.tbl ps) ∧ TriplesOk ps.toList ∧ ∀ (pos : Pos) (cv : Value), codeAmong pos ps.toList = some cv → ∃ c, cv = .ref c ∧ G c = some (LamX.CodeO c q)
structure As (K : PySem.W.Frag) (G H : Hp) (al : List Addr) (μ : Mu) : Prop where
  sub : Same G H
  nd : al.Nodup
  len : al.length = μ.length
  here : ∀ a ∈ al, H a ≠ none
  ok : ∀ (k : Nat) (a : Addr) (o : MO), al[k]? = some a → μ[k]? = some o → OkO K G H al a o
/-- a later state -/
structure Nx (G H : Hp) (al : List Addr) (G' H' : Hp) (al' : List Addr) : Prop where
  g : Same G G'
  p : Pre al al'
  keep : ∀ a o, H a = some o → a ∉ al → H' a = some o
  out : ∀ a, H a ≠ none → (∀ vs, H a ≠ some (.tup vs)) → a ∉ al → G a = none → G' a = none
  new : ∀ a ∈ al', a ∈ al ∨ H a = none
section
variable {K : PySem.W.Frag} {G G1 G2 H H1 H2 : Hp} {al al1 al2 : List Addr} {μ : Mu}
theorem Nx.refl : Nx G H al G H al := ⟨Same.refl _, Pre.refl _, fun _ _ h _ => h, fun _ _ _ _ h => h, fun _ h => .inl h⟩
theorem Nx.trans (a : Nx G H al G1 H1 al1) (b : Nx G1 H1 al1 G2 H2 al2) : Nx G H al G2 H2 al2 := by
  have nin : ∀ x o, H x = some o → x ∉ al → x ∉ al1 := fun x o h n m => by
    rcases a.new x m with z | z
    · exact n z
    · rw [h] at z; cases z
  refine ⟨a.g.trans b.g, a.p.trans b.p, fun x o h n => b.keep x o (a.keep x o h n) (nin x o h n), fun x h t n g => ?_, fun x m => ?_⟩
  · cases q : H x with
    | none => exact absurd q h
    | some o =>
      have h1 := a.keep x o q n
      exact b.out x (by rw [h1]; simp) (fun vs e => t vs (by rw [q, ← h1, e])) (nin x o q n) (a.out x h t n g)
  · rcases b.new x m with z | z
    · exact a.new x z
    · by_cases hx : x ∈ al
      · exact .inl hx
      · refine .inr ?_
        cases q : H x with
        | none => rfl
        | some o => rw [a.keep x o q hx] at z; cases z
theorem Rp.nx (n : Nx G H al G1 H1 al1) {v : V} {d : D} (h : Rp K G al v d) : Rp K G1 al1 v d := h.mono n.g n.p
theorem Rps.nx (n : Nx G H al G1 H1 al1) {v : List V} {d : List D} (h : Rps K G al v d) : Rps K G1 al1 v d := h.mono n.g n.p
theorem RpS.nx (n : Nx G H al G1 H1 al1) {σ : St} {ρ : En} (h : RpS K G al σ ρ) : RpS K G1 al1 σ ρ := h.mono n.g n.p
theorem OkO.mono {a : Addr} {o : MO} (s : Same G G1) (p : Pre al al1) (hg : o ≠ .dead → G a = none → G1 a = none) (hh : H1 a = H a) (h : OkO K G H al a o) : OkO K G1 H1 al1 a o := by
  cases o with
  | dead => trivial
  | lst ds => obtain ⟨g, vs, e, r⟩ := h; exact ⟨hg (by simp) g, vs, hh.trans e, r.mono s p⟩
  | ins C gs => obtain ⟨g, dx, vs, e, r⟩ := h; exact ⟨hg (by simp) g, dx, vs, hh.trans e, r.mono s p⟩
  | dK gs => obtain ⟨g, vs, e, r⟩ := h; exact ⟨hg (by simp) g, vs, hh.trans e, r.mono s p⟩
  | dT gs => obtain ⟨g, vs, e, k, r⟩ := h; exact ⟨hg (by simp) g, vs, hh.trans e, k, r.mono s p⟩
  | tab p q => obtain ⟨g, ep, ps, e, k, r⟩ := h; exact ⟨hg (by simp) g, ep, ps, hh.trans e, k, fun pos cv hc => let ⟨c, e1, e2⟩ := r pos cv hc; ⟨c, e1, s _ _ e2⟩⟩
/-- a new frozen thing -/
theorem As.frz {p : Addr} {o : HO} (A : As K G H al μ) (hp : H p = none) : As K (upd G p o) (upd H p o) al μ ∧ Nx G H al (upd G p o) (upd H p o) al := by
  have gp : G p = none := A.sub.free hp
  have s1 : Same G (upd G p o) := fun b u e => by rw [upd_ne (ne_of_none e gp)]; exact e
  have npal : p ∉ al := fun m => A.here p m hp
  refine ⟨⟨fun b u e => ?_, A.nd, A.len, fun a m => ?_, fun k a ob e1 e2 => ?_⟩, ⟨s1, Pre.refl _, fun a u h _ => ?_, fun a h _ n g => ?_, fun a m => .inl m⟩⟩
  · by_cases hb : b = p
    · subst hb; rw [upd_same] at e ⊢; exact e
    · rw [upd_ne hb] at e ⊢; exact A.sub _ _ e
  · have : a ≠ p := fun z => npal (z ▸ m)
    rw [upd_ne this]; exact A.here a m
  · have : a ≠ p := fun z => npal (z ▸ List.mem_of_getElem? e1)
    exact OkO.mono s1 (Pre.refl _) (fun _ g => by rw [upd_ne this]; exact g) (by rw [upd_ne this]) (A.ok k a ob e1 e2)
  · rw [upd_ne (ne_of_none h hp)]; exact h
  · have z : a ≠ p := fun z => h (by rw [z]; exact hp)
    rw [upd_ne z]; exact g
/-- a new thing that may change -/
theorem As.own {p : Addr} {o : HO} {m : MO} (A : As K G H al μ) (hp : H p = none) (ok : OkO K G (upd H p o) (al ++ [p]) p m) : As K G (upd H p o) (al ++ [p]) (μ ++ [m]) ∧ Nx G H al G (upd H p o) (al ++ [p]) := by
  have npal : p ∉ al := fun m => A.here p m hp
  have gp : G p = none := A.sub.free hp
  refine ⟨⟨fun b u e => ?_, ?_, by simp [A.len], fun a m => ?_, fun k a ob e1 e2 => ?_⟩, ⟨Same.refl _, ⟨[p], rfl⟩, fun a u h _ => ?_, fun a h _ n g => g, fun a m => ?_⟩⟩
  · rw [upd_ne (ne_of_none e gp)]; exact A.sub _ _ e
  · rw [List.nodup_append]
    exact ⟨A.nd, by simp, fun a ha b hb => by simp at hb; subst hb; exact fun z => npal (z ▸ ha)⟩
  · rcases List.mem_append.mp m with m | m
    · have : a ≠ p := fun z => npal (z ▸ m)
      rw [upd_ne this]; exact A.here a m
    · simp at m; subst m; rw [upd_same]; simp
  · by_cases hk : k < al.length
    · rw [List.getElem?_append_left hk] at e1
      rw [List.getElem?_append_left (by rw [← A.len]; exact hk)] at e2
      have : a ≠ p := fun z => npal (z ▸ List.mem_of_getElem? e1)
      exact OkO.mono (Same.refl _) ⟨[p], rfl⟩ (fun _ g => g) (by rw [upd_ne this]) (A.ok k a ob e1 e2)
    · have hk1 := (List.getElem?_eq_some_iff.mp e1).1
      have hk' : k = al.length := by simp at hk1; omega
      subst hk'
      simp at e1
      rw [A.len] at e2
      simp at e2
      subst e1 e2
      exact ok
  · rw [upd_ne (ne_of_none h hp)]; exact h
  · rcases List.mem_append.mp m with m | m
    · exact .inl m
    · simp at m; subst m; exact .inr hp
/-- a thing that may change is changed -/
theorem As.put {k : Nat} {a : Addr} {o : HO} {m m' : MO} (A : As K G H al μ) (hk : al[k]? = some a) (hm : μ[k]? = some m) (hd : m ≠ .dead) (ok : OkO K G (upd H a o) al a m') : As K G (upd H a o) al (μ.set k m') ∧ Nx G H al G (upd H a o) al := by
  have ga : G a = none := by
    have := A.ok k a m hk hm
    cases m with
    | dead => exact absurd rfl hd
    | lst _ => exact this.1
    | ins _ _ => exact this.1
    | dK _ => exact this.1
    | dT _ => exact this.1
    | tab _ _ => exact this.1
  have ma : a ∈ al := List.mem_of_getElem? hk
  refine ⟨⟨fun b u e => ?_, A.nd, by simp [A.len], fun b m => ?_, fun j b ob e1 e2 => ?_⟩, ⟨Same.refl _, Pre.refl _, fun b u h n => ?_, fun _ _ _ _ g => g, fun _ m => .inl m⟩⟩
  · rw [upd_ne (ne_of_none e ga)]; exact A.sub _ _ e
  · by_cases hb : b = a
    · subst hb; rw [upd_same]; simp
    · rw [upd_ne hb]; exact A.here b m
  · rw [List.getElem?_set] at e2
    by_cases hj : k = j
    · subst hj
      rw [if_pos rfl] at e2
      split at e2
      · cases e2; rw [hk] at e1; cases e1; exact ok
      · cases e2
    · rw [if_neg hj] at e2
      have hne : b ≠ a := fun z => by
        subst z
        exact hj (nd_ix A.nd hk e1)
      exact OkO.mono (Same.refl _) (Pre.refl _) (fun _ g => g) (by rw [upd_ne hne]) (A.ok j b ob e1 e2)
  · have z : b ≠ a := fun z => n (by rw [z]; exact ma)
    rw [upd_ne z]; exact h
/-- .. it is frozen -/
theorem As.freeze {k : Nat} {a : Addr} {o : HO} (A : As K G H al μ) (hk : al[k]? = some a) (ha : H a = some o) (ga : G a = none) : As K (upd G a o) H al (μ.set k .dead) ∧ Nx G H al (upd G a o) H al := by
  have ma : a ∈ al := List.mem_of_getElem? hk
  have s1 : Same G (upd G a o) := fun b u e => by rw [upd_ne (ne_of_none e ga)]; exact e
  refine ⟨⟨fun b u e => ?_, A.nd, by simp [A.len], A.here, fun j b ob e1 e2 => ?_⟩, ⟨s1, Pre.refl _, fun b u h n => h, fun b h _ n g => ?_, fun _ m => .inl m⟩⟩
  · by_cases hb : b = a
    · subst hb; rw [upd_same] at e; rw [← e]; exact ha
    · rw [upd_ne hb] at e; exact A.sub _ _ e
  · rw [List.getElem?_set] at e2
    by_cases hj : k = j
    · subst hj
      rw [if_pos rfl] at e2
      split at e2
      · cases e2; trivial
      · cases e2
    · rw [if_neg hj] at e2
      have hne : b ≠ a := fun z => by
        subst z
        exact hj (nd_ix A.nd hk e1)
      exact OkO.mono s1 (Pre.refl _) (fun _ g => by rw [upd_ne hne]; exact g) rfl (A.ok j b ob e1 e2)
  · have z : b ≠ a := fun z => n (by rw [z]; exact ma)
    rw [upd_ne z]; exact g
theorem As.get {k : Nat} {m : MO} (A : As K G H al μ) (hm : μ[k]? = some m) : ∃ a, al[k]? = some a ∧ OkO K G H al a m := by
  have hk : k < al.length := by rw [A.len]; exact (List.getElem?_eq_some_iff.mp hm).1
  exact ⟨al[k], List.getElem?_eq_getElem hk, A.ok k _ m (List.getElem?_eq_getElem hk) hm⟩
end
end Dl
set_option Elab.async false
set_option linter.all false
set_option maxRecDepth 100000
namespace Dl
open PySem L2
/-! ### judgements over data -/
structure Bs where
  G : Hp
  H : Hp
  al : List Addr
abbrev Bs.le (B : Bs) (G H : Hp) (al : List Addr) : Prop := Nx B.G B.H B.al G H al
section
variable (K : PySem.W.Frag)
def KV (G H : Hp) (al : List Addr) (P : D → Mu → Prop) (Q : VK) : Prop := ∀ v d μ' G' H' al', Nx G H al G' H' al' → As K G' H' al' μ' → Rp K G' al' v d → P d μ' → Q v H'
def KT (G H : Hp) (al : List Addr) (P : Bool → Mu → Prop) (Q : Bool → Hp → Prop) : Prop := ∀ b μ' G' H' al', Nx G H al G' H' al' → As K G' H' al' μ' → P b μ' → Q b H'
def KA (G H : Hp) (al : List Addr) (P : List D → Mu → Prop) (Q : List V → Hp → Prop) : Prop := ∀ vs ds μ' G' H' al', Nx G H al G' H' al' → As K G' H' al' μ' → Rps K G' al' vs ds → P ds μ' → Q vs H'
def KS (G H : Hp) (al : List Addr) (P : En → Mu → Prop) (Q : St → Hp → Prop) : Prop := ∀ σ' ρ' μ' G' H' al', Nx G H al G' H' al' → RpS K G' al' σ' ρ' → As K G' H' al' μ' → P ρ' μ' → Q σ' H'
def DE (B : Bs) (te : TE) (ρ : En) (μ : Mu) (P : D → Mu → Prop) : Prop := ∀ σ G H al, B.le G H al → RpS K G al σ ρ → As K G H al μ → ∀ Q, KV K G H al P Q → te σ H Q
def DT (B : Bs) (tt : TT) (ρ : En) (μ : Mu) (P : Bool → Mu → Prop) : Prop := ∀ σ G H al, B.le G H al → RpS K G al σ ρ → As K G H al μ → ∀ Q, KT K G H al P Q → tt σ H Q
def DA (B : Bs) (ta : TA) (ρ : En) (μ : Mu) (P : List D → Mu → Prop) : Prop := ∀ σ G H al, B.le G H al → RpS K G al σ ρ → As K G H al μ → ∀ Q, KA K G H al P Q → ta σ H Q
/-- a part of a slice -/
def DO (B : Bs) (to : TO) (ρ : En) (μ : Mu) (P : Option Int → Mu → Prop) : Prop := ∀ σ G H al, B.le G H al → RpS K G al σ ρ → As K G H al μ → ∀ Q : Option Int → Hp → Prop, (∀ o μ' G' H' al', Nx G H al G' H' al' → As K G' H' al' μ' → P o μ' → Q o H') → to σ H Q
def DG (B : Bs) (g : TG) (d : D) (ρ : En) (μ : Mu) (P : En → Mu → Prop) : Prop := ∀ σ G H al v, B.le G H al → RpS K G al σ ρ → As K G H al μ → Rp K G al v d → ∀ Q, KS K G H al P Q → g v σ H Q
def DGs (B : Bs) (g : TGs) (ds : List D) (ρ : En) (μ : Mu) (P : En → Mu → Prop) : Prop := ∀ σ G H al vs, B.le G H al → RpS K G al σ ρ → As K G H al μ → Rps K G al vs ds → ∀ Q, KS K G H al P Q → g vs σ H Q
/-- operations on values -/
def RO (r : R2) (x y : D) (μ : Mu) (P : D → Mu → Prop) : Prop := ∀ G H al v w, As K G H al μ → Rp K G al v x → Rp K G al w y → ∀ Q, KV K G H al P Q → r v w H Q
def RU (r : V → Hp → VK → Prop) (x : D) (μ : Mu) (P : D → Mu → Prop) : Prop := ∀ G H al v, As K G H al μ → Rp K G al v x → ∀ Q, KV K G H al P Q → r v H Q
def RC (r : List V → Hp → VK → Prop) (xs : List D) (μ : Mu) (P : D → Mu → Prop) : Prop := ∀ G H al vs, As K G H al μ → Rps K G al vs xs → ∀ Q, KV K G H al P Q → r vs H Q
def RM (r : V → List V → Hp → VK → Prop) (x : D) (xs : List D) (μ : Mu) (P : D → Mu → Prop) : Prop := ∀ G H al v vs, As K G H al μ → Rp K G al v x → Rps K G al vs xs → ∀ Q, KV K G H al P Q → r v vs H Q
def RS (r : V → Option Int → Option Int → Hp → VK → Prop) (x : D) (lo hi : Option Int) (μ : Mu) (P : D → Mu → Prop) : Prop := ∀ G H al v, As K G H al μ → Rp K G al v x → ∀ Q, KV K G H al P Q → r v lo hi H Q
def RSet (r : V → V → V → Hp → (Hp → Prop) → Prop) (o i d : D) (μ : Mu) (P : Mu → Prop) : Prop := ∀ G H al v w u, As K G H al μ → Rp K G al v o → Rp K G al w i → Rp K G al u d → ∀ Q : Hp → Prop, (∀ μ' G' H' al', Nx G H al G' H' al' → As K G' H' al' μ' → P μ' → Q H') → r v w u H Q
end
structure DEnds where
  nx : En → Mu → Prop
  rt : D → Mu → Prop
  bk : En → Mu → Prop := fun _ _ => False
  ct : En → Mu → Prop := fun _ _ => False
structure Ag (K : PySem.W.Frag) (G H : Hp) (al : List Addr) (P : DEnds) (De : Ends) : Prop where
  nx : KS K G H al P.nx De.nx
  rt : KV K G H al P.rt De.rt
  bk : KS K G H al P.bk De.bk
  ct : KS K G H al P.ct De.ct
def DS (K : PySem.W.Frag) (B : Bs) (t : TS) (ρ : En) (μ : Mu) (P : DEnds) : Prop := ∀ σ G H al, B.le G H al → RpS K G al σ ρ → As K G H al μ → ∀ De, Ag K G H al P De → t De σ H
section
variable {K : PySem.W.Frag} {B : Bs} {G H G1 H1 : Hp} {al al1 : List Addr}
theorem KV.nx {P : D → Mu → Prop} {Q : VK} (n : Nx G H al G1 H1 al1) (h : KV K G H al P Q) : KV K G1 H1 al1 P Q := fun v d μ' G' H' al' n' A r p => h v d μ' G' H' al' (n.trans n') A r p
theorem KT.nx {P : Bool → Mu → Prop} {Q : Bool → Hp → Prop} (n : Nx G H al G1 H1 al1) (h : KT K G H al P Q) : KT K G1 H1 al1 P Q := fun v μ' G' H' al' n' A p => h v μ' G' H' al' (n.trans n') A p
theorem KA.nx {P : List D → Mu → Prop} {Q : List V → Hp → Prop} (n : Nx G H al G1 H1 al1) (h : KA K G H al P Q) : KA K G1 H1 al1 P Q := fun v d μ' G' H' al' n' A r p => h v d μ' G' H' al' (n.trans n') A r p
theorem KS.nx {P : En → Mu → Prop} {Q : St → Hp → Prop} (n : Nx G H al G1 H1 al1) (h : KS K G H al P Q) : KS K G1 H1 al1 P Q := fun v d μ' G' H' al' n' A r p => h v d μ' G' H' al' (n.trans n') A r p
theorem Ag.nx' {P : DEnds} {De : Ends} (n : Nx G H al G1 H1 al1) (h : Ag K G H al P De) : Ag K G1 H1 al1 P De := ⟨h.nx.nx n, h.rt.nx n, h.bk.nx n, h.ct.nx n⟩
theorem KV.now {P : D → Mu → Prop} {Q : VK} {v : V} {d : D} {μ : Mu} (h : KV K G H al P Q) (A : As K G H al μ) (r : Rp K G al v d) (p : P d μ) : Q v H := h v d μ G H al .refl A r p
variable {ρ : En} {μ : Mu} {P : D → Mu → Prop} {ta tb te tc : TE}
/-! ### expressions -/
theorem DE.imp {P' : D → Mu → Prop} (h : DE K B te ρ μ P') (i : ∀ d μ', P' d μ' → P d μ') : DE K B te ρ μ P := fun σ G H al hB hσ hA Q hQ => h σ G H al hB hσ hA Q fun v d μ' G' H' al' n A r p => hQ v d μ' G' H' al' n A r (i d μ' p)
theorem de_var {i : Nat} {d : D} (e : ρ[i]? = some (some d)) (h : P d μ) : DE K B (tVar i) ρ μ P := fun σ G H al hB hσ hA Q hQ => by
  obtain ⟨v, e1, r⟩ := hσ.2 i d e
  exact ⟨v, e1, hQ.now hA r h⟩
theorem de_int {i : Int} (h : P (.int i) μ) : DE K B (tC (.int i)) ρ μ P := fun σ G H al hB hσ hA Q hQ => hQ.now hA (.int i) h
theorem de_bl {i : Bool} (h : P (.bl i) μ) : DE K B (tC (.bl i)) ρ μ P := fun σ G H al hB hσ hA Q hQ => hQ.now hA (.bl i) h
theorem de_non (h : P .non μ) : DE K B (tC .non) ρ μ P := fun σ G H al hB hσ hA Q hQ => hQ.now hA .non h
theorem de_str {x : Str} (h : P (.str x) μ) : DE K B (tC (.str x)) ρ μ P := fun σ G H al hB hσ hA Q hQ => hQ.now hA (.str x) h
theorem de_ty {x : String} (h : P (.ty x) μ) : DE K B (tC (.ty x)) ρ μ P := fun σ G H al hB hσ hA Q hQ => hQ.now hA (.ty x) h
theorem de_loc {x : Addr} (h : P (.loc x) μ) : DE K B (tC (.ref x)) ρ μ P := fun σ G H al hB hσ hA Q hQ => hQ.now hA (.loc x) h
theorem de_op {r : R2} (h : DE K B ta ρ μ fun x μ1 => DE K B tb ρ μ1 fun y μ2 => RO K r x y μ2 P) : DE K B (tOp r ta tb) ρ μ P := fun σ G H al hB hσ hA Q hQ =>
  h σ G H al hB hσ hA _ fun v d μ1 G1 H1 al1 n1 A1 r1 p1 => p1 σ G1 H1 al1 (hB.trans n1) (hσ.nx n1) A1 _ fun w e μ2 G2 H2 al2 n2 A2 r2 p2 => p2 G2 H2 al2 v w A2 (r1.nx n2) r2 Q (hQ.nx (n1.trans n2))
theorem de_un {r : V → Hp → VK → Prop} (h : DE K B ta ρ μ fun x μ1 => RU K r x μ1 P) : DE K B (tUn r ta) ρ μ P := fun σ G H al hB hσ hA Q hQ =>
  h σ G H al hB hσ hA _ fun v d μ1 G1 H1 al1 n1 A1 r1 p1 => p1 G1 H1 al1 v A1 r1 Q (hQ.nx n1)
theorem de_chain {r r' : R2} (h : DE K B ta ρ μ fun x μ1 => DE K B tb ρ μ1 fun y μ2 => RO K r x y μ2 fun z μ3 => ∃ b, z = .bl b ∧ (b = true → DE K B tc ρ μ3 fun w μ4 => RO K r' y w μ4 P) ∧ (b = false → P (.bl false) μ3)) :
    DE K B (tChain r r' ta tb tc) ρ μ P := fun σ G H al hB hσ hA Q hQ =>
  h σ G H al hB hσ hA _ fun v d μ1 G1 H1 al1 n1 A1 r1 p1 => p1 σ G1 H1 al1 (hB.trans n1) (hσ.nx n1) A1 _ fun w e μ2 G2 H2 al2 n2 A2 r2 p2 =>
    p2 G2 H2 al2 v w A2 (r1.nx n2) r2 _ fun z dz μ3 G3 H3 al3 n3 A3 r3 p3 => by
      obtain ⟨b, rfl, pt, pf⟩ := p3
      cases r3
      refine ⟨b, rfl, ?_⟩
      cases b with
      | true =>
        rw [if_pos rfl]
        exact pt rfl σ G3 H3 al3 ((hB.trans n1).trans (n2.trans n3)) (((hσ.nx n1).nx n2).nx n3) A3 _ fun u du μ4 G4 H4 al4 n4 A4 r4 p4 => p4 G4 H4 al4 w u A4 ((r2.nx n3).nx n4) r4 Q (hQ.nx (((n1.trans n2).trans n3).trans n4))
      | false =>
        rw [if_neg (by simp)]
        exact hQ (.bl false) _ μ3 G3 H3 al3 ((n1.trans n2).trans n3) A3 (.bl _) (pf rfl)
theorem de_andV (h : DE K B ta ρ μ fun x μ1 => ∃ b, x = .bl b ∧ (b = true → DE K B tb ρ μ1 P) ∧ (b = false → P (.bl false) μ1)) : DE K B (tAndV ta tb) ρ μ P := fun σ G H al hB hσ hA Q hQ =>
  h σ G H al hB hσ hA _ fun v d μ1 G1 H1 al1 n1 A1 r1 p1 => by
    obtain ⟨b, rfl, pt, pf⟩ := p1
    cases r1
    refine ⟨b, rfl, ?_⟩
    cases b with
    | true => rw [if_pos rfl]; exact pt rfl σ G1 H1 al1 (hB.trans n1) (hσ.nx n1) A1 Q (hQ.nx n1)
    | false => rw [if_neg (by simp)]; exact hQ (.bl false) _ μ1 G1 H1 al1 n1 A1 (.bl _) (pf rfl)
theorem de_orV (h : DE K B ta ρ μ fun x μ1 => ∃ b, x = .bl b ∧ (b = false → DE K B tb ρ μ1 P) ∧ (b = true → P (.bl true) μ1)) : DE K B (tOrV ta tb) ρ μ P := fun σ G H al hB hσ hA Q hQ =>
  h σ G H al hB hσ hA _ fun v d μ1 G1 H1 al1 n1 A1 r1 p1 => by
    obtain ⟨b, rfl, pt, pf⟩ := p1
    cases r1
    refine ⟨b, rfl, ?_⟩
    cases b with
    | false => rw [if_neg (by simp)]; exact pt rfl σ G1 H1 al1 (hB.trans n1) (hσ.nx n1) A1 Q (hQ.nx n1)
    | true => rw [if_pos rfl]; exact hQ (.bl true) _ μ1 G1 H1 al1 n1 A1 (.bl _) (pf rfl)
theorem de_notV (h : DE K B ta ρ μ fun x μ1 => ∃ b, x = .bl b ∧ P (.bl (!b)) μ1) : DE K B (tNotV ta) ρ μ P := fun σ G H al hB hσ hA Q hQ =>
  h σ G H al hB hσ hA _ fun v d μ1 G1 H1 al1 n1 A1 r1 p1 => by
    obtain ⟨b, rfl, pt⟩ := p1
    cases r1
    exact ⟨b, rfl, hQ _ _ μ1 G1 H1 al1 n1 A1 (.bl _) pt⟩
theorem de_if {t : TT} (h : DT K B t ρ μ fun b μ1 => (b = true → DE K B ta ρ μ1 P) ∧ (b = false → DE K B tb ρ μ1 P)) : DE K B (tIf t ta tb) ρ μ P := fun σ G H al hB hσ hA Q hQ =>
  h σ G H al hB hσ hA _ fun b μ1 G1 H1 al1 n1 A1 p1 => by
    cases b with
    | true => rw [if_pos rfl]; exact p1.1 rfl σ G1 H1 al1 (hB.trans n1) (hσ.nx n1) A1 Q (hQ.nx n1)
    | false => rw [if_neg (by simp)]; exact p1.2 rfl σ G1 H1 al1 (hB.trans n1) (hσ.nx n1) A1 Q (hQ.nx n1)
theorem de_isN (h : DE K B ta ρ μ fun x μ1 => ∃ b, (b = true ↔ x = .non) ∧ P (.bl b) μ1) : DE K B (tIsN ta) ρ μ P := fun σ G H al hB hσ hA Q hQ =>
  h σ G H al hB hσ hA _ fun v d μ1 G1 H1 al1 n1 A1 r1 p1 => by
    obtain ⟨b, hb, p⟩ := p1
    have e : decide (v = .non) = b := by
      cases d with
      | non => cases r1; simp at hb; simp [hb]
      | _ => cases r1 <;> simp at hb <;> simp [hb]
    rw [e]
    exact hQ _ _ μ1 G1 H1 al1 n1 A1 (.bl _) p
theorem de_notN (h : DE K B ta ρ μ fun x μ1 => ∃ b, (b = true ↔ x = .non) ∧ P (.bl (!b)) μ1) : DE K B (tNotN ta) ρ μ P := fun σ G H al hB hσ hA Q hQ =>
  h σ G H al hB hσ hA _ fun v d μ1 G1 H1 al1 n1 A1 r1 p1 => by
    obtain ⟨b, hb, p⟩ := p1
    have e : decide (v = .non) = b := by
      cases d with
      | non => cases r1; simp at hb; simp [hb]
      | _ => cases r1 <;> simp at hb <;> simp [hb]
    rw [e]
    exact hQ _ _ μ1 G1 H1 al1 n1 A1 (.bl _) p
/-! tests -/
variable {PT' : Bool → Mu → Prop} {t u : TT}
theorem dt_test (h : DE K B te ρ μ fun x μ1 => ∃ b, x = .bl b ∧ PT' b μ1) : DT K B (tTest te) ρ μ PT' := fun σ G H al hB hσ hA Q hQ =>
  h σ G H al hB hσ hA _ fun v d μ1 G1 H1 al1 n1 A1 r1 p1 => by
    obtain ⟨b, rfl, p⟩ := p1
    cases r1
    exact ⟨b, rfl, hQ b μ1 G1 H1 al1 n1 A1 p⟩
theorem dt_B (h : DE K B te ρ μ fun x μ1 => ∃ b, x = .bl b ∧ PT' b μ1) : DT K B (tB te) ρ μ PT' := dt_test h
theorem dt_and (h : DT K B t ρ μ fun b μ1 => (b = true → DT K B u ρ μ1 PT') ∧ (b = false → PT' false μ1)) : DT K B (tAnd t u) ρ μ PT' := fun σ G H al hB hσ hA Q hQ =>
  h σ G H al hB hσ hA _ fun b μ1 G1 H1 al1 n1 A1 p1 => by
    cases b with
    | true => rw [if_pos rfl]; exact p1.1 rfl σ G1 H1 al1 (hB.trans n1) (hσ.nx n1) A1 Q (hQ.nx n1)
    | false => rw [if_neg (by simp)]; exact hQ false μ1 G1 H1 al1 n1 A1 (p1.2 rfl)
theorem dt_or (h : DT K B t ρ μ fun b μ1 => (b = false → DT K B u ρ μ1 PT') ∧ (b = true → PT' true μ1)) : DT K B (tOr t u) ρ μ PT' := fun σ G H al hB hσ hA Q hQ =>
  h σ G H al hB hσ hA _ fun b μ1 G1 H1 al1 n1 A1 p1 => by
    cases b with
    | false => rw [if_neg (by simp)]; exact p1.1 rfl σ G1 H1 al1 (hB.trans n1) (hσ.nx n1) A1 Q (hQ.nx n1)
    | true => rw [if_pos rfl]; exact hQ true μ1 G1 H1 al1 n1 A1 (p1.2 rfl)
theorem dt_not (h : DT K B t ρ μ fun b μ1 => PT' (!b) μ1) : DT K B (tNot t) ρ μ PT' := fun σ G H al hB hσ hA Q hQ =>
  h σ G H al hB hσ hA _ fun b μ1 G1 H1 al1 n1 A1 p1 => hQ (!b) μ1 G1 H1 al1 n1 A1 p1
/-! arguments -/
variable {PA' : List D → Mu → Prop} {tr : TA}
theorem da_nil (h : PA' [] μ) : DA K B tNil ρ μ PA' := fun σ G H al hB hσ hA Q hQ => hQ [] [] μ G H al .refl hA .nil h
theorem da_cons (h : DE K B ta ρ μ fun x μ1 => DA K B tr ρ μ1 fun xs μ2 => PA' (x :: xs) μ2) : DA K B (tCons ta tr) ρ μ PA' := fun σ G H al hB hσ hA Q hQ =>
  h σ G H al hB hσ hA _ fun v d μ1 G1 H1 al1 n1 A1 r1 p1 => p1 σ G1 H1 al1 (hB.trans n1) (hσ.nx n1) A1 _ fun vs ds μ2 G2 H2 al2 n2 A2 r2 p2 => hQ (v :: vs) (d :: ds) μ2 G2 H2 al2 (n1.trans n2) A2 (.cons (r1.nx n2) r2) p2
theorem de_tup {ts : TA} (h : DA K B ts ρ μ fun xs μ1 => xs.length ≤ 100000 ∧ P (.tup xs) μ1) : DE K B (tTup ts) ρ μ P := fun σ G H al hB hσ hA Q hQ =>
  h σ G H al hB hσ hA _ fun vs ds μ1 G1 H1 al1 n1 A1 r1 p1 => by
    refine ⟨by rw [r1.length]; exact Nat.le_trans p1.1 (by decide), fun p hp => ?_⟩
    obtain ⟨A2, n2⟩ := A1.frz (o := .tup vs) hp
    exact hQ _ _ μ1 _ _ al1 (n1.trans n2) A2 (.tup upd_same (r1.nx n2)) p1.2
/-- a list, frozen at once -/
theorem de_lst {ts : TA} (h : DA K B ts ρ μ fun xs μ1 => xs.length ≤ 100000 ∧ P (.lst xs) μ1) : DE K B (tLst ts) ρ μ P := fun σ G H al hB hσ hA Q hQ =>
  h σ G H al hB hσ hA _ fun vs ds μ1 G1 H1 al1 n1 A1 r1 p1 => by
    refine ⟨by rw [r1.length]; exact Nat.le_trans p1.1 (by decide), fun p hp => ?_⟩
    obtain ⟨A2, n2⟩ := A1.frz (o := .lst vs) hp
    exact hQ _ _ μ1 _ _ al1 (n1.trans n2) A2 (.lst upd_same (r1.nx n2)) p1.2
/-- a list that will change -/
theorem de_lstO {ts : TA} (h : DA K B ts ρ μ fun xs μ1 => xs.length ≤ 100000 ∧ P (.own μ1.length) (μ1 ++ [.lst xs])) : DE K B (tLst ts) ρ μ P := fun σ G H al hB hσ hA Q hQ =>
  h σ G H al hB hσ hA _ fun vs ds μ1 G1 H1 al1 n1 A1 r1 p1 => by
    refine ⟨by rw [r1.length]; exact Nat.le_trans p1.1 (by decide), fun p hp => ?_⟩
    obtain ⟨A2, n2⟩ := A1.own (o := .lst vs) (m := .lst ds) hp ⟨A1.sub.free hp, vs, upd_same, r1.mono (Same.refl _) ⟨[p], rfl⟩⟩
    exact hQ _ _ _ _ _ _ (n1.trans n2) A2 (.own (by rw [← A1.len]; simp)) p1.2
/-- .. is frozen as it is handed on -/
theorem de_frz {te : TE} (h : DE K B te ρ μ fun x μ1 => ∃ k ds, x = .own k ∧ μ1[k]? = some (.lst ds) ∧ P (.lst ds) (μ1.set k .dead)) : DE K B te ρ μ P := fun σ G H al hB hσ hA Q hQ =>
  h σ G H al hB hσ hA _ fun v d μ1 G1 H1 al1 n1 A1 r1 p1 => by
    obtain ⟨k, ds, rfl, hk, p⟩ := p1
    obtain ⟨a, ha, ok⟩ := A1.get hk
    cases r1 with
    | own e =>
      rw [ha] at e
      cases e
      obtain ⟨ga, vs, hv, rv⟩ := ok
      obtain ⟨A2, n2⟩ := A1.freeze ha hv ga
      exact hQ _ _ _ _ _ _ (n1.trans n2) A2 (.lst upd_same (rv.nx n2)) p
theorem de_cb {r : List V → Hp → VK → Prop} {ts : TA} (h : DA K B ts ρ μ fun xs μ1 => RC K r xs μ1 P) : DE K B (tCB r ts) ρ μ P := fun σ G H al hB hσ hA Q hQ =>
  h σ G H al hB hσ hA _ fun vs ds μ1 G1 H1 al1 n1 A1 r1 p1 => p1 G1 H1 al1 vs A1 r1 Q (hQ.nx n1)
theorem do_no {PO : Option Int → Mu → Prop} (h : PO none μ) : DO K B tNoPart ρ μ PO := fun σ G H al hB hσ hA Q hQ => hQ none μ G H al .refl hA h
theorem do_part {PO : Option Int → Mu → Prop} (h : DE K B te ρ μ fun x μ1 => ∃ i, x = .int i ∧ PO (some i) μ1) : DO K B (tPart te) ρ μ PO := fun σ G H al hB hσ hA Q hQ =>
  h σ G H al hB hσ hA _ fun v d μ1 G1 H1 al1 n1 A1 r1 p1 => by
    obtain ⟨i, rfl, p⟩ := p1
    cases r1
    exact ⟨i, rfl, hQ _ μ1 G1 H1 al1 n1 A1 p⟩
theorem de_sl {r : V → Option Int → Option Int → Hp → VK → Prop} {tl th : TO} (h : DE K B te ρ μ fun x μ1 => DO K B tl ρ μ1 fun lo μ2 => DO K B th ρ μ2 fun hi μ3 => RS K r x lo hi μ3 P) : DE K B (tSl r te tl th) ρ μ P := fun σ G H al hB hσ hA Q hQ =>
  h σ G H al hB hσ hA _ fun v d μ1 G1 H1 al1 n1 A1 r1 p1 => p1 σ G1 H1 al1 (hB.trans n1) (hσ.nx n1) A1 _ fun lo μ2 G2 H2 al2 n2 A2 p2 =>
    p2 σ G2 H2 al2 ((hB.trans n1).trans n2) ((hσ.nx n1).nx n2) A2 _ fun hi μ3 G3 H3 al3 n3 A3 p3 => p3 G3 H3 al3 v A3 ((r1.nx n2).nx n3) Q (hQ.nx ((n1.trans n2).trans n3))
/-! fields, methods of built-in types -/
theorem de_fld {f : Str} (h : DE K B te ρ μ fun x μ1 => ∃ C gs d, (x = .obj C gs ∨ ∃ k, x = .own k ∧ μ1[k]? = some (.ins C gs)) ∧ Cls K C ∧ NoAttr K C f ∧ gs.lookup f = some d ∧ P d μ1) : DE K B (tFld K te f) ρ μ P := fun σ G H al hB hσ hA Q hQ =>
  h σ G H al hB hσ hA _ fun v d μ1 G1 H1 al1 n1 A1 r1 p1 => by
    obtain ⟨C, gs, z, hx, cl, na, lk, p⟩ := p1
    rcases hx with rfl | ⟨k, rfl, hk⟩
    · cases r1 with
      | obj e rf =>
        obtain ⟨w, lw, rw'⟩ := rf.look lk
        exact ⟨_, C, _, _, w, rfl, A1.sub _ _ e, cl, na, lw, hQ _ _ μ1 _ _ _ n1 A1 rw' p⟩
    · obtain ⟨a, ha, ok⟩ := A1.get hk
      cases r1 with
      | own e =>
        rw [ha] at e
        cases e
        obtain ⟨ga, dx, fs, hv, rf⟩ := ok
        obtain ⟨w, lw, rw'⟩ := rf.look lk
        exact ⟨_, C, _, _, w, rfl, hv, cl, na, lw, hQ _ _ μ1 _ _ _ n1 A1 rw' p⟩
theorem de_bm {T : String} {r : V → List V → Hp → VK → Prop} {ts : TA} (h : DE K B te ρ μ fun x μ1 => (∀ G H al v, As K G H al μ1 → Rp K G al v x → tyV K T v H) ∧ DA K B ts ρ μ1 fun xs μ2 => RM K r x xs μ2 P) : DE K B (tBM K T r te ts) ρ μ P := fun σ G H al hB hσ hA Q hQ =>
  h σ G H al hB hσ hA _ fun v d μ1 G1 H1 al1 n1 A1 r1 p1 => ⟨p1.1 G1 H1 al1 v A1 r1, p1.2 σ G1 H1 al1 (hB.trans n1) (hσ.nx n1) A1 _ fun vs ds μ2 G2 H2 al2 n2 A2 r2 p2 => p2 G2 H2 al2 v vs A2 (r1.nx n2) r2 Q (hQ.nx (n1.trans n2))⟩
theorem de_bm0 {T : String} {r : V → List V → Hp → VK → Prop} (h : DE K B te ρ μ fun x μ1 => (∀ G H al v, As K G H al μ1 → Rp K G al v x → tyV K T v H) ∧ RM K r x [] μ1 P) : DE K B (tBM0 K T r te) ρ μ P := fun σ G H al hB hσ hA Q hQ =>
  h σ G H al hB hσ hA _ fun v d μ1 G1 H1 al1 n1 A1 r1 p1 => ⟨p1.1 G1 H1 al1 v A1 r1, p1.2 G1 H1 al1 v [] A1 r1 .nil Q (hQ.nx n1)⟩
end
/-! ### targets, statements -/
section
variable {K : PySem.W.Frag} {B : Bs} {ρ : En} {μ : Mu} {P : DEnds} {te ta tb : TE} {t u : TS} {PG' : En → Mu → Prop}
theorem dg_name {i : Nat} {d : D} (h : PG' (ρ.set i (some d)) μ) : DG K B (gName i) d ρ μ PG' := fun σ G H al v hB hσ hA r Q hQ => hQ _ _ μ G H al .refl (hσ.set i r) hA h
theorem dgs_nil (h : PG' ρ μ) : DGs K B gNil [] ρ μ PG' := fun σ G H al vs hB hσ hA r Q hQ => by
  cases r
  exact ⟨rfl, hQ _ _ μ G H al .refl hσ hA h⟩
theorem dgs_cons {g : TG} {gs : TGs} {d : D} {ds : List D} (h : DG K B g d ρ μ fun ρ1 μ1 => DGs K B gs ds ρ1 μ1 PG') : DGs K B (gCons g gs) (d :: ds) ρ μ PG' := fun σ G H al vs hB hσ hA r Q hQ => by
  cases r with
  | cons r1 rs => exact ⟨_, _, rfl, h σ G H al _ hB hσ hA r1 _ fun σ1 ρ1 μ1 G1 H1 al1 n1 hσ1 A1 p1 => p1 σ1 G1 H1 al1 _ (hB.trans n1) hσ1 A1 (rs.nx n1) Q (hQ.nx n1)⟩
theorem dg_tup {n : Nat} {gs : TGs} {ds : List D} (hn : ds.length = n) (h : DGs K B gs ds ρ μ PG') : DG K B (gTup K n gs) (.tup ds) ρ μ PG' := fun σ G H al v hB hσ hA r Q hQ => by
  cases r with
  | tup e rs => exact ⟨_, _, rfl, .inl (.inl (hA.sub _ _ e)), rs.length.trans hn, h σ G H al _ hB hσ hA rs Q hQ⟩
theorem dg_sub {to ti : TE} {r : TSet} {d : D} (h : DE K B to ρ μ fun o μ1 => DE K B ti ρ μ1 fun i μ2 => RSet K r o i d μ2 fun μ3 => PG' ρ μ3) : DG K B (gSub to ti r) d ρ μ PG' := fun σ G H al v hB hσ hA rv Q hQ =>
  h σ G H al hB hσ hA _ fun vo o μ1 G1 H1 al1 n1 A1 r1 p1 => p1 σ G1 H1 al1 (hB.trans n1) (hσ.nx n1) A1 _ fun vi i μ2 G2 H2 al2 n2 A2 r2 p2 =>
    p2 G2 H2 al2 vo vi v A2 (r1.nx n2) r2 ((rv.nx n1).nx n2) _ fun μ3 G3 H3 al3 n3 A3 p3 => hQ _ _ μ3 G3 H3 al3 ((n1.trans n2).trans n3) (((hσ.nx n1).nx n2).nx n3) A3 p3
theorem ds_next (h : P.nx ρ μ) : DS K B tNext ρ μ P := fun σ G H al hB hσ hA De hD => hD.nx _ _ μ G H al .refl hσ hA h
theorem ds_seq (h : DS K B t ρ μ { P with nx := fun ρ1 μ1 => DS K B u ρ1 μ1 P }) : DS K B (tSeq t u) ρ μ P := fun σ G H al hB hσ hA De hD =>
  h σ G H al hB hσ hA _ ⟨fun σ1 ρ1 μ1 G1 H1 al1 n1 hσ1 A1 p1 => p1 σ1 G1 H1 al1 (hB.trans n1) hσ1 A1 De (hD.nx' n1), hD.rt, hD.bk, hD.ct⟩
/-- a statement behind which the ways meet again -/
theorem ds_cut {M : En → Mu → Prop} (h : DS K B t ρ μ { P with nx := M }) (k : ∀ ρ1 μ1, M ρ1 μ1 → DS K B u ρ1 μ1 P) : DS K B (tSeq t u) ρ μ P := fun σ G H al hB hσ hA De hD =>
  h σ G H al hB hσ hA _ ⟨fun σ1 ρ1 μ1 G1 H1 al1 n1 hσ1 A1 p1 => k ρ1 μ1 p1 σ1 G1 H1 al1 (hB.trans n1) hσ1 A1 De (hD.nx' n1), hD.rt, hD.bk, hD.ct⟩
theorem ds_asg {g : TG} (h : DE K B te ρ μ fun d μ1 => DG K B g d ρ μ1 P.nx) : DS K B (tAsg te g) ρ μ P := fun σ G H al hB hσ hA De hD =>
  h σ G H al hB hσ hA _ fun v d μ1 G1 H1 al1 n1 A1 r1 p1 => p1 σ G1 H1 al1 v (hB.trans n1) (hσ.nx n1) A1 r1 _ (hD.nx.nx n1)
theorem ds_set {i : Nat} (h : DE K B te ρ μ fun d μ1 => P.nx (ρ.set i (some d)) μ1) : DS K B (tAsg te (gName i)) ρ μ P := ds_asg (h.imp fun d μ1 p => dg_name p)
theorem ds_drop (h : DE K B te ρ μ fun d μ1 => P.nx ρ μ1) : DS K B (tDrop te) ρ μ P := fun σ G H al hB hσ hA De hD =>
  h σ G H al hB hσ hA _ fun v d μ1 G1 H1 al1 n1 A1 r1 p1 => hD.nx _ _ μ1 G1 H1 al1 n1 (hσ.nx n1) A1 p1
theorem ds_ret (h : DE K B te ρ μ P.rt) : DS K B (tRet te) ρ μ P := fun σ G H al hB hσ hA De hD => h σ G H al hB hσ hA _ hD.rt
theorem ds_retN (h : P.rt .non μ) : DS K B tRetN ρ μ P := fun σ G H al hB hσ hA De hD => hD.rt _ _ μ G H al .refl hA .non h
theorem ds_if {c : TT} (h : DT K B c ρ μ fun b μ1 => (b = true → DS K B t ρ μ1 P) ∧ (b = false → DS K B u ρ μ1 P)) : DS K B (tIfS c t u) ρ μ P := fun σ G H al hB hσ hA De hD =>
  h σ G H al hB hσ hA _ fun b μ1 G1 H1 al1 n1 A1 p1 => by
    cases b with
    | true => rw [if_pos rfl]; exact p1.1 rfl σ G1 H1 al1 (hB.trans n1) (hσ.nx n1) A1 De (hD.nx' n1)
    | false => rw [if_neg (by simp)]; exact p1.2 rfl σ G1 H1 al1 (hB.trans n1) (hσ.nx n1) A1 De (hD.nx' n1)
theorem ds_par {i j : Nat} {ts : TA} (h : DA K B ts ρ μ fun ds μ1 => ∃ x y, ds = [x, y] ∧ P.nx ((ρ.set i (some x)).set j (some y)) μ1) : DS K B (tPar i j ts) ρ μ P := fun σ G H al hB hσ hA De hD =>
  h σ G H al hB hσ hA _ fun vs ds μ1 G1 H1 al1 n1 A1 r1 p1 => by
    obtain ⟨x, y, rfl, p⟩ := p1
    cases r1 with
    | cons rx r2 => cases r2 with
      | cons ry r3 =>
        cases r3
        exact ⟨_, _, rfl, hD.nx _ _ μ1 G1 H1 al1 n1 (((hσ.nx n1).set i rx).set j ry) A1 p⟩
theorem ds_fld {f : Str} (h : DE K B tb ρ μ fun y μ1 => DE K B ta ρ μ1 fun x μ2 => ∃ k C gs, x = .own k ∧ μ2[k]? = some (.ins C gs) ∧ Cls K C ∧ NoAttr K C f ∧ gs.length < 1000 ∧ P.nx ρ (μ2.set k (.ins C (putD f y gs)))) : DS K B (sFld K ta tb f) ρ μ P := fun σ G H al hB hσ hA De hD =>
  h σ G H al hB hσ hA _ fun vy y μ1 G1 H1 al1 n1 A1 r1 p1 => p1 σ G1 H1 al1 (hB.trans n1) (hσ.nx n1) A1 _ fun vx x μ2 G2 H2 al2 n2 A2 r2 p2 => by
    obtain ⟨k, C, gs, rfl, hk, cl, na, hl, p⟩ := p2
    obtain ⟨a, ha, ok⟩ := A2.get hk
    cases r2 with
    | own e =>
      rw [ha] at e
      cases e
      obtain ⟨ga, dx, fs, hv, rf⟩ := ok
      obtain ⟨A3, n3⟩ := A2.put (o := .ins C dx (putF f vy fs)) (m' := .ins C (putD f y gs)) ha hk (by simp) ⟨ga, dx, _, upd_same, rf.put f (r1.nx n2)⟩
      exact ⟨_, C, dx, fs, rfl, hv, cl, na, by rw [rf.length]; exact hl, hD.nx _ _ _ _ _ _ ((n1.trans n2).trans n3) (((hσ.nx n1).nx n2).nx n3) A3 p⟩
theorem ds_fldAug {f : Str} {r : V → V → Hp → VK → Prop} (h : DE K B ta ρ μ fun x μ1 => ∃ k C gs d, x = .own k ∧ μ1[k]? = some (.ins C gs) ∧ Cls K C ∧ NoAttr K C f ∧ gs.lookup f = some d ∧
      DE K B tb ρ μ1 fun y μ2 => RO K r d y μ2 fun z μ3 => ∃ gs', μ3[k]? = some (.ins C gs') ∧ gs'.length < 1000 ∧ P.nx ρ (μ3.set k (.ins C (putD f z gs')))) : DS K B (sFldAug K ta tb r f) ρ μ P := fun σ G H al hB hσ hA De hD =>
  h σ G H al hB hσ hA _ fun vx x μ1 G1 H1 al1 n1 A1 r1 p1 => by
    obtain ⟨k, C, gs, d, rfl, hk, cl, na, lk, p⟩ := p1
    obtain ⟨a, ha, ok⟩ := A1.get hk
    cases r1 with
    | own e =>
      rw [ha] at e
      cases e
      obtain ⟨ga, dx, fs, hv, rf⟩ := ok
      obtain ⟨w, lw, rw'⟩ := rf.look lk
      refine ⟨_, C, dx, fs, w, rfl, hv, cl, na, lw, p σ G1 H1 al1 (hB.trans n1) (hσ.nx n1) A1 _ fun vy y μ2 G2 H2 al2 n2 A2 r2 p2 => p2 G2 H2 al2 w vy A2 (rw'.nx n2) r2 _ fun vz z μ3 G3 H3 al3 n3 A3 r3 p3 => ?_⟩
      obtain ⟨gs', hk3, hl, p⟩ := p3
      obtain ⟨a3, ha3, ok3⟩ := A3.get hk3
      have ea : a3 = _ := Option.some.inj (ha3.symm.trans (n3.p.get (n2.p.get ha)))
      subst ea
      obtain ⟨ga3, dx3, fs3, hv3, rf3⟩ := ok3
      obtain ⟨A4, n4⟩ := A3.put (o := .ins C dx3 (putF f vz fs3)) (m' := .ins C (putD f z gs')) ha3 hk3 (by simp) ⟨ga3, dx3, _, upd_same, rf3.put f r3⟩
      exact ⟨dx3, fs3, hv3, by rw [rf3.length]; exact hl, hD.nx _ _ _ _ _ _ (((n1.trans n2).trans n3).trans n4) ((((hσ.nx n1).nx n2).nx n3).nx n4) A4 p⟩
end
end Dl
set_option Elab.async false
set_option linter.all false
set_option maxRecDepth 100000
namespace Dl
open PySem L2
/-! ### lists that are read -/
inductive Ls (μ : Mu) : D → List D → Prop
  | lst (ds : List D) : Ls μ (.lst ds) ds
  | rdl (ds : List D) : Ls μ (.rdl ds) ds
  | own {k : Nat} {ds : List D} (h : μ[k]? = some (.lst ds)) : Ls μ (.own k) ds
/-- .. and stand in the heap itself -/
inductive Lt (μ : Mu) : D → List D → Prop
  | lst (ds : List D) : Lt μ (.lst ds) ds
  | own {k : Nat} {ds : List D} (h : μ[k]? = some (.lst ds)) : Lt μ (.own k) ds
inductive Ts : D → List D → Prop
  | tup (ds : List D) : Ts (.tup ds) ds
  | rdt (ds : List D) : Ts (.rdt ds) ds
section
variable {K : PySem.W.Frag} {G H : Hp} {al : List Addr} {μ : Mu} {v : V} {d : D} {ds : List D}
theorem Lt.get (h : Lt μ d ds) (A : As K G H al μ) (r : Rp K G al v d) : ∃ a vs, v = .ref a ∧ H a = some (.lst vs) ∧ Rps K G al vs ds := by
  cases h with
  | lst => cases r with | lst e rs => exact ⟨_, _, rfl, A.sub _ _ e, rs⟩
  | own hk =>
    obtain ⟨a, ha, ga, vs, hv, rs⟩ := A.get hk
    cases r with
    | own e => rw [ha] at e; cases e; exact ⟨_, vs, rfl, hv, rs⟩
theorem Ls.get (h : Ls μ d ds) (A : As K G H al μ) (r : Rp K G al v d) : ∃ a vs, v = .ref a ∧ SqL K H a vs ∧ Rps K G al vs ds := by
  cases h with
  | lst => cases r with | lst e rs => exact ⟨_, _, rfl, .inl (.inl (A.sub _ _ e)), rs⟩
  | rdl => cases r with | rdl e rs => exact ⟨_, _, rfl, sql_mono A.sub e, rs⟩
  | own hk =>
    obtain ⟨a, ha, ga, vs, hv, rs⟩ := A.get hk
    cases r with
    | own e => rw [ha] at e; cases e; exact ⟨_, vs, rfl, .inl (.inl hv), rs⟩
theorem Ts.get (h : Ts d ds) (A : As K G H al μ) (r : Rp K G al v d) : ∃ a vs, v = .ref a ∧ SqT K H a vs ∧ Rps K G al vs ds := by
  cases h with
  | tup => cases r with | tup e rs => exact ⟨_, _, rfl, .inl (.inl (A.sub _ _ e)), rs⟩
  | rdt => cases r with | rdt e rs => exact ⟨_, _, rfl, sqt_mono A.sub e, rs⟩
end
theorem rps_cons {K : PySem.W.Frag} {G : Hp} {al : List Addr} {vs : List V} {d : D} {ds : List D} (h : Rps K G al vs (d :: ds)) : ∃ v ws, vs = v :: ws ∧ Rp K G al v d ∧ Rps K G al ws ds := by
  cases h with | cons r t => exact ⟨_, _, rfl, r, t⟩
theorem rps_nil {K : PySem.W.Frag} {G : Hp} {al : List Addr} {vs : List V} (h : Rps K G al vs []) : vs = [] := by cases h; rfl
theorem rps1 {K : PySem.W.Frag} {G : Hp} {al : List Addr} {vs : List V} {d : D} (h : Rps K G al vs [d]) : ∃ v, vs = [v] ∧ Rp K G al v d := by
  obtain ⟨v, ws, rfl, r, t⟩ := rps_cons h
  cases t; exact ⟨v, rfl, r⟩
theorem rps2 {K : PySem.W.Frag} {G : Hp} {al : List Addr} {vs : List V} {d e : D} (h : Rps K G al vs [d, e]) : ∃ v w, vs = [v, w] ∧ Rp K G al v d ∧ Rp K G al w e := by
  obtain ⟨v, ws, rfl, r, t⟩ := rps_cons h
  obtain ⟨w, rfl, q⟩ := rps1 t
  exact ⟨v, w, rfl, r, q⟩
/-- an item by an index of any sign -/
theorem atI_rps {K : PySem.W.Frag} {G : Hp} {al : List Addr} {vs : List V} {ds : List D} {i : Int} {d : D} (h : Rps K G al vs ds) (e : atI ds i = some d) : ∃ v, atI vs i = some v ∧ Rp K G al v d := by
  unfold atI at e ⊢
  rw [h.length]
  cases q : ixN ds.length i with
  | none => rw [q] at e; cases e
  | some j =>
    rw [q] at e
    exact h.get e
def cutD (xs : List D) (lo hi : Option Int) : List D := (xs.drop (HT.sIx xs.length 0 lo)).take (HT.sIx xs.length xs.length hi - HT.sIx xs.length 0 lo)
theorem cut_rps {K : PySem.W.Frag} {G : Hp} {al : List Addr} {vs : List V} {ds : List D} (h : Rps K G al vs ds) (lo hi : Option Int) : Rps K G al (cutV vs lo hi) (cutD ds lo hi) := by
  unfold cutV cutD
  rw [h.length]
  exact (h.drop _).take _
section
variable {K : PySem.W.Frag} {μ : Mu} {P : D → Mu → Prop} {i j : Int} {x y d : D} {ds es : List D}
/-! ### numbers -/
theorem ro_i {f : Int → Int → Int} (h : P (.int (f i j)) μ) : RO K (rI0 fun i j => .int (f i j)) (.int i) (.int j) μ P := fun G H al v w A r1 r2 Q hQ => by
  cases r1; cases r2
  exact ⟨i, j, rfl, rfl, hQ.now A (.int _) h⟩
theorem ro_b {f : Int → Int → Bool} (h : P (.bl (f i j)) μ) : RO K (rI0 fun i j => .bl (f i j)) (.int i) (.int j) μ P := fun G H al v w A r1 r2 Q hQ => by
  cases r1; cases r2
  exact ⟨i, j, rfl, rfl, hQ.now A (.bl _) h⟩
theorem ro_ic {C : Int → Int → Prop} {f : Int → Int → Int} (hc : C i j) (h : P (.int (f i j)) μ) : RO K (rI C fun i j => .int (f i j)) (.int i) (.int j) μ P := fun G H al v w A r1 r2 Q hQ => by
  cases r1; cases r2
  exact ⟨i, j, rfl, rfl, hc, hQ.now A (.int _) h⟩
theorem ro_ip {f : Int → Int → Int} (h : P (.int (f i j)) μ) : RO K (ipI f) (.int i) (.int j) μ P := fun G H al v w A r1 r2 Q hQ => by
  cases r1; cases r2
  exact ⟨i, j, rfl, rfl, hQ.now A (.int _) h⟩
theorem ro_add (h : P (.int (i + j)) μ) : RO K rAdd (.int i) (.int j) μ P := fun G H al v w A r1 r2 Q hQ => by
  cases r1; cases r2
  exact ⟨i, j, rfl, rfl, hQ.now A (.int _) h⟩
theorem ru_i {f : Int → Int} (h : P (.int (f i)) μ) : RU K (rU fun i => .int (f i)) (.int i) μ P := fun G H al v A r1 Q hQ => by
  cases r1
  exact ⟨i, rfl, hQ.now A (.int _) h⟩
theorem rc_max2 (h : P (.int (max i j)) μ) : RC K (fun xs H Q => ∃ i j, xs = [.int i, .int j] ∧ Q (.int (if j > i then j else i)) H) [.int i, .int j] μ P := fun G H al vs A r Q hQ => by
  obtain ⟨v, w, rfl, r1, r2⟩ := rps2 r
  cases r1; cases r2
  refine ⟨i, j, rfl, ?_⟩
  have e : (if j > i then j else i) = max i j := by rw [Int.max_def]; split <;> split <;> omega
  rw [e]
  exact hQ.now A (.int _) h
theorem rc_min2 (h : P (.int (min i j)) μ) : RC K (fun xs H Q => ∃ i j, xs = [.int i, .int j] ∧ Q (.int (if j < i then j else i)) H) [.int i, .int j] μ P := fun G H al vs A r Q hQ => by
  obtain ⟨v, w, rfl, r1, r2⟩ := rps2 r
  cases r1; cases r2
  refine ⟨i, j, rfl, ?_⟩
  have e : (if j < i then j else i) = min i j := by rw [Int.min_def]; split <;> split <;> omega
  rw [e]
  exact hQ.now A (.int _) h
/-! ### lengths, items, slices, joins -/
theorem rc_len (hl : Ls μ x ds) (h : P (.int (ds.length : Int)) μ) : RC K (fun xs H Q => ∃ x n, xs = [x] ∧ LenV K x H n ∧ Q (.int (n : Nat)) H) [x] μ P := fun G H al vs A r Q hQ => by
  obtain ⟨v, rfl, r1⟩ := rps1 r
  obtain ⟨a, ws, rfl, s, rs⟩ := hl.get A r1
  exact ⟨.ref a, ds.length, rfl, .inl ⟨ws, s, rs.length.symm⟩, hQ.now A (.int _) h⟩
theorem rc_lenT (hl : Ts x ds) (h : P (.int (ds.length : Int)) μ) : RC K (fun xs H Q => ∃ x n, xs = [x] ∧ LenV K x H n ∧ Q (.int (n : Nat)) H) [x] μ P := fun G H al vs A r Q hQ => by
  obtain ⟨v, rfl, r1⟩ := rps1 r
  obtain ⟨a, ws, rfl, s, rs⟩ := hl.get A r1
  exact ⟨.ref a, ds.length, rfl, .inr ⟨ws, s, rs.length.symm⟩, hQ.now A (.int _) h⟩
theorem ro_ixL (hl : Ls μ x ds) (e : atI ds i = some d) (h : P d μ) : RO K (rIx K) x (.int i) μ P := fun G H al v w A r1 r2 Q hQ => by
  cases r2
  obtain ⟨a, ws, rfl, s, rs⟩ := hl.get A r1
  obtain ⟨z, ez, rz⟩ := atI_rps rs e
  exact .inl ⟨a, ws, i, z, rfl, rfl, s, ez, hQ.now A rz h⟩
theorem ro_ixT (hl : Ts x ds) (e : atI ds i = some d) (h : P d μ) : RO K (rIx K) x (.int i) μ P := fun G H al v w A r1 r2 Q hQ => by
  cases r2
  obtain ⟨a, ws, rfl, s, rs⟩ := hl.get A r1
  obtain ⟨z, ez, rz⟩ := atI_rps rs e
  exact .inr (.inl ⟨a, ws, i, z, rfl, rfl, s, ez, hQ.now A rz h⟩)
theorem rs_lst {lo hi : Option Int} (hl : Ls μ x ds) (h : P (.lst (cutD ds lo hi)) μ) : RS K (rSlL K) x lo hi μ P := fun G H al v A r Q hQ => by
  obtain ⟨a, ws, rfl, s, rs⟩ := hl.get A r
  refine ⟨a, ws, rfl, s, fun p hp => ?_⟩
  obtain ⟨A2, n2⟩ := A.frz (o := .lst (cutV ws lo hi)) hp
  exact hQ _ _ μ _ _ _ n2 A2 (.lst upd_same ((cut_rps rs lo hi).nx n2)) h
theorem ro_cat (h1 : Lt μ x ds) (h2 : Lt μ y es) (hs : ds.length + es.length ≤ 100000) (h : P (.lst (ds ++ es)) μ) : RO K rCat x y μ P := fun G H al v w A r1 r2 Q hQ => by
  obtain ⟨a, ws, rfl, s1, rs1⟩ := h1.get A r1
  obtain ⟨b, us, rfl, s2, rs2⟩ := h2.get A r2
  refine ⟨a, b, ws, us, rfl, rfl, s1, s2, by rw [rs1.length, rs2.length]; exact Nat.le_trans hs (by decide), fun p hp => ?_⟩
  obtain ⟨A2, n2⟩ := A.frz (o := .lst (ws ++ us)) hp
  exact hQ _ _ μ _ _ _ n2 A2 (.lst upd_same ((rs1.append rs2).nx n2)) h
/-! ### lists that change -/
theorem ty_list (hl : Ls μ x ds) : ∀ G H al v, As K G H al μ → Rp K G al v x → tyV K "list" v H := fun G H al v A r => by
  obtain ⟨a, ws, rfl, s, rs⟩ := hl.get A r
  exact .inl ⟨rfl, ws, s⟩
theorem rm_app {k : Nat} (hk : μ[k]? = some (.lst ds)) (hs : ds.length < 100000) (h : P .non (μ.set k (.lst (ds ++ [d])))) : RM K rAppend (.own k) [d] μ P := fun G H al v vs A r rs Q hQ => by
  obtain ⟨a, ha, ga, ws, hv, rw'⟩ := A.get hk
  obtain ⟨u, rfl, ru⟩ := rps1 rs
  cases r with
  | own e =>
    rw [ha] at e; cases e
    refine ⟨a, ws, u, rfl, rfl, hv, by rw [rw'.length]; exact Nat.lt_of_lt_of_le hs (by decide), ?_⟩
    obtain ⟨A2, n2⟩ := A.put (o := .lst (ws ++ [u])) (m' := .lst (ds ++ [d])) ha hk (by simp) ⟨ga, _, upd_same, rw'.append (.cons ru .nil)⟩
    exact hQ _ _ _ _ _ _ n2 A2 .non h
theorem rm_clear {k : Nat} (hk : μ[k]? = some (.lst ds)) (h : P .non (μ.set k (.lst []))) : RM K rClear (.own k) [] μ P := fun G H al v vs A r rs Q hQ => by
  obtain ⟨a, ha, ga, ws, hv, rw'⟩ := A.get hk
  have := rps_nil rs
  subst this
  cases r with
  | own e =>
    rw [ha] at e; cases e
    obtain ⟨A2, n2⟩ := A.put (o := .lst []) (m' := .lst []) ha hk (by simp) ⟨ga, _, upd_same, .nil⟩
    exact ⟨a, ws, rfl, rfl, hv, hQ _ _ _ _ _ _ n2 A2 .non h⟩
theorem rm_reverse {k : Nat} (hk : μ[k]? = some (.lst ds)) (h : P .non (μ.set k (.lst ds.reverse))) : RM K rReverse (.own k) [] μ P := fun G H al v vs A r rs Q hQ => by
  obtain ⟨a, ha, ga, ws, hv, rw'⟩ := A.get hk
  have := rps_nil rs
  subst this
  cases r with
  | own e =>
    rw [ha] at e; cases e
    obtain ⟨A2, n2⟩ := A.put (o := .lst ws.reverse) (m' := .lst ds.reverse) ha hk (by simp) ⟨ga, _, upd_same, rw'.reverse⟩
    exact ⟨a, ws, rfl, rfl, hv, hQ _ _ _ _ _ _ n2 A2 .non h⟩
theorem rset_lst {k j : Nat} {PM : Mu → Prop} (hk : μ[k]? = some (.lst ds)) (hj : ixN ds.length i = some j) (h : PM (μ.set k (.lst (ds.set j d)))) : RSet K rSetL (.own k) (.int i) d μ PM := fun G H al v w u A r1 r2 r3 Q hQ => by
  obtain ⟨a, ha, ga, ws, hv, rw'⟩ := A.get hk
  cases r2
  cases r1 with
  | own e =>
    rw [ha] at e; cases e
    obtain ⟨A2, n2⟩ := A.put (o := .lst (ws.set j u)) (m' := .lst (ds.set j d)) ha hk (by simp) ⟨ga, _, upd_same, rw'.set j r3⟩
    exact ⟨a, ws, i, j, rfl, rfl, hv, by rw [rw'.length]; exact hj, hQ _ _ _ _ n2 A2 h⟩
/-! ### sums, all, any -/
theorem rc_all {bs : List Bool} (hl : Ls μ x (bs.map D.bl)) (h : P (.bl (bs.all id)) μ) : RC K (rAll K) [x] μ P := fun G H al vs A r Q hQ => by
  obtain ⟨v, rfl, r1⟩ := rps1 r
  obtain ⟨a, ws, rfl, s, rs⟩ := hl.get A r1
  have e := rs.bools
  subst e
  exact ⟨a, bs, rfl, s, hQ.now A (.bl _) h⟩
end
/-! ### isinstance -/
/-- a built-in type's name -/
def tyD (μ : Mu) : D → Option String
  | .non => some "NoneType"
  | .bl _ => some "bool"
  | .int _ => some "int"
  | .str _ => some "str"
  | .tup _ => some "tuple"
  | .lst _ => some "list"
  | .rdl _ => some "list"
  | .rdt _ => some "tuple"
  | .dct _ => some "dict"
  | .own k => match μ[k]? with
    | some (.lst _) => some "list"
    | some (.dK _) => some "dict"
    | some (.dT _) => some "dict"
    | _ => none
  | _ => none
/-- what isinstance asks of an own class -/
structure ObT (K : PySem.W.Frag) (C : Addr) : Prop where
  cl : Cls K C
  ha : PySem.W.findIn K (.ref C) "__class__" = some (some (.builtin "object.__class__"))
  hn : PySem.W.specialIn K (.builtin "object.__class__") "__get__" = some (some (.builtin "getset_descriptor.__get__"))
  htk : PySem.W.takesIn K (.builtin "object.__class__") = some true
  hm : PySem.W.mroIn K C (.type "object") = some true
/-- the type of a datum as the deciders take it -/
inductive TyDV (K : PySem.W.Frag) (μ : Mu) : D → Value → Prop
  | ty {d : D} {n : String} (h : tyD μ d = some n) : TyDV K μ d (.type n)
  | obj {C : Addr} {gs : List (Str × D)} (o : ObT K C) : TyDV K μ (.obj C gs) (.ref C)
  | own {C : Addr} {gs : List (Str × D)} {k : Nat} (h : μ[k]? = some (.ins C gs)) (o : ObT K C) : TyDV K μ (.own k) (.ref C)
inductive ClD : D → Value → Prop
  | ty (n : String) : ClD (.ty n) (.type n)
  | loc (C : Addr) : ClD (.loc C) (.ref C)
theorem TyDV.tyx {K : PySem.W.Frag} {G H : Hp} {al : List Addr} {μ : Mu} {v : V} {d : D} {t : Value} (h : TyDV K μ d t) (A : As K G H al μ) (r : Rp K G al v d) : TyX K H v t := by
  cases h with
  | obj o =>
    cases r with
    | obj e rf => exact .base (.ins (A.sub _ _ e) o.cl o.ha o.hn o.htk o.hm)
  | own hk o =>
    obtain ⟨a, ha, ga, dx, fs, hv, rf⟩ := A.get hk
    cases r with
    | own e => rw [ha] at e; cases e; exact .base (.ins hv o.cl o.ha o.hn o.htk o.hm)
  | ty ht =>
    cases r with
    | non => cases ht; exact .base .non
    | bl b => cases ht; exact .base (.bl b)
    | int i => cases ht; exact .base (.int i)
    | str x => cases ht; exact .base (.str x)
    | ty n => cases ht
    | tup e rs => cases ht; exact .base (.tup (A.sub _ _ e))
    | lst e rs => cases ht; exact .base (.lst (A.sub _ _ e))
    | rdl e rs =>
      cases ht
      rcases e with (e | ⟨o, e⟩) | ⟨o, its, n, hk, hc, hd, hs, hz, _⟩
      · exact .base (.lst (A.sub _ _ e))
      · exact .base (.frz (A.sub _ _ e))
      · exact .kList hk hc
    | rdt e rs =>
      cases ht
      rcases e with (e | ⟨o, e⟩) | ⟨o, its, n, hk, hc, hs, hz, _⟩
      · exact .base (.tup (A.sub _ _ e))
      · exact .fTuple (A.sub _ _ e)
      · exact .kTuple hk hc
    | obj e rf => cases ht
    | dct e rf =>
      cases ht
      rcases e with e | ⟨o, e⟩
      · exact .base (.dK (A.sub _ _ e))
      · exact .fDict (A.sub _ _ e)
    | own e =>
      rename_i a k
      simp only [tyD] at ht
      cases hk : μ[k]? with
      | none => rw [hk] at ht; cases ht
      | some m =>
        rw [hk] at ht
        obtain ⟨a', ha, ok⟩ := A.get hk
        rw [ha] at e; cases e
        cases m with
        | lst ds => cases ht; obtain ⟨ga, vs, hv, _⟩ := ok; exact .base (.lst hv)
        | dK ds => cases ht; obtain ⟨ga, vs, hv, _⟩ := ok; exact .base (.dK hv)
        | dT ds => cases ht; obtain ⟨ga, vs, hv, _⟩ := ok; exact .base (.dT hv)
        | dead => cases ht
        | ins _ _ => cases ht
        | tab _ _ => cases ht
    | loc a => cases ht
    | exc _ _ _ => cases ht
section
variable {K : PySem.W.Frag} {μ : Mu} {P : D → Mu → Prop} {x c : D}
theorem rc_isi {t u : Value} {b : Bool} (ht : TyDV K μ x t) (hc : ClD c u) (hk : PySem.W.kitOne K t u = some b) (h : P (.bl b) μ) : RC K (rIsi K) [x, c] μ P := fun G H al vs A r Q hQ => by
  obtain ⟨v, w, rfl, r1, r2⟩ := rps2 r
  have tx := ht.tyx A r1
  cases hc with
  | ty n => cases r2; exact ⟨v, _, t, _, b, rfl, .ty n, tx, hk, hQ.now A (.bl b) h⟩
  | loc C => cases r2; exact ⟨v, _, t, _, b, rfl, .own C, tx, hk, hQ.now A (.bl b) h⟩
theorem rc_isiB {n m : String} {b : Bool} (ht : tyD μ x = some n) (hk : kitB n m = some b) (h : P (.bl b) μ) : RC K (rIsi K) [x, .ty m] μ P := rc_isi (.ty ht) (.ty m) (kit_ty hk) h
end
/-! ### == of data -/
mutual
def D.py : D → PyData
  | .non => .none
  | .bl b => .bool b
  | .int i => .int i
  | .str x => .str x
  | .ty _ => .none
  | .tup xs => .tuple (pyL xs)
  | .lst xs => .list (pyL xs)
  | .rdl xs => .list (pyL xs)
  | .rdt xs => .tuple (pyL xs)
  | .obj _ _ => .none
  | .dct _ => .none
  | .own _ => .none
  | .loc _ => .none
  | .exc _ _ => .none
def pyL : List D → List PyData
  | [] => []
  | x :: xs => D.py x :: pyL xs
end
mutual
/-- data that == goes through: how deep -/
def D.shp : D → Nat → Bool
  | .non, _ => true
  | .bl _, _ => true
  | .int _, _ => true
  | .str x, _ => PyData.strOk x
  | .tup xs, n => decide (0 < n) && shpL xs (n - 1)
  | .lst xs, n => decide (0 < n) && shpL xs (n - 1)
  | .rdl xs, n => decide (0 < n) && shpL xs (n - 1)
  | .rdt xs, n => decide (0 < n) && shpL xs (n - 1)
  | .ty _, _ => false
  | .obj _ _, _ => false
  | .dct _, _ => false
  | .own _, _ => false
  | .loc _, _ => false
  | .exc _ _, _ => false
def shpL : List D → Nat → Bool
  | [], _ => true
  | x :: xs, n => D.shp x n && shpL xs n
end
section
variable {K : PySem.W.Frag} {G H : Hp} {al : List Addr}
mutual
theorem dp_of (s : Same G H) : ∀ {d : D} {n : Nat} {v : V}, d.shp n = true → Rp K G al v d → Dp K H v d.py
  | .non, _, _, _, .non => by unfold D.py; exact .non
  | .bl _, _, _, _, .bl b => by unfold D.py; exact .bl b
  | .int _, _, _, _, .int i => by unfold D.py; exact .int i
  | .str _, _, _, _, .str x => by unfold D.py; exact .str x
  | .tup xs, n, _, h, .tup e r => by
    unfold D.py; unfold D.shp at h; simp at h
    exact .tup (.inl (.inl (s _ _ e))) (dpAll_of s h.2 r)
  | .lst xs, n, _, h, .lst e r => by
    unfold D.py; unfold D.shp at h; simp at h
    exact .lst (.inl (.inl (s _ _ e))) (dpAll_of s h.2 r)
  | .rdl xs, n, _, h, .rdl e r => by
    unfold D.py; unfold D.shp at h; simp at h
    exact .lst (sql_mono s e) (dpAll_of s h.2 r)
  | .rdt xs, n, _, h, .rdt e r => by
    unfold D.py; unfold D.shp at h; simp at h
    exact .tup (sqt_mono s e) (dpAll_of s h.2 r)
  | .ty _, _, _, h, _ => by unfold D.shp at h; cases h
  | .obj _ _, _, _, h, _ => by unfold D.shp at h; cases h
  | .dct _, _, _, h, _ => by unfold D.shp at h; cases h
  | .own _, _, _, h, _ => by unfold D.shp at h; cases h
  | .loc _, _, _, h, _ => by unfold D.shp at h; cases h
  | .exc _ _, _, _, h, _ => by unfold D.shp at h; cases h
theorem dpAll_of (s : Same G H) : ∀ {ds : List D} {n : Nat} {vs : List V}, shpL ds n = true → Rps K G al vs ds → DpAll K H vs (pyL ds)
  | [], _, _, _, .nil => by unfold pyL; exact .nil
  | d :: ds, n, _, h, .cons r t => by
    unfold pyL; unfold shpL at h; simp at h
    exact .cons (dp_of s h.1 r) (dpAll_of s h.2 t)
end
end
mutual
theorem can_of : ∀ {d : D} {n : Nat}, d.shp n = true → d.py.canLay0 = true ∧ d.py.depth ≤ n
  | .non, n, _ => by simp [D.py, PyData.canLay0, PyData.depth]
  | .bl _, n, _ => by simp [D.py, PyData.canLay0, PyData.depth]
  | .int _, n, _ => by simp [D.py, PyData.canLay0, PyData.depth]
  | .str x, n, h => by
    unfold D.shp at h
    simp [D.py, PyData.canLay0, PyData.depth, h]
  | .tup xs, n, h => by
    unfold D.shp at h; simp at h
    have q := canL_of h.2
    simp [D.py, PyData.canLay0, PyData.depth, q.1]
    omega
  | .lst xs, n, h => by
    unfold D.shp at h; simp at h
    have q := canL_of h.2
    simp [D.py, PyData.canLay0, PyData.depth, q.1]
    omega
  | .rdl xs, n, h => by
    unfold D.shp at h; simp at h
    have q := canL_of h.2
    simp [D.py, PyData.canLay0, PyData.depth, q.1]
    omega
  | .rdt xs, n, h => by
    unfold D.shp at h; simp at h
    have q := canL_of h.2
    simp [D.py, PyData.canLay0, PyData.depth, q.1]
    omega
  | .ty _, _, h => by unfold D.shp at h; cases h
  | .obj _ _, _, h => by unfold D.shp at h; cases h
  | .dct _, _, h => by unfold D.shp at h; cases h
  | .own _, _, h => by unfold D.shp at h; cases h
  | .loc _, _, h => by unfold D.shp at h; cases h
  | .exc _ _, _, h => by unfold D.shp at h; cases h
theorem canL_of : ∀ {ds : List D} {n : Nat}, shpL ds n = true → PyData.canLayAll0 (pyL ds) = true ∧ PyData.depthAll (pyL ds) ≤ n
  | [], n, _ => by simp [pyL, PyData.canLayAll0, PyData.depthAll]
  | d :: ds, n, h => by
    unfold shpL at h; simp at h
    have q1 := can_of h.1
    have q2 := canL_of h.2
    simp [pyL, PyData.canLayAll0, PyData.depthAll, q1.1, q2.1]
    have := q1.2; have := q2.2; omega
end
theorem shaped_of {d : D} {n : Nat} (hn : n ≤ 64) (h : d.shp n = true) : SeqAt.shaped d.py = true := by
  have q := can_of h
  unfold SeqAt.shaped
  simp [q.1]
  omega
theorem beq_dec {α : Type} [BEq α] [LawfulBEq α] [DecidableEq α] (a b : α) : (a == b) = decide (a = b) := by
  rw [Bool.eq_iff_iff, beq_iff_eq, decide_eq_true_eq]
/-- what == says of two data -/
def eqvD (x y : D) : Bool := PyData.eqv x.py y.py
def eqvL (xs ys : List D) : Bool := PyData.eqvAll (pyL xs) (pyL ys)
@[simp] theorem eqvD_int (i j : Int) : eqvD (.int i) (.int j) = decide (i = j) := by
  simp only [eqvD, D.py, PyData.eqv]
  exact beq_dec i j
@[simp] theorem eqvD_bl (i j : Bool) : eqvD (.bl i) (.bl j) = decide (i = j) := by
  simp only [eqvD, D.py, PyData.eqv]
  exact beq_dec i j
@[simp] theorem eqvD_str (i j : Str) : eqvD (.str i) (.str j) = decide (i = j) := by
  simp only [eqvD, D.py, PyData.eqv]
  exact beq_dec i j
@[simp] theorem eqvD_tup (xs ys : List D) : eqvD (.tup xs) (.tup ys) = eqvL xs ys := by simp only [eqvD, eqvL, D.py, PyData.eqv]
@[simp] theorem eqvD_lst (xs ys : List D) : eqvD (.lst xs) (.lst ys) = eqvL xs ys := by simp only [eqvD, eqvL, D.py, PyData.eqv]
@[simp] theorem eqvD_rdl (xs ys : List D) : eqvD (.rdl xs) (.lst ys) = eqvL xs ys := by simp only [eqvD, eqvL, D.py, PyData.eqv]
@[simp] theorem eqvL_nil : eqvL [] [] = true := by simp only [eqvL, pyL, PyData.eqvAll]
@[simp] theorem eqvL_cons (x y : D) (xs ys : List D) : eqvL (x :: xs) (y :: ys) = (eqvD x y && eqvL xs ys) := by simp only [eqvL, eqvD, pyL, PyData.eqvAll]
@[simp] theorem eqvL_nc (y : D) (ys : List D) : eqvL [] (y :: ys) = false := by simp only [eqvL, pyL, PyData.eqvAll]
@[simp] theorem eqvL_cn (y : D) (ys : List D) : eqvL (y :: ys) [] = false := by simp only [eqvL, pyL, PyData.eqvAll]
@[simp] theorem eqvD_nn : eqvD .non .non = true := by simp only [eqvD, D.py, PyData.eqv]
theorem eqvL_map {α : Type} [DecidableEq α] {f : α → D} (hf : ∀ a b, eqvD (f a) (f b) = decide (a = b)) : ∀ xs ys : List α, eqvL (xs.map f) (ys.map f) = decide (xs = ys)
  | [], [] => by simp
  | [], _ :: _ => by simp
  | _ :: _, [] => by simp
  | x :: xs, y :: ys => by
    rw [List.map_cons, List.map_cons, eqvL_cons, hf, eqvL_map hf xs ys, ← Bool.decide_and]
    exact decide_eq_decide.mpr (by rw [List.cons.injEq])
theorem eqvD_refl {d : D} {n : Nat} (h : d.shp n = true) : eqvD d d = true := SeqAt.eqv_refl _ (can_of h).1
theorem shpL_map {α : Type} {f : α → D} {n : Nat} {xs : List α} (h : ∀ x ∈ xs, (f x).shp n = true) : shpL (xs.map f) n = true := by
  induction xs with
  | nil => simp [shpL]
  | cons x xs ih =>
    simp [shpL, h x (by simp)]
    exact ih fun y hy => h y (by simp [hy])
theorem shpL_iff {xs : List D} {n : Nat} : shpL xs n = true ↔ ∀ x ∈ xs, x.shp n = true := by
  induction xs with
  | nil => simp [shpL]
  | cons x xs ih => simp [shpL, ih]
/-- one that may still change is looked at as it is now -/
inductive Fz (μ : Mu) : D → D → Prop
  | id (d : D) : Fz μ d d
  | own {k : Nat} {ds : List D} (h : μ[k]? = some (.lst ds)) : Fz μ (.own k) (.lst ds)
theorem Fz.dp {K : PySem.W.Frag} {G H : Hp} {al : List Addr} {μ : Mu} {v : V} {x d : D} {n : Nat} (h : Fz μ x d) (A : As K G H al μ) (hs : d.shp n = true) (r : Rp K G al v x) : Dp K H v d.py := by
  cases h with
  | id => exact dp_of A.sub hs r
  | own hk =>
    obtain ⟨a, ha, ga, ws, hv, rw'⟩ := A.get hk
    cases r with
    | own e =>
      rw [ha] at e; cases e
      unfold D.py; unfold D.shp at hs; simp at hs
      exact .lst (.inl (.inl hv)) (dpAll_of A.sub hs.2 rw')
section
variable {K : PySem.W.Frag} {μ : Mu} {P : D → Mu → Prop} {x y d e : D}
theorem ro_eqD {n m : Nat} (hx : Fz μ x d) (hy : Fz μ y e) (h1 : d.shp n = true) (h2 : e.shp m = true) (h : P (.bl (eqvD d e)) μ) (hn : n ≤ 64 := by decide) (hm : m ≤ 64 := by decide) : RO K (rEqD K) x y μ P := fun G H al v w A r1 r2 Q hQ =>
  ⟨d.py, e.py, hx.dp A h1 r1, hy.dp A h2 r2, shaped_of hn h1, shaped_of hm h2, hQ.now A (.bl _) h⟩
theorem ro_neD {n m : Nat} (hx : Fz μ x d) (hy : Fz μ y e) (h1 : d.shp n = true) (h2 : e.shp m = true) (h : P (.bl (!eqvD d e)) μ) (hn : n ≤ 64 := by decide) (hm : m ≤ 64 := by decide) : RO K (rNeD K) x y μ P := fun G H al v w A r1 r2 Q hQ =>
  ⟨d.py, e.py, hx.dp A h1 r1, hy.dp A h2 r2, shaped_of hn h1, shaped_of hm h2, hQ.now A (.bl _) h⟩
theorem ro_eqI {i j : Int} (h : P (.bl (decide (i = j))) μ) : RO K (rEqD K) (.int i) (.int j) μ P := ro_eqD (n := 0) (m := 0) (.id _) (.id _) rfl rfl (by rw [eqvD_int]; exact h)
theorem ro_neI {i j : Int} (h : P (.bl (!decide (i = j))) μ) : RO K (rNeD K) (.int i) (.int j) μ P := ro_neD (n := 0) (m := 0) (.id _) (.id _) rfl rfl (by rw [eqvD_int]; exact h)
theorem ro_eqB {i j : Bool} (h : P (.bl (decide (i = j))) μ) : RO K (rEqD K) (.bl i) (.bl j) μ P := ro_eqD (n := 0) (m := 0) (.id _) (.id _) rfl rfl (by rw [eqvD_bl]; exact h)
theorem ro_neB {i j : Bool} (h : P (.bl (!decide (i = j))) μ) : RO K (rNeD K) (.bl i) (.bl j) μ P := ro_neD (n := 0) (m := 0) (.id _) (.id _) rfl rfl (by rw [eqvD_bl]; exact h)
end
end Dl
set_option Elab.async false
set_option linter.all false
set_option maxRecDepth 100000
namespace Dl
open PySem L2
/-! ### what is walked -/
/-- J walks ds, as long as S holds of what may change -/
def ItOk (K : PySem.W.Frag) (J : It) (ds : List D) (S : Mu → Prop) (G H : Hp) (al : List Addr) : Prop := ∀ G2 H2 al2 μ2, Nx G H al G2 H2 al2 → As K G2 H2 al2 μ2 → S μ2 →
  (∀ i, i < ds.length → J.go i H2) ∧ (∀ i, ds.length ≤ i → J.stop i H2) ∧ ∀ i x H3, J.yld i H2 x H3 → ∀ d, ds[i]? = some d → ∃ G3, Nx G2 H2 al2 G3 H3 al2 ∧ As K G3 H3 al2 μ2 ∧ Rp K G3 al2 x d
def DI (K : PySem.W.Frag) (B : Bs) (wi : TI) (ρ : En) (μ : Mu) (P : List D → (Mu → Prop) → Mu → Prop) : Prop := ∀ σ G H al, B.le G H al → RpS K G al σ ρ → As K G H al μ → ∀ R : It → Hp → Prop,
  (∀ J ds S μ' G' H' al', Nx G H al G' H' al' → As K G' H' al' μ' → ItOk K J ds S G' H' al' → P ds S μ' → R J H') → wi σ H R
section
variable {K : PySem.W.Frag} {B : Bs} {ρ : En} {μ : Mu} {te : TE} {ts : TA} {PI' : List D → (Mu → Prop) → Mu → Prop}
theorem itl_ok {G H : Hp} {al : List Addr} {a : Addr} {ds : List D} {S : Mu → Prop} (h : ∀ G2 H2 al2 μ2, Nx G H al G2 H2 al2 → As K G2 H2 al2 μ2 → S μ2 → ∃ vs, SqL K H2 a vs ∧ Rps K G2 al2 vs ds) : ItOk K (Itl K a) ds S G H al := fun G2 H2 al2 μ2 n A s => by
  obtain ⟨vs, sq, r⟩ := h G2 H2 al2 μ2 n A s
  refine ⟨fun i hi => ⟨vs, vs[i]'(by rw [r.length]; exact hi), sq, by simp⟩, fun i hi => ⟨vs, sq, by rw [r.length]; exact hi⟩, fun i x H3 y d hd => ?_⟩
  obtain ⟨rfl, y⟩ := y
  obtain ⟨d', hd', r'⟩ := r.getV (y vs sq)
  rw [hd] at hd'; cases hd'
  exact ⟨G2, .refl, A, r'⟩
/-- lo, lo + 1, .. -/
def rangeD (lo : Int) (n : Nat) : List D := (List.range n).map fun (i : Nat) => D.int (lo + (i : Int))
theorem rangeD_length (lo : Int) (n : Nat) : (rangeD lo n).length = n := by simp [rangeD]
theorem rangeD_get {lo : Int} {n i : Nat} (h : i < n) : (rangeD lo n)[i]? = some (.int (lo + (i : Int))) := by simp [rangeD, h]
theorem rangeD_some {lo : Int} {n i : Nat} {d : D} (h : (rangeD lo n)[i]? = some d) : i < n ∧ d = .int (lo + (i : Int)) := by
  have hi : i < n := by
    have := (List.getElem?_eq_some_iff.mp h).1
    rw [rangeD_length] at this
    exact this
  rw [rangeD_get hi] at h
  exact ⟨hi, (Option.some.inj h).symm⟩
theorem itr_ok {lo : Int} {n : Nat} {G H : Hp} {al : List Addr} : ItOk K (Itr lo n) (rangeD lo n) (fun _ => True) G H al := fun G2 H2 al2 μ2 _ A _ => by
  refine ⟨fun i hi => by rw [rangeD_length] at hi; exact hi, fun i hi => by rw [rangeD_length] at hi; exact hi, fun i x H3 y d hd => ?_⟩
  obtain ⟨rfl, rfl⟩ := y
  obtain ⟨_, rfl⟩ := rangeD_some hd
  exact ⟨G2, .refl, A, .int _⟩
theorem di_range1 (h : DA K B ts ρ μ fun xs μ1 => ∃ n : Int, xs = [.int n] ∧ -(2 ^ 62) ≤ n ∧ n < 2 ^ 62 ∧ PI' (rangeD 0 n.toNat) (fun _ => True) μ1) : DI K B (iRng1 ts) ρ μ PI' := fun σ G H al hB hσ hA R hR =>
  h σ G H al hB hσ hA _ fun vs ds μ1 G1 H1 al1 n1 A1 r1 p1 => by
    obtain ⟨n, rfl, h1, h2, p⟩ := p1
    obtain ⟨v, rfl, r⟩ := rps1 r1
    cases r
    exact ⟨n, rfl, h1, h2, hR _ _ _ μ1 G1 H1 al1 n1 A1 itr_ok p⟩
theorem di_range2 (h : DA K B ts ρ μ fun xs μ1 => ∃ lo n : Int, xs = [.int lo, .int n] ∧ (-(2 ^ 62) ≤ lo ∧ lo < 2 ^ 62 ∧ -(2 ^ 62) ≤ n ∧ n < 2 ^ 62) ∧ PI' (rangeD lo (n - lo).toNat) (fun _ => True) μ1) : DI K B (iRng2 ts) ρ μ PI' := fun σ G H al hB hσ hA R hR =>
  h σ G H al hB hσ hA _ fun vs ds μ1 G1 H1 al1 n1 A1 r1 p1 => by
    obtain ⟨lo, n, rfl, h1, p⟩ := p1
    obtain ⟨v, w, rfl, r, r'⟩ := rps2 r1
    cases r; cases r'
    exact ⟨lo, n, rfl, h1, hR _ _ _ μ1 G1 H1 al1 n1 A1 itr_ok p⟩
/-- enumerate -/
def enumD (ds : List D) : List D := ds.mapIdx fun i d => .tup [.int (i : Int), d]
theorem enumD_length (ds : List D) : (enumD ds).length = ds.length := by simp [enumD]
theorem enumD_some {ds : List D} {i : Nat} {d : D} (h : (enumD ds)[i]? = some d) : ∃ x, ds[i]? = some x ∧ d = .tup [.int (i : Int), x] := by
  simp only [enumD, List.getElem?_mapIdx] at h
  cases q : ds[i]? with
  | none => rw [q] at h; cases h
  | some x => rw [q] at h; exact ⟨x, rfl, (Option.some.inj h).symm⟩
theorem di_enum (h : DA K B ts ρ μ fun xs μ1 => ∃ x ds, xs = [x] ∧ ((x = .lst ds ∧ PI' (enumD ds) (fun _ => True) μ1) ∨ (x = .rdl ds ∧ PI' (enumD ds) (fun _ => True) μ1) ∨ ∃ k, x = .own k ∧ μ1[k]? = some (.lst ds) ∧ PI' (enumD ds) (fun μ' => μ'[k]? = some (.lst ds)) μ1)) : DI K B (iEnum K ts) ρ μ PI' := fun σ G H al hB hσ hA R hR =>
  h σ G H al hB hσ hA _ fun vs ds μ1 G1 H1 al1 n1 A1 r1 p1 => by
    obtain ⟨x, xs, rfl, p1⟩ := p1
    obtain ⟨v, rfl, r⟩ := rps1 r1
    have key : ∃ a S, v = .ref a ∧ PI' (enumD xs) S μ1 ∧ S μ1 ∧ ∀ G2 H2 al2 μ2, Nx G1 H1 al1 G2 H2 al2 → As K G2 H2 al2 μ2 → S μ2 → ∃ vs, SqL K H2 a vs ∧ Rps K G2 al2 vs xs := by
      rcases p1 with ⟨rfl, p⟩ | ⟨rfl, p⟩ | ⟨k, rfl, hk, p⟩
      · cases r with | lst e rs => exact ⟨_, _, rfl, p, trivial, fun G2 H2 al2 μ2 n2 A2 _ => ⟨_, .inl (.inl (A2.sub _ _ (n2.g _ _ e))), rs.nx n2⟩⟩
      · cases r with | rdl e rs => exact ⟨_, _, rfl, p, trivial, fun G2 H2 al2 μ2 n2 A2 _ => ⟨_, sql_mono A2.sub (sql_mono n2.g e), rs.nx n2⟩⟩
      · obtain ⟨a, ha, ga, vs, hv, rs⟩ := A1.get hk
        cases r with
        | own e =>
          rw [ha] at e; cases e
          refine ⟨_, _, rfl, p, hk, fun G2 H2 al2 μ2 n2 A2 s => ?_⟩
          obtain ⟨a2, ha2, ga2, vs2, hv2, rs2⟩ := A2.get s
          rw [n2.p.get ha] at ha2; cases ha2
          exact ⟨vs2, .inl (.inl hv2), rs2⟩
    obtain ⟨a, S, rfl, p, s1, key⟩ := key
    obtain ⟨vs1, sq1, _⟩ := key G1 H1 al1 μ1 .refl A1 s1
    refine ⟨a, vs1, rfl, sq1, hR _ _ S μ1 G1 H1 al1 n1 A1 (fun G2 H2 al2 μ2 n2 A2 s => ?_) p⟩
    obtain ⟨vs, sq, r⟩ := key G2 H2 al2 μ2 n2 A2 s
    rw [enumD_length]
    refine ⟨fun i hi => ⟨vs, vs[i]'(by rw [r.length]; exact hi), sq, by simp⟩, fun i hi => ⟨vs, sq, by rw [r.length]; exact hi⟩, fun i x H3 y d hd => ?_⟩
    obtain ⟨T, z, rfl, hT, rfl, y⟩ := y
    obtain ⟨w, hw, rfl⟩ := enumD_some hd
    obtain ⟨d', hd', r'⟩ := r.getV (y vs sq)
    rw [hw] at hd'; cases hd'
    obtain ⟨A3, n3⟩ := A2.frz (o := .tup [.int (i : Nat), z]) hT
    exact ⟨_, n3, A3, .tup upd_same (.cons (.int _) (.cons (r'.nx n3) .nil))⟩
def zipD (xs ys : List D) : List D := xs.zipWith (fun a b => .tup [a, b]) ys
theorem zipD_length (xs ys : List D) : (zipD xs ys).length = min xs.length ys.length := by simp [zipD]
theorem zipD_some {xs ys : List D} {i : Nat} {d : D} (h : (zipD xs ys)[i]? = some d) : ∃ x y, xs[i]? = some x ∧ ys[i]? = some y ∧ d = .tup [x, y] := by
  simp only [zipD, List.getElem?_zipWith] at h
  cases q : xs[i]? with
  | none => rw [q] at h; cases h
  | some x =>
    cases q2 : ys[i]? with
    | none => rw [q, q2] at h; cases h
    | some y => rw [q, q2] at h; exact ⟨x, y, rfl, rfl, (Option.some.inj h).symm⟩
/-- zip of two frozen lists -/
theorem di_zip (h : DA K B ts ρ μ fun xs μ1 => ∃ ds es, xs = [.lst ds, .lst es] ∧ PI' (zipD ds es) (fun _ => True) μ1) : DI K B (iZip K ts) ρ μ PI' := fun σ G H al hB hσ hA R hR =>
  h σ G H al hB hσ hA _ fun vs ds μ1 G1 H1 al1 n1 A1 r1 p1 => by
    obtain ⟨xs, ys, rfl, p⟩ := p1
    obtain ⟨v, w, rfl, r, r'⟩ := rps2 r1
    cases r with
    | lst e rs => cases r' with
      | lst e' rs' =>
        refine ⟨_, _, _, _, rfl, .inl (.inl (A1.sub _ _ e)), .inl (.inl (A1.sub _ _ e')), hR _ _ _ μ1 G1 H1 al1 n1 A1 (fun G2 H2 al2 μ2 n2 A2 s => ?_) p⟩
        have q1 := A2.sub _ _ (n2.g _ _ e)
        have q2 := A2.sub _ _ (n2.g _ _ e')
        have rr := rs.nx n2
        have rr' := rs'.nx n2
        rw [zipD_length]
        refine ⟨fun i hi => ⟨_, _, _, _, .inl (.inl q1), .inl (.inl q2), List.getElem?_eq_getElem (by rw [rr.length]; omega), List.getElem?_eq_getElem (by rw [rr'.length]; omega)⟩, fun i hi => ⟨_, _, .inl (.inl q1), .inl (.inl q2), by rw [rr.length, rr'.length]; omega⟩, fun i x H3 y d hd => ?_⟩
        obtain ⟨T, z, z', rfl, hT, rfl, y1, y2⟩ := y
        obtain ⟨a, b, ha, hb, rfl⟩ := zipD_some hd
        obtain ⟨d1, hd1, k1⟩ := rr.getV (y1 _ (.inl (.inl q1)))
        obtain ⟨d2, hd2, k2⟩ := rr'.getV (y2 _ (.inl (.inl q2)))
        rw [ha] at hd1; cases hd1
        rw [hb] at hd2; cases hd2
        obtain ⟨A3, n3⟩ := A2.frz (o := .tup [z, z']) hT
        exact ⟨_, n3, A3, .tup upd_same (.cons (k1.nx n3) (.cons (k2.nx n3) .nil))⟩
/-- the signs of a text -/
def signsD (x : Str) : List D := x.cps.toList.map fun c => .str ⟨#[c]⟩
/-! ### for -/
theorem ds_for {wi : TI} {g : TG} {tb : TS} {P : DEnds} (h : DI K B wi ρ μ fun ds S μ1 => ∃ Iv : Nat → En → Mu → Prop, Iv 0 ρ μ1 ∧ (∀ i ρ' μ', i ≤ ds.length → Iv i ρ' μ' → S μ') ∧
      (∀ i d ρ' μ', ds[i]? = some d → Iv i ρ' μ' → DG K B g d ρ' μ' fun ρ2 μ2 => DS K B tb ρ2 μ2 { P with nx := Iv (i + 1), ct := Iv (i + 1), bk := P.nx }) ∧ (∀ ρ' μ', Iv ds.length ρ' μ' → P.nx ρ' μ')) : DS K B (tFor wi g tb) ρ μ P := fun σ G H al hB hσ hA De hD =>
  h σ G H al hB hσ hA _ fun J ds S μ1 G1 H1 al1 n1 A1 ok p1 => by
    obtain ⟨Iv, h0, hS, hs, hd⟩ := p1
    refine ⟨fun i m σ' H' => m = ds.length - i ∧ i ≤ ds.length ∧ ∃ G' al' ρ' μ', Nx G1 H1 al1 G' H' al' ∧ RpS K G' al' σ' ρ' ∧ As K G' H' al' μ' ∧ Iv i ρ' μ', ⟨ds.length, by simp, Nat.zero_le _, G1, al1, ρ, μ1, .refl, hσ.nx n1, A1, h0⟩, ?_⟩
    rintro i m σ' H' ⟨rfl, hi, G', al', ρ', μ', n', hσ', A', iv⟩
    obtain ⟨go, stop, yld⟩ := ok G' H' al' μ' n' A' (hS i ρ' μ' hi iv)
    by_cases hlt : i < ds.length
    · refine .inr ⟨go i hlt, fun σ2 H2 => ∃ G2 al2 ρ2 μ2, Nx G1 H1 al1 G2 H2 al2 ∧ RpS K G2 al2 σ2 ρ2 ∧ As K G2 H2 al2 μ2 ∧ Iv (i + 1) ρ2 μ2, fun σ2 H2 q => ⟨ds.length - (i + 1), by omega, rfl, hlt, q⟩, fun x H3 y => ?_⟩
      obtain ⟨G3, n3, A3, r3⟩ := yld i x H3 y _ (List.getElem?_eq_getElem hlt)
      have q := hs i _ ρ' μ' (List.getElem?_eq_getElem hlt) iv σ' G3 H3 al' x (((hB.trans n1).trans n').trans n3) (hσ'.nx n3) A3 r3
      refine q _ fun σ4 ρ4 μ4 G4 H4 al4 n4 hσ4 A4 p4 => ?_
      have nn : Nx G1 H1 al1 G4 H4 al4 := (n'.trans n3).trans n4
      exact p4 σ4 G4 H4 al4 ((hB.trans n1).trans nn) hσ4 A4 _ ⟨fun σ5 ρ5 μ5 G5 H5 al5 n5 hσ5 A5 p5 => ⟨G5, al5, ρ5, μ5, nn.trans n5, hσ5, A5, p5⟩, hD.rt.nx (n1.trans nn), hD.nx.nx (n1.trans nn), fun σ5 ρ5 μ5 G5 H5 al5 n5 hσ5 A5 p5 => ⟨G5, al5, ρ5, μ5, nn.trans n5, hσ5, A5, p5⟩⟩
    · have e : i = ds.length := by omega
      subst e
      exact .inl ⟨stop _ (Nat.le_refl _), hD.nx _ _ μ' G' H' al' (n1.trans n') hσ' A' (hd ρ' μ' iv)⟩
/-! ### while -/
end
/-! ### comprehensions -/
def wipeD (ρ : En) : List Nat → En
  | [] => ρ
  | v :: vs => (wipeD ρ vs).set v none
theorem wipe_rps {K : PySem.W.Frag} {G : Hp} {al : List Addr} {σ : St} {ρ : En} (h : RpS K G al σ ρ) : ∀ vs : List Nat, RpS K G al (wipe σ vs) (wipeD ρ vs)
  | [] => h
  | v :: vs => (wipe_rps h vs).forget v none
theorem wipe_set {σ : St} {j : Nat} {x : Option V} : ∀ {vs : List Nat}, j ∈ vs → wipe (σ.set j x) vs = wipe σ vs
  | [], h => by simp at h
  | v :: vs, h => by
    by_cases hv : j ∈ vs
    · unfold wipe; rw [wipe_set hv]
    · have e : j = v := by simpa [hv] using h
      subst e
      have q : ∀ (ws : List Nat), j ∉ ws → wipe (σ.set j x) ws = (wipe σ ws).set j x := by
        intro ws
        induction ws with
        | nil => intro _; rfl
        | cons w ws ih =>
          intro hn
          simp only [List.mem_cons, not_or] at hn
          unfold wipe
          rw [ih hn.2, List.set_comm _ _ (fun z => hn.1 z)]
      unfold wipe
      rw [q vs hv, List.set_set]
theorem wipe_wipe (σ : St) : ∀ vs ws : List Nat, (∀ w ∈ ws, w ∈ vs) → wipe (wipe σ ws) vs = wipe σ vs
  | vs, [], _ => rfl
  | vs, w :: ws, h => by
    show wipe ((wipe σ ws).set w none) vs = wipe σ vs
    rw [wipe_set (h w (by simp)), wipe_wipe σ vs ws fun x hx => h x (by simp [hx])]
/-- a target that stores in vs alone -/
def GW (g : TG) (vs : List Nat) : Prop := ∀ x σ H (Q : St → Hp → Prop), g x σ H Q → g x σ H fun σ2 H2 => wipe σ2 vs = wipe σ vs ∧ Q σ2 H2
def GWs (g : TGs) (vs : List Nat) : Prop := ∀ xs σ H (Q : St → Hp → Prop), g xs σ H Q → g xs σ H fun σ2 H2 => wipe σ2 vs = wipe σ vs ∧ Q σ2 H2
theorem gw_name {i : Nat} {vs : List Nat} (h : i ∈ vs) : GW (gName i) vs := fun x σ H Q q => ⟨wipe_set h, q⟩
theorem gws_nil {vs : List Nat} : GWs gNil vs := fun xs σ H Q q => ⟨q.1, rfl, q.2⟩
theorem gws_cons {i : Nat} {gs : TGs} {vs : List Nat} (h : i ∈ vs) (h2 : GWs gs vs) : GWs (gCons (gName i) gs) vs := fun xs σ H Q q => by
  obtain ⟨v, r, e, q⟩ := q
  refine ⟨v, r, e, ?_⟩
  have z := h2 r (σ.set i (some v)) H Q q
  rw [show wipe (σ.set i (some v)) vs = wipe σ vs from wipe_set h] at z
  exact z
theorem gw_tup {K : PySem.W.Frag} {n : Nat} {gs : TGs} {vs : List Nat} (h : GWs gs vs) : GW (gTup K n gs) vs := fun x σ H Q q => by
  obtain ⟨a, xs, e, s, l, q⟩ := q
  exact ⟨a, xs, e, s, l, h xs σ H Q q⟩
section
variable {K : PySem.W.Frag} {B : Bs} {ρ : En} {μ : Mu} {te : TE} {tt : TT} {wi : TI} {g : TG} {vs : List Nat} {P : D → Mu → Prop}
/-- the list that a comprehension makes is frozen at its end -/
theorem de_lc (hg : GW g vs) (h : DI K B wi ρ μ fun ds S μ1 => ds.length ≤ 100000 ∧ ∃ Iv : Nat → List D → Mu → Prop, Iv 0 [] μ1 ∧ (∀ i acc μ', i ≤ ds.length → Iv i acc μ' → S μ') ∧
      (∀ i d acc μ', ds[i]? = some d → Iv i acc μ' → DG K B g d (wipeD ρ vs) μ' fun ρ2 μ2 => DT K B tt ρ2 μ2 fun b μ3 => (b = true → DE K B te ρ2 μ3 fun y μ4 => Iv (i + 1) (acc ++ [y]) μ4) ∧ (b = false → Iv (i + 1) acc μ3)) ∧
      (∀ acc μ', Iv ds.length acc μ' → P (.lst acc) μ')) : DE K B (tLc wi g tt te vs) ρ μ P := fun σ G H al hB hσ hA Q hQ =>
  h σ G H al hB hσ hA _ fun J ds S μ1 G1 H1 al1 n1 A1 ok p1 => by
    obtain ⟨hlen, Iv, h0, hS, hs, hd⟩ := p1
    intro Dl hDl
    have nDl : Dl ∉ al1 := fun m => A1.here Dl m hDl
    have gDl : G1 Dl = none := A1.sub.free hDl
    -- a store to the list that is made
    have store : ∀ {G' H' al' μ' ac}, Nx G1 H1 al1 G' H' al' → As K G' H' al' μ' → G' Dl = none → Dl ∉ al' → As K G' (upd H' Dl (.lst ac)) al' μ' ∧ Nx G1 H1 al1 G' (upd H' Dl (.lst ac)) al' := by
      intro G' H' al' μ' ac n A g' nal
      refine ⟨⟨fun b u e => by rw [upd_ne (ne_of_none e g')]; exact A.sub _ _ e, A.nd, A.len, fun a m => ?_, fun k a o e1 e2 => ?_⟩, ⟨n.g, n.p, fun a u h m => ?_, n.out, n.new⟩⟩
      · have z : a ≠ Dl := fun z => nal (z ▸ m)
        rw [upd_ne z]; exact A.here a m
      · have z : a ≠ Dl := fun z => nal (z ▸ List.mem_of_getElem? e1)
        exact OkO.mono (Same.refl _) (Pre.refl _) (fun _ g => g) (by rw [upd_ne z]) (A.ok k a o e1 e2)
      · rw [upd_ne (ne_of_none h hDl)]; exact n.keep a u h m
    -- Dl stays where it is through a step
    have stay : ∀ {G' H' al' G'' H'' al'' u}, Nx G' H' al' G'' H'' al'' → H' Dl = some (.lst u) → G' Dl = none → Dl ∉ al' → H'' Dl = some (.lst u) ∧ G'' Dl = none ∧ Dl ∉ al'' := by
      intro G' H' al' G'' H'' al'' u n h g' nal
      refine ⟨n.keep Dl (.lst u) h nal, n.out Dl (by rw [h]; simp) (fun vs e => by rw [h] at e; cases e) nal g', fun m => ?_⟩
      rcases n.new Dl m with z | z
      · exact nal z
      · rw [h] at z; cases z
    obtain ⟨A0, N0⟩ := store (ac := []) .refl A1 gDl nDl
    refine ⟨fun i m H' => m = ds.length - i ∧ i ≤ ds.length ∧ ∃ G' al' μ' acc vacc, Nx G1 H1 al1 G' H' al' ∧ As K G' H' al' μ' ∧ H' Dl = some (.lst vacc) ∧ Rps K G' al' vacc acc ∧ G' Dl = none ∧ Dl ∉ al' ∧ acc.length ≤ i ∧ Iv i acc μ',
      ⟨ds.length, by simp, Nat.zero_le _, G1, al1, μ1, [], [], N0, A0, upd_same, .nil, gDl, nDl, Nat.le_refl _, h0⟩, ?_⟩
    rintro i m H' ⟨rfl, hi, G', al', μ', acc, vacc, n', A', hv, rv, g', nal, hacc, iv⟩
    obtain ⟨go, stop, yld⟩ := ok G' H' al' μ' n' A' (hS i acc μ' hi iv)
    by_cases hlt : i < ds.length
    · refine .inr ⟨go i hlt, fun H2 => ∃ G2 al2 μ2 acc vacc, Nx G1 H1 al1 G2 H2 al2 ∧ As K G2 H2 al2 μ2 ∧ H2 Dl = some (.lst vacc) ∧ Rps K G2 al2 vacc acc ∧ G2 Dl = none ∧ Dl ∉ al2 ∧ acc.length ≤ i + 1 ∧ Iv (i + 1) acc μ2, fun H2 q => ⟨ds.length - (i + 1), by omega, rfl, hlt, q⟩, fun x H3 y => ?_⟩
      obtain ⟨G3, n3, A3, r3⟩ := yld i x H3 y _ (List.getElem?_eq_getElem hlt)
      obtain ⟨hv3, g3, nal3⟩ := stay n3 hv g' nal
      have nn3 := n'.trans n3
      have hw : RpS K G3 al' (wipe σ vs) (wipeD ρ vs) := wipe_rps ((hσ.nx n1).nx nn3) vs
      have q := hs i _ acc μ' (List.getElem?_eq_getElem hlt) iv (wipe σ vs) G3 H3 al' x (((hB.trans n1).trans n').trans n3) hw A3 r3
      have q2 := hg x (wipe σ vs) H3 _ (q (fun σ2 H2 => tt σ2 H2 fun b H3 => if b = true then te σ2 H3 fun y H4 => ∃ acc, H4 Dl = some (.lst acc) ∧ acc.length < sizeLine ∧ (∃ G2 al2 μ2 acc' vacc, Nx G1 H1 al1 G2 (upd H4 Dl (.lst (acc ++ [y]))) al2 ∧ As K G2 (upd H4 Dl (.lst (acc ++ [y]))) al2 μ2 ∧ (upd H4 Dl (.lst (acc ++ [y]))) Dl = some (.lst vacc) ∧ Rps K G2 al2 vacc acc' ∧ G2 Dl = none ∧ Dl ∉ al2 ∧ acc'.length ≤ i + 1 ∧ Iv (i + 1) acc' μ2)
          else (∃ G2 al2 μ2 acc' vacc, Nx G1 H1 al1 G2 H3 al2 ∧ As K G2 H3 al2 μ2 ∧ H3 Dl = some (.lst vacc) ∧ Rps K G2 al2 vacc acc' ∧ G2 Dl = none ∧ Dl ∉ al2 ∧ acc'.length ≤ i + 1 ∧ Iv (i + 1) acc' μ2)) fun σ4 ρ4 μ4 G4 H4 al4 n4 hσ4 A4 p4 => ?_)
      · rw [wipe_wipe σ vs vs fun _ h => h] at q2
        exact q2
      · obtain ⟨hv4, g4, nal4⟩ := stay n4 hv3 g3 nal3
        have nn4 := nn3.trans n4
        refine p4 σ4 G4 H4 al4 ((hB.trans n1).trans nn4) hσ4 A4 _ fun b μ5 G5 H5 al5 n5 A5 p5 => ?_
        obtain ⟨hv5, g5, nal5⟩ := stay n5 hv4 g4 nal4
        have nn5 := nn4.trans n5
        cases b with
        | false =>
          rw [if_neg (by simp)]
          exact ⟨G5, al5, μ5, acc, vacc, nn5, A5, hv5, (((rv.nx n3).nx n4).nx n5), g5, nal5, Nat.le_succ_of_le hacc, p5.2 rfl⟩
        | true =>
          rw [if_pos rfl]
          refine p5.1 rfl σ4 G5 H5 al5 ((hB.trans n1).trans nn5) (hσ4.nx n5) A5 _ fun yv y μ6 G6 H6 al6 n6 A6 r6 p6 => ?_
          obtain ⟨hv6, g6, nal6⟩ := stay n6 hv5 g5 nal5
          have rv6 := (((rv.nx n3).nx n4).nx n5).nx n6
          obtain ⟨A7, n7⟩ := store (ac := vacc ++ [yv]) (nn5.trans n6) A6 g6 nal6
          refine ⟨vacc, hv6, ?_, G6, al6, μ6, acc ++ [y], vacc ++ [yv], n7, A7, upd_same, rv6.append (.cons r6 .nil), g6, nal6, by simp; omega, p6⟩
          rw [rv6.length]
          exact Nat.lt_of_lt_of_le (Nat.lt_of_le_of_lt hacc (Nat.lt_of_lt_of_le hlt hlen)) (by decide)
    · have e : i = ds.length := by omega
      subst e
      refine .inl ⟨stop _ (Nat.le_refl _), ?_⟩
      have s1 : Same G' (upd G' Dl (.lst vacc)) := fun b u e => by rw [upd_ne (ne_of_none e g')]; exact e
      have A7 : As K (upd G' Dl (.lst vacc)) H' al' μ' := by
        refine ⟨fun b u e => ?_, A'.nd, A'.len, A'.here, fun k a o e1 e2 => ?_⟩
        · by_cases hb : b = Dl
          · subst hb; rw [upd_same] at e; rw [← e]; exact hv
          · rw [upd_ne hb] at e; exact A'.sub _ _ e
        · have z : a ≠ Dl := fun z => nal (z ▸ List.mem_of_getElem? e1)
          exact OkO.mono s1 (Pre.refl _) (fun _ g => by rw [upd_ne z]; exact g) rfl (A'.ok k a o e1 e2)
      have n7 : Nx G1 H1 al1 (upd G' Dl (.lst vacc)) H' al' := ⟨n'.g.trans s1, n'.p, n'.keep, fun a h t m g => by
        have z : a ≠ Dl := fun z => h (by rw [z]; exact hDl)
        rw [upd_ne z]; exact n'.out a h t m g, n'.new⟩
      exact hQ _ _ _ _ _ _ (n1.trans n7) A7 (.lst upd_same (rv.mono s1 (Pre.refl _))) (hd acc μ' iv)
theorem dt_yes {PT' : Bool → Mu → Prop} (h : PT' true μ) : DT K B tYes ρ μ PT' := fun σ G H al hB hσ hA Q hQ => hQ true μ G H al .refl hA h
end
end Dl
set_option Elab.async false
set_option linter.all false
set_option maxRecDepth 100000
namespace Dl
open PySem L2 PyProof.Rows
/-! ### what names no thing from the n-th on -/
mutual
def D.cl : D → Nat → Bool
  | .tup xs, n => clL xs n
  | .lst xs, n => clL xs n
  | .rdl xs, n => clL xs n
  | .rdt xs, n => clL xs n
  | .obj _ gs, n => clF gs n
  | .exc _ gs, n => clF gs n
  | .dct gs, n => clK gs n
  | .own k, n => decide (k < n)
  | .non, _ => true
  | .bl _, _ => true
  | .int _, _ => true
  | .str _, _ => true
  | .ty _, _ => true
  | .loc _, _ => true
def clL : List D → Nat → Bool
  | [], _ => true
  | x :: xs, n => D.cl x n && clL xs n
def clF : List (Str × D) → Nat → Bool
  | [], _ => true
  | (_, x) :: xs, n => D.cl x n && clF xs n
def clK : List (Key × D) → Nat → Bool
  | [], _ => true
  | (_, x) :: xs, n => D.cl x n && clK xs n
end
def MO.cl : MO → Nat → Bool
  | .dead, _ => true
  | .lst xs, n => clL xs n
  | .ins _ gs, n => clF gs n
  | .dK gs, n => clK gs n
  | .dT gs, n => clL (gs.map (·.2)) n
  | .tab _ _, _ => true
theorem clL_iff {xs : List D} {n : Nat} : clL xs n = true ↔ ∀ x ∈ xs, x.cl n = true := by
  induction xs with
  | nil => simp [clL]
  | cons x xs ih => simp [clL, ih]
theorem clL_map {α : Type} {f : α → D} {xs : List α} {n : Nat} (h : ∀ x ∈ xs, (f x).cl n = true) : clL (xs.map f) n = true := by
  rw [clL_iff]
  intro x hx
  obtain ⟨a, ha, rfl⟩ := List.mem_map.mp hx
  exact h a ha
@[simp] theorem clL_append {xs ys : List D} {n : Nat} : clL (xs ++ ys) n = (clL xs n && clL ys n) := by
  induction xs with
  | nil => simp [clL]
  | cons x xs ih => simp [clL, ih, Bool.and_assoc]
section
variable {K : PySem.W.Frag} {G : Hp} {al be : List Addr}
mutual
theorem Rp.cl : ∀ {v : V} {d : D}, Rp K G al v d → d.cl al.length = true
  | _, _, .non => by simp [D.cl]
  | _, _, .bl _ => by simp [D.cl]
  | _, _, .int _ => by simp [D.cl]
  | _, _, .str _ => by simp [D.cl]
  | _, _, .ty _ => by simp [D.cl]
  | _, _, .tup _ r => by unfold D.cl; exact Rps.cl r
  | _, _, .lst _ r => by unfold D.cl; exact Rps.cl r
  | _, _, .rdl _ r => by unfold D.cl; exact Rps.cl r
  | _, _, .rdt _ r => by unfold D.cl; exact Rps.cl r
  | _, _, .obj _ r => by unfold D.cl; exact Rpf.cl r
  | _, _, .dct _ r => by unfold D.cl; exact Rpk.cl r
  | _, _, .own h => by unfold D.cl; exact decide_eq_true (List.getElem?_eq_some_iff.mp h).1
  | _, _, .loc _ => by simp [D.cl]
  | _, _, .exc _ _ r => by unfold D.cl; exact Rpf.cl r
theorem Rps.cl : ∀ {v : List V} {d : List D}, Rps K G al v d → clL d al.length = true
  | _, _, .nil => by simp [clL]
  | _, _, .cons h r => by unfold clL; rw [Rp.cl h, Rps.cl r]; rfl
theorem Rpf.cl : ∀ {v : List (Str × V)} {d : List (Str × D)}, Rpf K G al v d → clF d al.length = true
  | _, _, .nil => by simp [clF]
  | _, _, .cons h r => by unfold clF; rw [Rp.cl h, Rpf.cl r]; rfl
theorem Rpk.cl : ∀ {v : List (Key × V)} {d : List (Key × D)}, Rpk K G al v d → clK d al.length = true
  | _, _, .nil => by simp [clK]
  | _, _, .cons h r => by unfold clK; rw [Rp.cl h, Rpk.cl r]; rfl
end
mutual
theorem Rp.shrink : ∀ {v : V} {d : D}, Rp K G (al ++ be) v d → d.cl al.length = true → Rp K G al v d
  | _, _, .non, _ => .non
  | _, _, .bl b, _ => .bl b
  | _, _, .int i, _ => .int i
  | _, _, .str x, _ => .str x
  | _, _, .ty x, _ => .ty x
  | _, _, .tup e r, h => .tup e (Rps.shrink r (by unfold D.cl at h; exact h))
  | _, _, .lst e r, h => .lst e (Rps.shrink r (by unfold D.cl at h; exact h))
  | _, _, .rdl e r, h => .rdl e (Rps.shrink r (by unfold D.cl at h; exact h))
  | _, _, .rdt e r, h => .rdt e (Rps.shrink r (by unfold D.cl at h; exact h))
  | _, _, .obj e r, h => .obj e (Rpf.shrink r (by unfold D.cl at h; exact h))
  | _, _, .dct e r, h => .dct e (Rpk.shrink r (by unfold D.cl at h; exact h))
  | _, _, .own e, h => .own (by
      unfold D.cl at h
      rw [List.getElem?_append_left (of_decide_eq_true h)] at e
      exact e)
  | _, _, .loc a, _ => .loc a
  | _, _, .exc e d r, h => .exc e d (Rpf.shrink r (by unfold D.cl at h; exact h))
theorem Rps.shrink : ∀ {v : List V} {d : List D}, Rps K G (al ++ be) v d → clL d al.length = true → Rps K G al v d
  | _, _, .nil, _ => .nil
  | _, _, .cons r t, h => by
    unfold clL at h; simp at h
    exact .cons (Rp.shrink r h.1) (Rps.shrink t h.2)
theorem Rpf.shrink : ∀ {v : List (Str × V)} {d : List (Str × D)}, Rpf K G (al ++ be) v d → clF d al.length = true → Rpf K G al v d
  | _, _, .nil, _ => .nil
  | _, _, .cons r t, h => by
    unfold clF at h; simp at h
    exact .cons (Rp.shrink r h.1) (Rpf.shrink t h.2)
theorem Rpk.shrink : ∀ {v : List (Key × V)} {d : List (Key × D)}, Rpk K G (al ++ be) v d → clK d al.length = true → Rpk K G al v d
  | _, _, .nil, _ => .nil
  | _, _, .cons r t, h => by
    unfold clK at h; simp at h
    exact .cons (Rp.shrink r h.1) (Rpk.shrink t h.2)
end
end
def MuCl (μ : Mu) (n : Nat) : Prop := ∀ o ∈ μ, o.cl n = true
section
variable {K : PySem.W.Frag} {G H : Hp} {al be : List Addr} {μ ext : Mu}
theorem As.cl (A : As K G H al μ) : MuCl μ μ.length := fun o ho => by
  obtain ⟨k, hk⟩ := List.getElem?_of_mem ho
  obtain ⟨a, ha, ok⟩ := A.get hk
  rw [← A.len]
  cases o with
  | dead => rfl
  | lst ds => obtain ⟨_, _, _, r⟩ := ok; exact r.cl
  | ins C gs => obtain ⟨_, _, _, _, r⟩ := ok; exact r.cl
  | dK gs => obtain ⟨_, _, _, r⟩ := ok; exact r.cl
  | dT gs => obtain ⟨_, _, _, _, r⟩ := ok; exact r.cl
  | tab _ _ => rfl
theorem As.shrink (A : As K G H (al ++ be) (μ ++ ext)) (hl : al.length = μ.length) (hc : MuCl μ μ.length) : As K G H al μ := by
  refine ⟨A.sub, (List.nodup_append.mp A.nd).1, hl, fun a m => A.here a (List.mem_append_left _ m), fun k a o e1 e2 => ?_⟩
  have hk : k < al.length := (List.getElem?_eq_some_iff.mp e1).1
  have ok := A.ok k a o (by rw [List.getElem?_append_left hk]; exact e1) (by rw [List.getElem?_append_left (by rw [← hl]; exact hk)]; exact e2)
  have c := hc o (List.mem_of_getElem? e2)
  rw [← hl] at c
  cases o with
  | dead => trivial
  | lst ds => obtain ⟨g, vs, e, r⟩ := ok; exact ⟨g, vs, e, r.shrink c⟩
  | ins C gs => obtain ⟨g, dx, vs, e, r⟩ := ok; exact ⟨g, dx, vs, e, r.shrink c⟩
  | dK gs => obtain ⟨g, vs, e, r⟩ := ok; exact ⟨g, vs, e, r.shrink c⟩
  | dT gs => obtain ⟨g, vs, e, q, r⟩ := ok; exact ⟨g, vs, e, q, r.shrink c⟩
  | tab _ _ => exact ok
theorem Nx.shrink {G' H' : Hp} {al' : List Addr} (n : Nx G H al G' H' (al ++ al')) : Nx G H al G' H' al := ⟨n.g, Pre.refl _, n.keep, n.out, fun a m => .inl m⟩
end
/-! ### exceptions -/
abbrev PXT := Addr → List (Str × D) → Mu → Prop
/-- the own dict of an exception, frozen -/
def XRep (K : PySem.W.Frag) (G : Hp) (al : List Addr) (dd : Option Addr) (fs : List (Str × D)) : Prop := (dd = none ∧ fs = []) ∨ ∃ d vs, dd = some d ∧ G d = some (.xd vs) ∧ Rpf K G al vs fs
def XAg (K : PySem.W.Frag) (B : Bs) (PX : PXT) (E : XK) : Prop := ∀ C fs dd μ' G' H' al', B.le G' H' al' → As K G' H' al' μ' → XRep K G' al' dd fs → PX C fs μ' → E (.ref C) dd H'
theorem XAg.nx {K : PySem.W.Frag} {B : Bs} {PX : PXT} {E : XK} {G H : Hp} {al : List Addr} (n : B.le G H al) (h : XAg K B PX E) : XAg K ⟨G, H, al⟩ PX E := fun C fs dd μ' G' H' al' n' A r p => h C fs dd μ' G' H' al' (n.trans n') A r p
theorem XAg.none {K : PySem.W.Frag} {B : Bs} {E : XK} : XAg K B (fun _ _ _ => False) E := fun _ _ _ _ _ _ _ _ _ _ p => p.elim
theorem Rpf.nx {K : PySem.W.Frag} {G H G1 H1 : Hp} {al al1 : List Addr} (n : Nx G H al G1 H1 al1) {v : List (Str × V)} {d : List (Str × D)} (h : Rpf K G al v d) : Rpf K G1 al1 v d := h.mono n.g n.p
/-! ### contracts -/
abbrev CT := List D → Mu → (D → Mu → Prop) → PXT → Prop
def spD (K : PySem.W.Frag) (C : CT) : Sp := fun vs H Q E => ∃ G al ds μ P PX, As K G H al μ ∧ Rps K G al vs ds ∧ C ds μ P PX ∧ KV K G H al P Q ∧ XAg K ⟨G, H, al⟩ PX E
/-- behind a call: the callee's own things are forgotten, but those that are handed on -/
def Ret (n : Nat) (P : D → Mu → Prop) (d : D) (μ' : Mu) : Prop := ∃ μ1 ext, μ' = μ1 ++ ext ∧ n ≤ μ1.length ∧ MuCl μ1 μ1.length ∧ d.cl μ1.length = true ∧ P d μ1
def RetX (n : Nat) (PX : PXT) : PXT := fun C fs μ' => ∃ μ1 ext, μ' = μ1 ++ ext ∧ μ1.length = n ∧ MuCl μ1 n ∧ clF fs n = true ∧ PX C fs μ1
theorem XAg.ret {K : PySem.W.Frag} {G1 H1 G2 H2 : Hp} {al1 al2 : List Addr} {PX : PXT} {E : XK} (h : XAg K ⟨G1, H1, al1⟩ PX E) (n2 : Nx G1 H1 al1 G2 H2 al2) : XAg K ⟨G2, H2, al2⟩ (RetX al1.length PX) E := by
  intro C fs dd μ' G' H' al' n A' xr ⟨μ1, ext, e, hl, hcl, hf, hp⟩
  have n' : Nx G1 H1 al1 G' H' al' := n2.trans n
  obtain ⟨be, rfl⟩ := n'.p
  subst e
  refine h C fs dd μ1 G' H' al1 n'.shrink (A'.shrink hl.symm (by rw [hl]; exact hcl)) ?_ hp
  rcases xr with ⟨h1, h2⟩ | ⟨d, vs, h1, h2, h3⟩
  · exact .inl ⟨h1, h2⟩
  · exact .inr ⟨d, vs, h1, h2, h3.shrink hf⟩
def fnE (n : Nat) (P : D → Mu → Prop) : DEnds := { nx := fun _ μ' => Ret n P .non μ', rt := Ret n P }
theorem ret_same {μ ext : Mu} {n : Nat} {P : D → Mu → Prop} {d : D} (hn : n ≤ μ.length) (hc : MuCl μ μ.length) (hd : d.cl μ.length = true) (h : P d μ) : Ret n P d (μ ++ ext) := ⟨μ, ext, rfl, hn, hc, hd, h⟩
theorem ret_same0 {μ : Mu} {n : Nat} {P : D → Mu → Prop} {d : D} (hn : n ≤ μ.length) (hc : MuCl μ μ.length) (hd : d.cl μ.length = true) (h : P d μ) : Ret n P d μ := ⟨μ, [], by simp, hn, hc, hd, h⟩
theorem retx_same0 {μ : Mu} {PX : PXT} {C : Addr} {fs : List (Str × D)} (hc : MuCl μ μ.length) (hd : clF fs μ.length = true) (h : PX C fs μ) : RetX μ.length PX C fs μ := ⟨μ, [], by simp, rfl, hc, hd, h⟩
theorem MuCl.set {μ : Mu} {n k : Nat} {o : MO} (h : MuCl μ n) (ho : o.cl n = true) : MuCl (μ.set k o) n := fun x hx => by
  rcases List.mem_or_eq_of_mem_set hx with m | e
  · exact h x m
  · subst e; exact ho
theorem MuCl.get {μ : Mu} {n k : Nat} {o : MO} (h : MuCl μ n) (e : μ[k]? = some o) : o.cl n = true := h o (List.mem_of_getElem? e)
def startD (N : List Str) (ds : List D) : En := ds.map some ++ List.replicate (N.length - ds.length) none
theorem start_rp {K : PySem.W.Frag} {G : Hp} {al : List Addr} {N : List Str} {vs : List V} {ds : List D} (h : Rps K G al vs ds) : RpS K G al (L2.start N vs) (startD N ds) := by
  have hl := h.length
  refine ⟨by simp [L2.start, startD, hl], fun i d e => ?_⟩
  unfold startD at e
  unfold L2.start
  by_cases hi : i < ds.length
  · rw [List.getElem?_append_left (by simpa using hi), List.getElem?_map] at e
    cases q : ds[i]? with
    | none => rw [q] at e; cases e
    | some x =>
      rw [q] at e
      have ex : x = d := by simpa using e
      subst ex
      obtain ⟨v, hv, r⟩ := h.get q
      refine ⟨v, ?_, r⟩
      rw [List.getElem?_append_left (by simp [hl, hi]), List.getElem?_map, hv]
      rfl
  · rw [List.getElem?_append_right (by simp; omega), List.getElem?_replicate] at e
    split at e <;> simp at e
section
variable {P : Program} {w : World} {K : PySem.W.Frag} {mg : Str → Option Value} {base : Heap}
theorem sem_of {C : CT} {N : List Str} {t : XK → TS} (hn : ∀ ds μ P PX, C ds μ P PX → ds.length ≤ N.length) (sem : ∀ ds μ P PX, C ds μ P PX → MuCl μ μ.length → clL ds μ.length = true → ∀ B E, XAg K B (RetX μ.length PX) E → DS K B (t E) (startD N ds) μ (fnE μ.length P))
    {vs : List V} {H : Hp} {Q : VK} {E : XK} (h : spD K C vs H Q E) : t E { nx := fun _ H' => Q .non H', rt := Q } (L2.start N vs) H := by
  obtain ⟨G, al, ds, μ, P, PX, A, r, c, hQ, hX⟩ := h
  have hc := A.cl
  have sh : ∀ {v : V} {d : D} {μ' : Mu} {G' H' : Hp} {al' : List Addr}, Nx G H al G' H' al' → As K G' H' al' μ' → Rp K G' al' v d → Ret μ.length P d μ' → Q v H' := by
    intro v d μ' G' H' al' n A' rv ⟨μ1, ext, e, hl, hcl, hd, hp⟩
    subst e
    have hlen : μ1.length ≤ al'.length := by rw [A'.len]; simp
    have e1 : al' = al'.take μ1.length ++ al'.drop μ1.length := (List.take_append_drop _ _).symm
    have l1 : (al'.take μ1.length).length = μ1.length := by rw [List.length_take]; omega
    have pre : Pre al (al'.take μ1.length) := by
      obtain ⟨be, e2⟩ := n.p
      refine ⟨(be.take (μ1.length - al.length)), ?_⟩
      rw [e2, List.take_append]
      rw [List.take_of_length_le (by rw [A.len]; exact hl)]
    have n1 : Nx G H al G' H' (al'.take μ1.length) := ⟨n.g, pre, n.keep, n.out, fun a m => n.new a (List.mem_of_mem_take m)⟩
    rw [e1] at A' rv
    exact hQ v d μ1 G' H' _ n1 (A'.shrink l1 hcl) (rv.shrink (by rw [l1]; exact hd)) hp
  refine sem ds μ P PX c hc (by rw [← A.len]; exact r.cl) ⟨G, H, al⟩ E ?_ _ G H al .refl (start_rp r) A _ ⟨fun σ' ρ' μ' G' H' al' n hσ A' p => sh n A' .non p, fun v d μ' G' H' al' n A' rv p => sh n A' rv p, fun _ _ _ _ _ _ _ _ _ p => p.elim, fun _ _ _ _ _ _ _ _ _ p => p.elim⟩
  rw [← A.len]
  exact hX.ret .refl
end
/-! ### calls -/
section
variable {K : PySem.W.Frag} {B : Bs} {ρ : En} {μ : Mu} {te : TE} {ts : TA} {P : D → Mu → Prop} {PX : PXT} {E : XK} {C : CT} {dvs : List V} {dds : List D}
theorem de_call (hE : XAg K B PX E) (h : DA K B ts ρ μ fun ds μ1 => C ds μ1 P PX) : DE K B (tCall (spD K C) [] E ts) ρ μ P := fun σ G H al hB hσ hA Q hQ =>
  h σ G H al hB hσ hA _ fun vs ds μ1 G1 H1 al1 n1 A1 r1 p1 => by
    rw [List.append_nil]
    exact ⟨G1, al1, ds, μ1, P, PX, A1, r1, p1, hQ.nx n1, hE.nx (hB.trans n1)⟩
theorem de_meth {Cc : Addr} {m : Str} (hE : XAg K B PX E) (h : DE K B te ρ μ fun x μ1 => ∃ gs, (x = .obj Cc gs ∨ ∃ k, x = .own k ∧ μ1[k]? = some (.ins Cc gs)) ∧ gs.lookup m = none ∧ DA K B ts ρ μ1 fun ds μ2 => C (x :: ds) μ2 P PX) : DE K B (tMeth Cc m (spD K C) [] E te ts) ρ μ P := fun σ G H al hB hσ hA Q hQ =>
  h σ G H al hB hσ hA _ fun v x μ1 G1 H1 al1 n1 A1 r1 p1 => by
    obtain ⟨gs, hx, hl, p⟩ := p1
    have key : ∃ a dx fs, v = .ref a ∧ H1 a = some (.ins Cc dx fs) ∧ fs.lookup m = none := by
      rcases hx with rfl | ⟨k, rfl, hk⟩
      · cases r1 with | obj e rf => exact ⟨_, _, _, rfl, A1.sub _ _ e, rf.none hl⟩
      · obtain ⟨a, ha, ga, dx, fs, hv, rf⟩ := A1.get hk
        cases r1 with | own e => rw [ha] at e; cases e; exact ⟨_, _, _, rfl, hv, rf.none hl⟩
    obtain ⟨a, dx, fs, e, hv, hm⟩ := key
    refine ⟨a, dx, fs, e, hv, hm, p σ G1 H1 al1 (hB.trans n1) (hσ.nx n1) A1 _ fun vs ds μ2 G2 H2 al2 n2 A2 r2 p2 => ?_⟩
    rw [List.append_nil]
    exact ⟨G2, al2, x :: ds, μ2, P, PX, A2, .cons (r1.nx n2) r2, p2, hQ.nx (n1.trans n2), hE.nx (hB.trans (n1.trans n2))⟩
/-- C(..): the new instance is frozen behind its __init__ -/
theorem de_make {Cc : Addr} (hE : XAg K B PX E) (hd : ∀ G al, Rps K G al dvs dds) (h : DA K B ts ρ μ fun ds μ1 => C (.own μ1.length :: (ds ++ dds)) (μ1 ++ [.ins Cc []]) (fun d μ2 => d = .non ∧ ∃ gs, μ2 = μ1 ++ [.ins Cc gs] ∧ clF gs μ1.length = true ∧ P (.obj Cc gs) μ1) (RetX μ1.length PX)) : DE K B (tMake Cc (spD K C) dvs E ts) ρ μ P := fun σ G H al hB hσ hA Q hQ =>
  h σ G H al hB hσ hA _ fun vs ds μ1 G1 H1 al1 n1 A1 r1 p1 => by
    intro x dx hx hdx hne
    -- the own dict first
    have nx1 : x ≠ dx := hne.symm
    have A2 : As K G1 (upd H1 dx (.own x)) al1 μ1 ∧ Nx G1 H1 al1 G1 (upd H1 dx (.own x)) al1 := by
      have gd : G1 dx = none := A1.sub.free hdx
      have nal : dx ∉ al1 := fun m => A1.here dx m hdx
      refine ⟨⟨fun b u e => by rw [upd_ne (ne_of_none e gd)]; exact A1.sub _ _ e, A1.nd, A1.len, fun a m => ?_, fun k a o e1 e2 => ?_⟩, ⟨Same.refl _, Pre.refl _, fun a u h _ => by rw [upd_ne (ne_of_none h hdx)]; exact h, fun _ _ _ _ g => g, fun _ m => .inl m⟩⟩
      · have z : a ≠ dx := fun z => nal (z ▸ m)
        rw [upd_ne z]; exact A1.here a m
      · have z : a ≠ dx := fun z => nal (z ▸ List.mem_of_getElem? e1)
        exact OkO.mono (Same.refl _) (Pre.refl _) (fun _ g => g) (by rw [upd_ne z]) (A1.ok k a o e1 e2)
    obtain ⟨A2, n2⟩ := A2
    have hx2 : (upd H1 dx (.own x)) x = none := by rw [upd_ne nx1]; exact hx
    obtain ⟨A3, n3⟩ := A2.own (o := .ins Cc dx []) (m := .ins Cc []) hx2 ⟨A2.sub.free hx2, dx, [], upd_same, .nil⟩
    refine ⟨G1, al1 ++ [x], .own μ1.length :: (ds ++ dds), μ1 ++ [.ins Cc []], _, _, A3, .cons (.own (by rw [← A1.len]; simp)) ((((r1.nx n2).nx n3).append (hd _ _))), p1, ?_, by rw [← A1.len]; exact (hE.nx (hB.trans n1)).ret (n2.trans n3)⟩
    intro v d μ2 G4 H4 al4 n4 A4 r4 p4
    obtain ⟨rfl, gs, rfl, hcl, hp⟩ := p4
    cases r4
    refine ⟨rfl, ?_⟩
    have hal : al4[μ1.length]? = some x := n4.p.get (by rw [← A1.len]; simp)
    obtain ⟨a, ha, ga, dx4, fs4, hv4, rf4⟩ := A4.get (k := μ1.length) (m := .ins Cc gs) (by simp)
    rw [hal] at ha; cases ha
    obtain ⟨A5, n5⟩ := A4.freeze hal hv4 ga
    have nn : Nx G1 H1 al1 (upd G4 x (.ins Cc dx4 fs4)) H4 al4 := ((n2.trans n3).trans n4).trans n5
    obtain ⟨be, rfl⟩ := nn.p
    have e5 : (μ1 ++ [MO.ins Cc gs]).set μ1.length MO.dead = μ1 ++ [.dead] := by simp
    rw [e5] at A5
    refine hQ (.ref x) (.obj Cc gs) μ1 _ H4 al1 (n1.trans nn.shrink) (A5.shrink A1.len A1.cl) ?_ hp
    exact .obj upd_same ((rf4.nx n5).shrink (by rw [A1.len]; exact hcl))
theorem da_nd : ∀ G al, Rps K G al [] [] := fun _ _ => .nil
end
end Dl
set_option Elab.async false
set_option linter.all false
set_option maxRecDepth 100000
namespace L2
open PySem PySem.Spec PyProof.Rows
section
variable {X : Cx} {a b c d : Expr} {ta tb tc td : TE} {pos : Pos}
/-- a op1 b op2 c op3 d -/
def tChain3 (r r' r3 : R2) (ta tb tc td : TE) : TE := fun σ H Q => ta σ H fun x H1 => tb σ H1 fun y H2 => r x y H2 fun z H3 => ∃ k, z = .bl k ∧
  (if k = true then tc σ H3 fun w' H4 => r' y w' H4 fun z2 H5 => ∃ k2, z2 = .bl k2 ∧ (if k2 = true then td σ H5 fun u H6 => r3 w' u H6 Q else Q (.bl false) H5) else Q (.bl false) H3)
end
/-- two readings of one expression -/
theorem PE.or {X : Cx} {e : Expr} {t u : TE} (h : PE X e t) (h' : PE X e u) : PE X e (fun σ H Q => t σ H Q ∨ u σ H Q) := ⟨fun pins s σ H Q I hw => hw.elim (h.run pins s σ H Q I) (h'.run pins s σ H Q I)⟩
/-! ### operators of any kind -/
def rAddS : R2 := fun x y H Q => ∃ i j, x = .str i ∧ y = .str j ∧ i.length + j.length ≤ sizeLine ∧ Q (.str (i ++ j)) H
def rAddA (K : PySem.W.Frag) : R2 := fun x y H Q => rI0 (fun i j => .int (i + j)) x y H Q ∨ rCat x y H Q ∨ rAddS x y H Q ∨ rCatT K x y H Q
def rMulA : R2 := fun x y H Q => rI CMul (fun i j => .int (i * j)) x y H Q ∨ rI CMulW (fun i j => .int (i * j)) x y H Q ∨ rRep x y H Q
section
variable {X : Cx}
theorem op_addA : OpR X (binaryOp .Add) (rAddA X.K) := op_add.or (op_cat.or (op_add_str.or op_catT))
theorem op_mulA : OpR X (binaryOp .Mult) rMulA := op_mul.or (op_mulW.or op_rep)
end
def rFdivA : R2 := fun x y H Q => rI CDivW (fun i j => .int (i / j)) x y H Q ∨ rI CDivN (fun i j => .int (i.fdiv j)) x y H Q
def rModA : R2 := fun x y H Q => rI (fun _ j => 0 < j) (fun i j => .int (i % j)) x y H Q ∨ rI (fun _ j => j ≠ 0) (fun i j => .int (i.fmod j)) x y H Q
section
variable {X : Cx}
theorem op_fdivA : OpR X (binaryOp .FloorDiv) rFdivA := op_fdivW.or op_fdivN
theorem op_modA : OpR X (binaryOp .Mod) rModA := op_mod.or op_modN
end
/-- a list, a tuple, a text walked -/
def iAny (K : PySem.W.Frag) (tl : TE) : TI := fun σ H R => tl σ H fun x H1 => (∃ a, x = .ref a ∧ (∃ xs, SqL K H1 a xs) ∧ R (Itl K a) H1) ∨ (∃ a, x = .ref a ∧ (∃ xs, SqT K H1 a xs) ∧ R (Itt K a) H1) ∨ ∃ s, x = .str s ∧ R (Its s) H1
theorem pi_any {X : Cx} {tg l : Expr} {tl : TE} (hl : PE X l tl) : PI X tg l (iAny X.K tl) := by
  refine ⟨fun pins s σ H R I h => ?_⟩
  refine thn (hl.run pins s σ H _ I h) fun v s1 ⟨x, H1, I1, r1, q1⟩ => ?_
  rcases q1 with ⟨a, e, ⟨xs, hq⟩, q⟩ | ⟨a, e, ⟨xs, hq⟩, q⟩ | ⟨z, e, q⟩
  · subst e
    cases r1
    obtain ⟨its, rv, p, hz⟩ := I1.list hq
    refine wpAny_pyIter_list p.isList ?_
    refine ⟨s1.heap.objs.size, [s1.heap.objs.size], _, _, H1, rfl, I1.kept (t' := s1.toks) fun b o e => Heap.get?_push_of_some _ e, turn_list a _, ⟨_, Heap.get?_push_size _ rfl, rfl, rfl⟩, fun b hb => ?_, q⟩
    have e : b = s1.heap.objs.size := by simpa using hb
    subst e
    exact I1.fpOk (Nat.le_refl _) (I1.hok.fresh (Nat.le_refl _))
  · subst e
    cases r1
    obtain ⟨its, rv, p, hz⟩ := I1.tuple hq
    refine wpAny_pyIter_tuple (show s1.heap.IsTuple a its.toArray from p) ?_
    refine ⟨s1.heap.objs.size, [s1.heap.objs.size], _, _, H1, rfl, I1.kept (t' := s1.toks) fun b o e => Heap.get?_push_of_some _ e, turn_tuple a _, ⟨_, Heap.get?_push_size _ rfl, rfl, rfl⟩, fun b hb => ?_, q⟩
    have e : b = s1.heap.objs.size := by simpa using hb
    subst e
    exact I1.fpOk (Nat.le_refl _) (I1.hok.fresh (Nat.le_refl _))
  · subst e
    obtain ⟨t, rfl⟩ := r1
    cases ha : z.cps.all (· < 128)
    · exact wpAny_pyIter_wide ha (pi_one (tk := s1.toks) I1 _ (turn_str _ z t "str_iterator" (.inr rfl)) ⟨_, Heap.get?_push_size _ rfl, rfl, rfl⟩ q)
    · exact wpAny_pyIter_ascii ha (pi_one (tk := s1.toks) I1 _ (turn_str _ z t "str_ascii_iterator" (.inl rfl)) ⟨_, Heap.get?_push_size _ rfl, rfl, rfl⟩ q)
def rSlA (K : PySem.W.Frag) : V → Option Int → Option Int → Hp → VK → Prop := fun x lo hi H Q => rSlL K x lo hi H Q ∨ (∃ z, x = .str z ∧ z.length ≤ sizeLine ∧ Q (.str (cutS z lo hi)) H) ∨ rSlT K x lo hi H Q
theorem sl_any {X : Cx} : SlR X (rSlA X.K) := sl_list.or (sl_str.or sl_tup)
/-- an own exception without an __init__ of its own -/
structure ExC (K : PySem.W.Frag) (mg : Str → Option Value) (x : Str) : Prop where
  xc : PySem.W.excIn K (He.ga K x) He.veBase "ValueError.__new__" = true
  gc : mg x = some (.ref (He.ga K x))
  kc : PySem.W.keepIn K (.ref (He.ga K x)) = true
  bc : PySem.W.subIn K (.ref (He.ga K x)) (.type "BaseException") = some true
  tc : PySem.W.typeIn K (.ref (He.ga K x)) = some (.type "type")
/-- a value's truth -/
def tTruth (K : PySem.W.Frag) (ta : TE) : TT := fun σ H Q => ta σ H fun x H' => ∃ k, TruV K x H' k ∧ Q k H'
/-- a raise of an own class without fields -/
def tRaise0 (C : Addr) (E : XK) : TS := fun _ σ H => E (.ref C) none H
def _root_.Dl.rLen (K : PySem.W.Frag) : List V → Hp → VK → Prop := fun xs H Q => ∃ x n, xs = [x] ∧ LenV K x H n ∧ Q (.int (n : Nat)) H
def rMax2 : List V → Hp → VK → Prop := fun xs H Q => ∃ i j, xs = [.int i, .int j] ∧ Q (.int (if j > i then j else i)) H
def rMin2 : List V → Hp → VK → Prop := fun xs H Q => ∃ i j, xs = [.int i, .int j] ∧ Q (.int (if j < i then j else i)) H
def rMaxA (K : PySem.W.Frag) : List V → Hp → VK → Prop := fun xs H Q => rMax2 xs H Q ∨ rMax K xs H Q
def rMinA (K : PySem.W.Frag) : List V → Hp → VK → Prop := fun xs H Q => rMin2 xs H Q ∨ rMin K xs H Q
theorem call_maxA {X : Cx} (hc : X.calm = true) : CallR X (.builtin "max") (rMaxA X.K) := (call_max2 hc).or (cr_max hc)
theorem call_minA {X : Cx} (hc : X.calm = true) : CallR X (.builtin "min") (rMinA X.K) := (call_min2 hc).or (cr_min hc)
def rListOf (K : PySem.W.Frag) : List V → Hp → VK → Prop := fun xs H Q => ∃ p ys, xs = [.ref p] ∧ (SqL K H p ys ∨ SqT K H p ys) ∧ ∀ l, H l = none → Q (.ref l) (upd H l (.lst ys))
end L2
namespace Dl
open PySem L2 PyProof.Rows
section
variable {K : PySem.W.Frag} {μ : Mu} {P : D → Mu → Prop} {i j : Int} {x y d : D} {ds es : List D}
theorem ro_addI (h : P (.int (i + j)) μ) : RO K (rAddA K) (.int i) (.int j) μ P := fun G H al v w A r1 r2 Q hQ => .inl (ro_i (f := fun i j => i + j) h G H al v w A r1 r2 Q hQ)
theorem ro_addL (h1 : Lt μ x ds) (h2 : Lt μ y es) (hs : ds.length + es.length ≤ 100000) (h : P (.lst (ds ++ es)) μ) : RO K (rAddA K) x y μ P := fun G H al v w A r1 r2 Q hQ => .inr (.inl (ro_cat h1 h2 hs h G H al v w A r1 r2 Q hQ))
theorem ro_mulI (hc : CMul i j) (h : P (.int (i * j)) μ) : RO K rMulA (.int i) (.int j) μ P := fun G H al v w A r1 r2 Q hQ => .inl (ro_ic (f := fun i j => i * j) hc h G H al v w A r1 r2 Q hQ)
def repD (xs : List D) (k : Int) : List D := (List.replicate k.toNat xs).flatten
theorem rps_rep {G : Hp} {al : List Addr} {vs : List V} (h : Rps K G al vs ds) (n : Nat) : Rps K G al (List.replicate n vs).flatten (List.replicate n ds).flatten := by
  induction n with
  | zero => exact .nil
  | succ n ih => rw [List.replicate_succ, List.replicate_succ, List.flatten_cons, List.flatten_cons]; exact h.append ih
theorem ro_rep (h1 : Lt μ x ds) (hj : -100000 ≤ j ∧ j ≤ 100000) (hs : ds.length * j.toNat ≤ 100000) (h : P (.lst (repD ds j)) μ) : RO K rMulA x (.int j) μ P := fun G H al v w A r1 r2 Q hQ => by
  obtain ⟨a, ws, rfl, s1, rs1⟩ := h1.get A r1
  cases r2
  refine .inr (.inr ⟨a, j, ws, rfl, rfl, s1, by omega, by omega, by rw [rs1.length]; exact Nat.le_trans hs (by decide), fun p hp => ?_⟩)
  obtain ⟨A2, n2⟩ := A.frz (o := .lst (List.replicate j.toNat ws).flatten) hp
  exact hQ _ _ μ _ _ _ n2 A2 (.lst upd_same ((rps_rep rs1 j.toNat).nx n2)) h
theorem rc_max2' (h : P (.int (max i j)) μ) : RC K (rMaxA K) [.int i, .int j] μ P := fun G H al vs A r Q hQ => .inl (rc_max2 h G H al vs A r Q hQ)
theorem rc_min2' (h : P (.int (min i j)) μ) : RC K (rMinA K) [.int i, .int j] μ P := fun G H al vs A r Q hQ => .inl (rc_min2 h G H al vs A r Q hQ)
theorem rc_lenL (hl : Ls μ x ds) (h : P (.int (ds.length : Int)) μ) : RC K (rLen K) [x] μ P := rc_len hl h
theorem rc_lenT' (hl : Ts x ds) (h : P (.int (ds.length : Int)) μ) : RC K (rLen K) [x] μ P := rc_lenT hl h
theorem rc_list (hl : Ls μ x ds) (h : P (.lst ds) μ) : RC K (rListOf K) [x] μ P := fun G H al vs A r Q hQ => by
  obtain ⟨v, rfl, r1⟩ := rps1 r
  obtain ⟨a, ws, rfl, s, rs⟩ := hl.get A r1
  refine ⟨a, ws, rfl, .inl s, fun p hp => ?_⟩
  obtain ⟨A2, n2⟩ := A.frz (o := .lst ws) hp
  exact hQ _ _ μ _ _ _ n2 A2 (.lst upd_same (rs.nx n2)) h
theorem rc_listO (hl : Ls μ x ds) (h : P (.own μ.length) (μ ++ [.lst ds])) : RC K (rListOf K) [x] μ P := fun G H al vs A r Q hQ => by
  obtain ⟨v, rfl, r1⟩ := rps1 r
  obtain ⟨a, ws, rfl, s, rs⟩ := hl.get A r1
  refine ⟨a, ws, rfl, .inl s, fun p hp => ?_⟩
  obtain ⟨A2, n2⟩ := A.own (o := .lst ws) (m := .lst ds) hp ⟨A.sub.free hp, _, upd_same, rs.mono (Same.refl _) ⟨[p], rfl⟩⟩
  exact hQ _ _ _ _ _ _ n2 A2 (.own (by rw [← A.len]; simp)) h
end
section
variable {K : PySem.W.Frag} {B : Bs} {ρ : En} {μ : Mu} {P : D → Mu → Prop} {ta tb te tc td : TE} {PT' : Bool → Mu → Prop}
theorem de_chain3 {r r' r3 : R2} (h : DE K B ta ρ μ fun x μ1 => DE K B tb ρ μ1 fun y μ2 => RO K r x y μ2 fun z μ3 => ∃ b, z = .bl b ∧ (b = true → DE K B tc ρ μ3 fun w μ4 => RO K r' y w μ4 fun z2 μ5 => ∃ b2, z2 = .bl b2 ∧
      (b2 = true → DE K B td ρ μ5 fun u μ6 => RO K r3 w u μ6 P) ∧ (b2 = false → P (.bl false) μ5)) ∧ (b = false → P (.bl false) μ3)) :
    DE K B (tChain3 r r' r3 ta tb tc td) ρ μ P := fun σ G H al hB hσ hA Q hQ =>
  h σ G H al hB hσ hA _ fun v d μ1 G1 H1 al1 n1 A1 r1 p1 => p1 σ G1 H1 al1 (hB.trans n1) (hσ.nx n1) A1 _ fun w e μ2 G2 H2 al2 n2 A2 r2 p2 =>
    p2 G2 H2 al2 v w A2 (r1.nx n2) r2 _ fun z dz μ3 G3 H3 al3 n3 A3 r3 p3 => by
      obtain ⟨b, rfl, pt, pf⟩ := p3
      cases r3
      refine ⟨b, rfl, ?_⟩
      have nn3 := (n1.trans n2).trans n3
      cases b with
      | false =>
        rw [if_neg (by simp)]
        exact hQ (.bl false) _ μ3 G3 H3 al3 nn3 A3 (.bl _) (pf rfl)
      | true =>
        rw [if_pos rfl]
        refine pt rfl σ G3 H3 al3 (hB.trans nn3) (hσ.nx nn3) A3 _ fun u du μ4 G4 H4 al4 n4 A4 r4 p4 => p4 G4 H4 al4 w u A4 ((r2.nx n3).nx n4) r4 _ fun z5 dz5 μ5 G5 H5 al5 n5 A5 r5 p5 => ?_
        obtain ⟨b2, rfl, pt2, pf2⟩ := p5
        cases r5
        refine ⟨b2, rfl, ?_⟩
        have nn5 := (nn3.trans n4).trans n5
        cases b2 with
        | false =>
          rw [if_neg (by simp)]
          exact hQ (.bl false) _ μ5 G5 H5 al5 nn5 A5 (.bl _) (pf2 rfl)
        | true =>
          rw [if_pos rfl]
          exact pt2 rfl σ G5 H5 al5 (hB.trans nn5) (hσ.nx nn5) A5 _ fun u6 du6 μ6 G6 H6 al6 n6 A6 r6 p6 => p6 G6 H6 al6 u u6 A6 ((r4.nx n5).nx n6) r6 Q (hQ.nx (nn5.trans n6))
theorem dt_truth (h : DE K B te ρ μ fun x μ1 => ∃ b, x = .bl b ∧ PT' b μ1) : DT K B (tTruth K te) ρ μ PT' := fun σ G H al hB hσ hA Q hQ =>
  h σ G H al hB hσ hA _ fun v d μ1 G1 H1 al1 n1 A1 r1 p1 => by
    obtain ⟨b, rfl, p⟩ := p1
    cases r1
    exact ⟨b, rfl, hQ b μ1 G1 H1 al1 n1 A1 p⟩
theorem ds_raise0 {C : Addr} {E : XK} {PX : PXT} {Pe : DEnds} (hE : XAg K B PX E) (h : PX C [] μ) : DS K B (tRaise0 C E) ρ μ Pe := fun σ G H al hB hσ hA De hD =>
  hE C [] none μ G H al hB hA (.inl ⟨rfl, rfl⟩) h
end
end Dl
set_option Elab.async false
set_option linter.all false
set_option maxRecDepth 100000
namespace Dl
open PySem L2 PyProof.Rows
section
variable {K : PySem.W.Frag} {μ : Mu} {P : D → Mu → Prop} {i j : Int} {x y d : D} {ds es : List D}
theorem ro_fdiv (hc : 0 < j) (hj : j.natAbs.log2 < 9000) (h : P (.int (i / j)) μ) : RO K rFdivA (.int i) (.int j) μ P := fun G H al v w A r1 r2 Q hQ => .inl (ro_ic (f := fun i j => i / j) ⟨hc, hj⟩ h G H al v w A r1 r2 Q hQ)
theorem ro_mod (hc : 0 < j) (h : P (.int (i % j)) μ) : RO K rModA (.int i) (.int j) μ P := fun G H al v w A r1 r2 Q hQ => .inl (ro_ic (f := fun i j => i % j) (C := fun _ j => 0 < j) hc h G H al v w A r1 r2 Q hQ)
theorem ro_pow (hc : CPow i j) (h : P (.int (i ^ j.toNat)) μ) : RO K (rI CPow fun i j => .int (i ^ j.toNat)) (.int i) (.int j) μ P := ro_ic (f := fun i j => i ^ j.toNat) hc h
theorem ro_isB {a b : Bool} (h : P (.bl (decide (a = b))) μ) : RO K rIsB (.bl a) (.bl b) μ P := fun G H al v w A r1 r2 Q hQ => by
  cases r1; cases r2
  exact ⟨a, b, rfl, rfl, hQ.now A (.bl _) h⟩
theorem ro_notB {a b : Bool} (h : P (.bl (!decide (a = b))) μ) : RO K rNotB (.bl a) (.bl b) μ P := fun G H al v w A r1 r2 Q hQ => by
  cases r1; cases r2
  exact ⟨a, b, rfl, rfl, hQ.now A (.bl _) h⟩
end
section
variable {K : PySem.W.Frag} {B : Bs} {ρ : En} {μ : Mu} {te ta : TE} {ts : TA} {PI' : List D → (Mu → Prop) → Mu → Prop} {P : DEnds} {t u v : TS}
/-- what a datum is walked as; S: what must stay of what may change -/
inductive Wk (μ : Mu) : D → List D → (Mu → Prop) → Prop
  | lst (ds : List D) : Wk μ (.lst ds) ds (fun _ => True)
  | rdl (ds : List D) : Wk μ (.rdl ds) ds (fun _ => True)
  | own {k : Nat} {ds : List D} (h : μ[k]? = some (.lst ds)) : Wk μ (.own k) ds (fun μ' => μ'[k]? = some (.lst ds))
  | tup (ds : List D) : Wk μ (.tup ds) ds (fun _ => True)
  | rdt (ds : List D) : Wk μ (.rdt ds) ds (fun _ => True)
  | str (s : Str) : Wk μ (.str s) (signsD s) (fun _ => True)
theorem itt_ok {G H : Hp} {al : List Addr} {a : Addr} {ds : List D} {S : Mu → Prop} (h : ∀ G2 H2 al2 μ2, Nx G H al G2 H2 al2 → As K G2 H2 al2 μ2 → S μ2 → ∃ vs, SqT K H2 a vs ∧ Rps K G2 al2 vs ds) : ItOk K (Itt K a) ds S G H al := fun G2 H2 al2 μ2 n A s => by
  obtain ⟨vs, sq, r⟩ := h G2 H2 al2 μ2 n A s
  refine ⟨fun i hi => ⟨vs, vs[i]'(by rw [r.length]; exact hi), sq, by simp⟩, fun i hi => ⟨vs, sq, by rw [r.length]; exact hi⟩, fun i x H3 y d hd => ?_⟩
  obtain ⟨rfl, y⟩ := y
  obtain ⟨d', hd', r'⟩ := r.getV (y vs sq)
  rw [hd] at hd'; cases hd'
  exact ⟨G2, .refl, A, r'⟩
theorem di_any (h : DE K B te ρ μ fun x μ1 => ∃ ds S, Wk μ1 x ds S ∧ PI' ds S μ1) : DI K B (iAny K te) ρ μ PI' := fun σ G H al hB hσ hA R hR =>
  h σ G H al hB hσ hA _ fun v d μ1 G1 H1 al1 n1 A1 r1 p1 => by
    obtain ⟨ds, S, wk, p⟩ := p1
    cases wk with
    | lst =>
      cases r1 with
      | lst e rs => exact .inl ⟨_, rfl, ⟨_, .inl (.inl (A1.sub _ _ e))⟩, hR _ ds _ μ1 G1 H1 al1 n1 A1 (itl_ok fun G2 H2 al2 μ2 n2 A2 _ => ⟨_, .inl (.inl (A2.sub _ _ (n2.g _ _ e))), rs.nx n2⟩) p⟩
    | rdl =>
      cases r1 with
      | rdl e rs => exact .inl ⟨_, rfl, ⟨_, sql_mono A1.sub e⟩, hR _ ds _ μ1 G1 H1 al1 n1 A1 (itl_ok fun G2 H2 al2 μ2 n2 A2 _ => ⟨_, sql_mono A2.sub (sql_mono n2.g e), rs.nx n2⟩) p⟩
    | own hk =>
      obtain ⟨a, ha, ga, vs, hv, rs⟩ := A1.get hk
      cases r1 with
      | own e =>
        rw [ha] at e; cases e
        refine .inl ⟨_, rfl, ⟨_, .inl (.inl hv)⟩, hR _ ds _ μ1 G1 H1 al1 n1 A1 (itl_ok fun G2 H2 al2 μ2 n2 A2 s => ?_) p⟩
        obtain ⟨a2, ha2, ga2, vs2, hv2, rs2⟩ := A2.get s
        rw [n2.p.get ha] at ha2; cases ha2
        exact ⟨vs2, .inl (.inl hv2), rs2⟩
    | tup =>
      cases r1 with
      | tup e rs => exact .inr (.inl ⟨_, rfl, ⟨_, .inl (.inl (A1.sub _ _ e))⟩, hR _ ds _ μ1 G1 H1 al1 n1 A1 (itt_ok fun G2 H2 al2 μ2 n2 A2 _ => ⟨_, .inl (.inl (A2.sub _ _ (n2.g _ _ e))), rs.nx n2⟩) p⟩)
    | rdt =>
      cases r1 with
      | rdt e rs => exact .inr (.inl ⟨_, rfl, ⟨_, sqt_mono A1.sub e⟩, hR _ ds _ μ1 G1 H1 al1 n1 A1 (itt_ok fun G2 H2 al2 μ2 n2 A2 _ => ⟨_, sqt_mono A2.sub (sqt_mono n2.g e), rs.nx n2⟩) p⟩)
    | str x =>
      cases r1
      refine .inr (.inr ⟨x, rfl, hR _ _ _ μ1 G1 H1 al1 n1 A1 (fun G2 H2 al2 μ2 n2 A2 _ => ?_) p⟩)
      have hl : (signsD x).length = x.cps.size := by simp [signsD]
      rw [hl]
      refine ⟨fun i hi => hi, fun i hi => hi, fun i y H3 hy d hd => ?_⟩
      obtain ⟨rfl, c, hc, rfl⟩ := hy
      have : d = .str ⟨#[c]⟩ := by
        simp only [signsD, List.getElem?_map, Array.getElem?_toList, hc] at hd
        exact (Option.some.inj hd).symm
      subst this
      exact ⟨G2, .refl, A2, .str _⟩
theorem di_enum' (h : DA K B ts ρ μ fun xs μ1 => ∃ x ds S, xs = [x] ∧ Ls μ1 x ds ∧ Wk μ1 x ds S ∧ PI' (enumD ds) S μ1) : DI K B (iEnum K ts) ρ μ PI' := di_enum (fun σ G H al hB hσ hA Q hQ => h σ G H al hB hσ hA Q fun vs ds' μ' G' H' al' n A r p => hQ vs ds' μ' G' H' al' n A r (by
  obtain ⟨x, ds, S, e, ls, wk, p⟩ := p
  refine ⟨x, ds, e, ?_⟩
  cases wk with
  | lst => exact .inl ⟨rfl, p⟩
  | rdl => exact .inr (.inl ⟨rfl, p⟩)
  | own hk => exact .inr (.inr ⟨_, rfl, hk, p⟩)
  | tup => cases ls
  | rdt => cases ls
  | str => cases ls))
/-! ### statements with what follows -/
theorem q_set {i : Nat} (h : DE K B te ρ μ fun d μ1 => DS K B u (ρ.set i (some d)) μ1 P) : DS K B (tSeq (tAsg te (gName i)) u) ρ μ P := ds_seq (ds_set h)
theorem q_asg {g : TG} (h : DE K B te ρ μ fun d μ1 => DG K B g d ρ μ1 fun ρ2 μ2 => DS K B u ρ2 μ2 P) : DS K B (tSeq (tAsg te g) u) ρ μ P := ds_seq (ds_asg h)
theorem q_drop (h : DE K B te ρ μ fun d μ1 => DS K B u ρ μ1 P) : DS K B (tSeq (tDrop te) u) ρ μ P := ds_seq (ds_drop h)
/-- an if without else -/
theorem q_when {c : TT} (h : DT K B c ρ μ fun b μ1 => (b = true → DS K B t ρ μ1 { P with nx := fun ρ1 μ1 => DS K B u ρ1 μ1 P }) ∧ (b = false → DS K B u ρ μ1 P)) : DS K B (tSeq (tIfS c t tNext) u) ρ μ P :=
  ds_seq (ds_if fun σ G H al hB hσ hA Q hQ => h σ G H al hB hσ hA Q fun b μ1 G1 H1 al1 n1 A1 p1 => hQ b μ1 G1 H1 al1 n1 A1 ⟨p1.1, fun e => ds_next (p1.2 e)⟩)
theorem s_when {c : TT} (h : DT K B c ρ μ fun b μ1 => (b = true → DS K B t ρ μ1 P) ∧ (b = false → P.nx ρ μ1)) : DS K B (tIfS c t tNext) ρ μ P :=
  ds_if fun σ G H al hB hσ hA Q hQ => h σ G H al hB hσ hA Q fun b μ1 G1 H1 al1 n1 A1 p1 => hQ b μ1 G1 H1 al1 n1 A1 ⟨p1.1, fun e => ds_next (p1.2 e)⟩
theorem q_if {c : TT} (h : DT K B c ρ μ fun b μ1 => (b = true → DS K B t ρ μ1 { P with nx := fun ρ1 μ1 => DS K B u ρ1 μ1 P }) ∧ (b = false → DS K B v ρ μ1 { P with nx := fun ρ1 μ1 => DS K B u ρ1 μ1 P })) : DS K B (tSeq (tIfS c t v) u) ρ μ P := ds_seq (ds_if h)
theorem q_for {wi : TI} {g : TG} {tb : TS} (h : DI K B wi ρ μ fun ds S μ1 => ∃ Iv : Nat → En → Mu → Prop, Iv 0 ρ μ1 ∧ (∀ i ρ' μ', i ≤ ds.length → Iv i ρ' μ' → S μ') ∧
      (∀ i d ρ' μ', ds[i]? = some d → Iv i ρ' μ' → DG K B g d ρ' μ' fun ρ2 μ2 => DS K B tb ρ2 μ2 { nx := Iv (i + 1), ct := Iv (i + 1), bk := fun ρ1 μ1 => DS K B u ρ1 μ1 P, rt := P.rt }) ∧ (∀ ρ' μ', Iv ds.length ρ' μ' → DS K B u ρ' μ' P)) : DS K B (tSeq (tFor wi g tb) u) ρ μ P := ds_seq (ds_for h)
theorem q_fld {f : Str} {tb : TE} (h : DE K B tb ρ μ fun y μ1 => DE K B ta ρ μ1 fun x μ2 => ∃ k C gs, x = .own k ∧ μ2[k]? = some (.ins C gs) ∧ Cls K C ∧ NoAttr K C f ∧ gs.length < 1000 ∧ DS K B u ρ (μ2.set k (.ins C (putD f y gs))) P) : DS K B (tSeq (sFld K ta tb f) u) ρ μ P := ds_seq (ds_fld h)
theorem q_par {i j : Nat} (h : DA K B ts ρ μ fun ds μ1 => ∃ x y, ds = [x, y] ∧ DS K B u ((ρ.set i (some x)).set j (some y)) μ1 P) : DS K B (tSeq (tPar i j ts) u) ρ μ P := ds_seq (ds_par h)
end
/-- the n-th thing from the end of what may change -/
theorem mu_last {μ : Mu} {o : MO} : (μ ++ [o])[μ.length]? = some o := by simp
theorem mu_old {μ ext : Mu} {k : Nat} {o : MO} (h : μ[k]? = some o) : (μ ++ ext)[k]? = some o := by
  rw [List.getElem?_append_left (List.getElem?_eq_some_iff.mp h).1]
  exact h
theorem set_last {μ : Mu} {o o' : MO} : (μ ++ [o]).set μ.length o' = μ ++ [o'] := by simp
theorem set_old {μ ext : Mu} {k : Nat} {o o' : MO} (h : μ[k]? = some o) : (μ ++ ext).set k o' = μ.set k o' ++ ext := by
  rw [List.set_append_left _ _ (List.getElem?_eq_some_iff.mp h).1]
theorem set_get {μ : Mu} {k : Nat} {o o' : MO} (h : μ[k]? = some o) : (μ.set k o')[k]? = some o' := by
  rw [List.getElem?_set_self (List.getElem?_eq_some_iff.mp h).1]
theorem set_set' {μ : Mu} {k : Nat} {o o' : MO} : (μ.set k o).set k o' = μ.set k o' := by simp
/-- a fresh list handed on: frozen, or to be changed -/
def Fresh (xs : List D) (μ : Mu) (P : D → Mu → Prop) : Prop := P (.lst xs) μ ∨ P (.own μ.length) (μ ++ [.lst xs])
/-! ### defs by their contracts -/
section
variable {P : Program} {w : World} {K : PySem.W.Frag} {mg : Str → Option Value} {base : Heap}
theorem fn_DD {x qual : Str} {st : Stmt} {dvs : List V} {kws : List (Str × V)} {f : Addr} {fd : FuncData} {N ps : List Str} {k : Nat} {C : CT} {t : XK → TS} (F : FunD K x qual (defArgs st) (defBody st) (defScope st) dvs kws f fd) (S : FnScope N ps (defScope st)) (len : ∀ ds μ P PX, C ds μ P PX → ds.length = ps.length) (hN : ps.length ≤ N.length)
    (body : ∀ (cdv : Value) (A : Around) (outer : List Env) (s : Shared) (H : Hp) (E : XK), Room k (A.deeper (envOfC qual (defScope st) s.heap.objs.size f cdv)) → PSs (cxOf (L2.CX P w) P w K mg base N qual (defScope st) f cdv A outer s H E) (defBody st) (t E))
    (sem : ∀ ds μ P PX, C ds μ P PX → MuCl μ μ.length → clL ds μ.length = true → ∀ B E, XAg K B (RetX μ.length PX) E → DS K B (t E) (startD N ds) μ (fnE μ.length P)) : FnOk P w K mg base (L2.CX P w) (k + 1) f fd ps (spD K C) := by
  refine F.ok S (fun vs H Q E h => ?_) (fun cdv A outer s H vs Q E hr h => ⟨t E, body cdv A outer s H E hr, sem_of (fun ds μ P PX c => by rw [len ds μ P PX c]; exact hN) sem h⟩)
  obtain ⟨G, al, ds, μ, P, PX, A, r, c, _⟩ := h
  rw [r.length]
  exact len ds μ P PX c
end
end Dl
set_option Elab.async false
set_option linter.all false
set_option maxRecDepth 100000
namespace Dl
open PySem L2 PyProof.Rows
mutual
theorem D.cl_mono : ∀ (d : D) {n m : Nat}, n ≤ m → d.cl n = true → d.cl m = true
  | .tup xs, n, m, l, h => by unfold D.cl at h ⊢; exact clL_mono xs l h
  | .lst xs, n, m, l, h => by unfold D.cl at h ⊢; exact clL_mono xs l h
  | .rdl xs, n, m, l, h => by unfold D.cl at h ⊢; exact clL_mono xs l h
  | .rdt xs, n, m, l, h => by unfold D.cl at h ⊢; exact clL_mono xs l h
  | .obj _ gs, n, m, l, h => by unfold D.cl at h ⊢; exact clF_mono gs l h
  | .dct gs, n, m, l, h => by unfold D.cl at h ⊢; exact clK_mono gs l h
  | .own k, n, m, l, h => by unfold D.cl at h ⊢; simp at h ⊢; omega
  | .non, n, m, l, h => by simp [D.cl]
  | .bl _, n, m, l, h => by simp [D.cl]
  | .int _, n, m, l, h => by simp [D.cl]
  | .str _, n, m, l, h => by simp [D.cl]
  | .ty _, n, m, l, h => by simp [D.cl]
  | .loc _, n, m, l, h => by simp [D.cl]
  | .exc _ gs, n, m, l, h => by unfold D.cl at h ⊢; exact clF_mono gs l h
theorem clL_mono : ∀ (d : List D) {n m : Nat}, n ≤ m → clL d n = true → clL d m = true
  | [], _, _, _, _ => by simp [clL]
  | x :: xs, n, m, l, h => by
    unfold clL at h ⊢; simp at h ⊢
    exact ⟨D.cl_mono x l h.1, clL_mono xs l h.2⟩
theorem clF_mono : ∀ (d : List (Str × D)) {n m : Nat}, n ≤ m → clF d n = true → clF d m = true
  | [], _, _, _, _ => by simp [clF]
  | (_, x) :: xs, n, m, l, h => by
    unfold clF at h ⊢; simp at h ⊢
    exact ⟨D.cl_mono x l h.1, clF_mono xs l h.2⟩
theorem clK_mono : ∀ (d : List (Key × D)) {n m : Nat}, n ≤ m → clK d n = true → clK d m = true
  | [], _, _, _, _ => by simp [clK]
  | (_, x) :: xs, n, m, l, h => by
    unfold clK at h ⊢; simp at h ⊢
    exact ⟨D.cl_mono x l h.1, clK_mono xs l h.2⟩
end
theorem MO.cl_mono (o : MO) {n m : Nat} (l : n ≤ m) (h : o.cl n = true) : o.cl m = true := by
  cases o with
  | dead => rfl
  | lst xs => exact clL_mono xs l h
  | ins _ gs => exact clF_mono gs l h
  | dK gs => exact clK_mono gs l h
  | dT gs => exact clL_mono _ l h
  | tab _ _ => rfl
theorem MuCl.mono {μ : Mu} {n m : Nat} (h : MuCl μ n) (l : n ≤ m) : MuCl μ m := fun o ho => MO.cl_mono o l (h o ho)
theorem MuCl.app {μ : Mu} {o : MO} (h : MuCl μ μ.length) (ho : o.cl μ.length = true) : MuCl (μ ++ [o]) (μ ++ [o]).length := fun x hx => by
  rw [List.length_append]
  rcases List.mem_append.mp hx with m | m
  · exact MO.cl_mono x (by simp) (h x m)
  · simp at m; subst m; exact MO.cl_mono _ (by simp) ho
theorem br {b : Bool} {A C : Prop} (h1 : b = true → A) (h2 : b = false → C) : (b = true → A) ∧ (b = false → C) := ⟨h1, h2⟩
theorem br' {b : Bool} {A C : Prop} (h1 : b = false → A) (h2 : b = true → C) : (b = false → A) ∧ (b = true → C) := ⟨h1, h2⟩
theorem Wk.now {μ : Mu} {x : D} {ds : List D} {S : Mu → Prop} (h : Wk μ x ds S) : S μ := by
  cases h with
  | own h => exact h
  | _ => trivial
theorem Ls.wk {μ : Mu} {x : D} {ds : List D} (h : Ls μ x ds) : ∃ S, Wk μ x ds S := by
  cases h with
  | lst => exact ⟨_, .lst _⟩
  | rdl => exact ⟨_, .rdl _⟩
  | own h => exact ⟨_, .own h⟩
section
variable {K : PySem.W.Frag} {B : Bs} {ρ : En} {μ : Mu} {te : TE} {tt : TT} {wi : TI} {g : TG} {vs : List Nat} {P : D → Mu → Prop}
/-- [f d for d in ds], nothing changes -/
theorem lc_map (f : D → D) (hg : GW g vs) (h : DI K B wi ρ μ fun ds S μ1 => S μ1 ∧ ds.length ≤ 100000 ∧ (∀ (i : Nat) (d : D), ds[i]? = some d → DG K B g d (wipeD ρ vs) μ1 fun ρ2 μ2 => μ2 = μ1 ∧ DE K B te ρ2 μ1 fun y μ3 => y = f d ∧ μ3 = μ1) ∧ ∀ out, ds.map f = out → P (.lst out) μ1) : DE K B (tLc wi g tYes te vs) ρ μ P := by
  refine de_lc hg fun σ G H al hB hσ hA R hR => h σ G H al hB hσ hA R fun J ds S μ1 G1 H1 al1 n1 A1 ok p => hR J ds S μ1 G1 H1 al1 n1 A1 ok ?_
  obtain ⟨hS, hl, hs, hp⟩ := p
  refine ⟨hl, fun i acc μ' => acc = (ds.take i).map f ∧ μ' = μ1, ⟨by simp, rfl⟩, fun i acc μ' _ h => by rw [h.2]; exact hS, fun i d acc μ' hd h => ?_, fun acc μ' h => ?_⟩
  · obtain ⟨rfl, rfl⟩ := h
    refine fun σ G H al v hB hσ hA rv Q hQ => hs i d hd σ G H al v hB hσ hA rv Q fun σ2 ρ2 μ2 G2 H2 al2 n2 hσ2 A2 p2 => hQ σ2 ρ2 μ2 G2 H2 al2 n2 hσ2 A2 ?_
    obtain ⟨rfl, p2⟩ := p2
    refine dt_yes ⟨fun _ => p2.imp fun y μ3 ⟨e1, e2⟩ => ⟨?_, e2⟩, fun z => by cases z⟩
    rw [e1, List.take_add_one, hd]
    simp
  · obtain ⟨rfl, rfl⟩ := h
    rw [List.take_length]
    exact hp _ rfl
/-- [f d for d in ds if p d] -/
theorem lc_filt (p : D → Bool) (f : D → D) (hg : GW g vs) (h : DI K B wi ρ μ fun ds S μ1 => S μ1 ∧ ds.length ≤ 100000 ∧ (∀ (i : Nat) (d : D), ds[i]? = some d → DG K B g d (wipeD ρ vs) μ1 fun ρ2 μ2 => μ2 = μ1 ∧ DT K B tt ρ2 μ1 fun b μ3 => b = p d ∧ μ3 = μ1 ∧ (b = true → DE K B te ρ2 μ1 fun y μ4 => y = f d ∧ μ4 = μ1)) ∧ ∀ out, (ds.filter p).map f = out → P (.lst out) μ1) : DE K B (tLc wi g tt te vs) ρ μ P := by
  refine de_lc hg fun σ G H al hB hσ hA R hR => h σ G H al hB hσ hA R fun J ds S μ1 G1 H1 al1 n1 A1 ok p' => hR J ds S μ1 G1 H1 al1 n1 A1 ok ?_
  obtain ⟨hS, hl, hs, hp⟩ := p'
  refine ⟨hl, fun i acc μ' => acc = ((ds.take i).filter p).map f ∧ μ' = μ1, ⟨by simp, rfl⟩, fun i acc μ' _ h => by rw [h.2]; exact hS, fun i d acc μ' hd h => ?_, fun acc μ' h => ?_⟩
  · obtain ⟨rfl, rfl⟩ := h
    refine fun σ G H al v hB hσ hA rv Q hQ => hs i d hd σ G H al v hB hσ hA rv Q fun σ2 ρ2 μ2 G2 H2 al2 n2 hσ2 A2 p2 => hQ σ2 ρ2 μ2 G2 H2 al2 n2 hσ2 A2 ?_
    obtain ⟨rfl, p2⟩ := p2
    refine fun σ G H al hB hσ hA Q hQ => p2 σ G H al hB hσ hA Q fun b μ3 G3 H3 al3 n3 A3 p3 => hQ b μ3 G3 H3 al3 n3 A3 ?_
    obtain ⟨hb, rfl, p3⟩ := p3
    have e : (List.take (i + 1) ds) = List.take i ds ++ [d] := by rw [List.take_add_one, hd]; rfl
    refine ⟨fun hbt => (p3 hbt).imp fun y μ4 ⟨e1, e2⟩ => ⟨?_, e2⟩, fun hbf => ⟨?_, rfl⟩⟩
    · rw [e, List.filter_append, List.map_append, e1]
      rw [hb] at hbt
      simp [hbt]
    · rw [e, List.filter_append, List.map_append]
      rw [hb] at hbf
      simp [hbf]
  · obtain ⟨rfl, rfl⟩ := h
    rw [List.take_length]
    exact hp _ rfl
end
end Dl
set_option Elab.async false
set_option linter.all false
set_option maxRecDepth 100000
namespace Dl
open PySem L2 PyProof.Rows
/-- a law's end: the written part, the function object, the contract over every base -/
theorem walk_ofW {l : PySem.W.OpenLaw} {n k : Nat} {q : Program} {loose : List Str} {XP : (Str → Option Value) → Heap → Prop} {YP : World → Heap → Prop} {d : DefRec} {x : Str}
    (hn : l.most = some n) (hn2 : n ≤ sizeLine) (hdf : d.params.defaults = []) (hr : Room k callerA)
    (F : ∀ (w : World) (mg : Str → Option Value) (fa : Addr) (h : Heap), YP w h → h.Ns mainGlobals mg → mg d.name = some (.ref fa) →
      ∃ (K : PySem.W.Frag) (fd : FuncData) (sp : Sp), K.In h ∧ (∀ (s : Shared) (u : Value), BindsTo s fd ⟨[u], []⟩ [(x, u)]) ∧
        (∀ (H : Hp) (a : Addr) (ns : List Int), ns.length ≤ n → Only H → SqL K H a (ns.map V.int) → sp [.ref a] H (fun v _ => v = .bl true) fun _ _ _ => False) ∧
        ∀ base : Heap, K.In base → base.Ns mainGlobals mg → FnOk l.prog w K mg base (L2.CX l.prog w) k fa fd [x] sp) :
    PySem.W.WalkO q loose XP YP l.row.toRowW d [] (fun f vs => PySem.call f vs) := by
  refine Att.attach_call hn hdf fun w s0 s1 mg mb fa o pm cd doc a vs ns G Y ho hd hcd hmg hobj hints hlen hg => ?_
  obtain ⟨K, fd, sp, KX, hb, hsp, hF⟩ := F w mg fa _ Y G.T.g hmg
  refine law_call KX G.T.g G.T.b G.T.builtins G.T.nolimit hg hobj hints (Nat.le_trans hlen hn2) hr hF hb (fun H hO hS => hsp H a ns hlen hO hS) fun H e s' c => ?_
  obtain ⟨_, _, _, _, _, _, _, _, _, _, _, _, z⟩ := c
  exact z
theorem law_sp {K : PySem.W.Frag} {H : Hp} {a : Addr} {ns : List Int} {C : CT} (hS : SqL K H a (ns.map V.int)) (h : C [.rdl (ns.map D.int)] [] (fun d _ => d = .bl true) (fun _ _ _ => False)) : spD K C [.ref a] H (fun v _ => v = .bl true) (fun _ _ _ => False) := by
  refine ⟨H, [], [.rdl (ns.map D.int)], [], _, _, ⟨Same.refl _, by simp, rfl, by simp, fun k a o e _ => by simp at e⟩, .cons (.rdl hS (Rps.of_ints ns)) .nil, h, ?_, ?_⟩
  · intro v d μ' G' H' al' _ _ r p
    subst p
    cases r
    rfl
  · intro C fs dd μ' G' H' al' _ _ _ p
    exact p
end Dl
set_option Elab.async false
set_option linter.all false
set_option maxRecDepth 100000
namespace Dl
open PySem L2 PyProof.Rows
section
variable {K : PySem.W.Frag} {B : Bs} {ρ : En} {μ : Mu} {P : D → Mu → Prop} {te : TE} {x y : D} {ds : List D} {i j : Int}
/-- xs[::-1] -/
theorem de_revL (h : DE K B te ρ μ fun x μ1 => ∃ ds, Ls μ1 x ds ∧ P (.lst ds.reverse) μ1) : DE K B (tRevL K te) ρ μ P := fun σ G H al hB hσ hA Q hQ =>
  h σ G H al hB hσ hA _ fun v d μ1 G1 H1 al1 n1 A1 r1 p1 => by
    obtain ⟨ds, ls, p⟩ := p1
    obtain ⟨a, vs, rfl, sq, rs⟩ := ls.get A1 r1
    refine ⟨a, vs, rfl, sq, fun p' hp => ?_⟩
    obtain ⟨A2, n2⟩ := A1.frz (o := .lst vs.reverse) hp
    exact hQ _ _ μ1 _ _ _ (n1.trans n2) A2 (.lst upd_same (rs.reverse.nx n2)) p
theorem eqv_nil (ds : List D) : eqvD (.lst ds) (.lst []) = decide (ds = []) := by
  cases ds with
  | nil => simp [eqvD_lst, eqvL, pyL, PyData.eqvAll]
  | cons d ds => simp [eqvD_lst, eqvL, pyL, PyData.eqvAll]
theorem ro_neNil {n : Nat} (hx : Fz μ x (.lst ds)) (hs : shpL ds n = true) (h : P (.bl (!decide (ds = []))) μ) (hn : n ≤ 63 := by decide) : RO K (rNeD K) x (.lst []) μ P :=
  ro_neD (n := n + 1) (m := 1) hx (.id _) (by simpa [D.shp] using hs) rfl (by rw [eqv_nil]; exact h) (by omega)
/-- .. of at most a hundred thousand -/
def Sz (n : Nat) : Prop := n ≤ 100000
theorem de_tupZ {ts : TA} (h : DA K B ts ρ μ fun xs μ1 => Sz xs.length ∧ P (.tup xs) μ1) : DE K B (tTup ts) ρ μ P := de_tup h
theorem de_lstZ {ts : TA} (h : DA K B ts ρ μ fun xs μ1 => Sz xs.length ∧ P (.lst xs) μ1) : DE K B (tLst ts) ρ μ P := de_lst h
theorem de_lstOZ {ts : TA} (h : DA K B ts ρ μ fun xs μ1 => Sz xs.length ∧ P (.own μ1.length) (μ1 ++ [.lst xs])) : DE K B (tLst ts) ρ μ P := de_lstO h
/-- two things -/
def Two (ds : List D) (F : D → D → Prop) : Prop := ∃ x y, ds = [x, y] ∧ F x y
theorem two_i {F : D → D → Prop} (h : F x y) : Two [x, y] F := ⟨x, y, rfl, h⟩
theorem ds_parZ {ts : TA} {i j : Nat} {P : DEnds} (h : DA K B ts ρ μ fun ds μ1 => Two ds fun x y => P.nx ((ρ.set i (some x)).set j (some y)) μ1) : DS K B (tPar i j ts) ρ μ P := ds_par h
theorem q_parZ {ts : TA} {i j : Nat} {u : TS} {P : DEnds} (h : DA K B ts ρ μ fun ds μ1 => Two ds fun x y => DS K B u ((ρ.set i (some x)).set j (some y)) μ1 P) : DS K B (tSeq (tPar i j ts) u) ρ μ P := q_par h
theorem rs_anyL {lo hi : Option Int} (hl : Ls μ x ds) (h : P (.lst (cutD ds lo hi)) μ) : RS K (rSlA K) x lo hi μ P := fun G H al v A r Q hQ => .inl (rs_lst hl h G H al v A r Q hQ)
end
end Dl
set_option Elab.async false
set_option linter.all false
set_option maxRecDepth 100000
namespace L2
open PySem PySem.Spec PyProof.Rows
end L2
namespace Dl
open PySem L2 PyProof.Rows
section
variable {K : PySem.W.Frag} {B : Bs} {ρ : En} {μ : Mu} {te to ti : TE} {t u : TS} {x y d : D} {ds : List D} {i j : Int}
/-! ### fields, methods -/
/-- a field's data -/
def FldP (K : PySem.W.Frag) (μ : Mu) (x : D) (f : Str) (P : D → Prop) : Prop := ∃ C gs d, (x = .obj C gs ∨ ∃ k, x = .own k ∧ μ[k]? = some (.ins C gs)) ∧ Cls K C ∧ NoAttr K C f ∧ gs.lookup f = some d ∧ P d
theorem de_fldZ {f : Str} {P : D → Mu → Prop} (h : DE K B te ρ μ fun x μ1 => FldP K μ1 x f fun d => P d μ1) : DE K B (tFld K te f) ρ μ P := de_fld h
theorem fp_obj {f : Str} {C : Addr} {gs : List (Str × D)} {P : D → Prop} (c : Cls K C) (n : NoAttr K C f) (l : gs.lookup f = some d) (h : P d) : FldP K μ (.obj C gs) f P := ⟨C, gs, d, .inl rfl, c, n, l, h⟩
theorem fp_own {f : Str} {k : Nat} {C : Addr} {gs : List (Str × D)} {P : D → Prop} (hk : μ[k]? = some (.ins C gs)) (c : Cls K C) (n : NoAttr K C f) (l : gs.lookup f = some d) (h : P d) : FldP K μ (.own k) f P := ⟨C, gs, d, .inr ⟨k, rfl, hk⟩, c, n, l, h⟩
def MethP (μ : Mu) (Cc : Addr) (m : Str) (x : D) (P : Prop) : Prop := ∃ gs, (x = .obj Cc gs ∨ ∃ k, x = .own k ∧ μ[k]? = some (.ins Cc gs)) ∧ gs.lookup m = none ∧ P
theorem de_methZ {Cc : Addr} {m : Str} {C : CT} {E : XK} {PX : PXT} {ts : TA} {P : D → Mu → Prop} (hE : XAg K B PX E) (h : DE K B te ρ μ fun x μ1 => MethP μ1 Cc m x (DA K B ts ρ μ1 fun ds μ2 => C (x :: ds) μ2 P PX)) : DE K B (tMeth Cc m (spD K C) [] E te ts) ρ μ P := de_meth hE h
theorem mp_obj {Cc : Addr} {m : Str} {gs : List (Str × D)} {P : Prop} (l : gs.lookup m = none) (h : P) : MethP μ Cc m (.obj Cc gs) P := ⟨gs, .inl rfl, l, h⟩
theorem mp_own {Cc : Addr} {m : Str} {k : Nat} {gs : List (Str × D)} {P : Prop} (hk : μ[k]? = some (.ins Cc gs)) (l : gs.lookup m = none) (h : P) : MethP μ Cc m (.own k) P := ⟨gs, .inr ⟨k, rfl, hk⟩, l, h⟩
/-- a store into a field -/
def PutP (K : PySem.W.Frag) (μ : Mu) (x y : D) (f : Str) (P : Mu → Prop) : Prop := ∃ k C gs, x = .own k ∧ μ[k]? = some (.ins C gs) ∧ Cls K C ∧ NoAttr K C f ∧ gs.length < 1000 ∧ P (μ.set k (.ins C (putD f y gs)))
theorem ds_fldZ {f : Str} {tb : TE} {P : DEnds} (h : DE K B tb ρ μ fun y μ1 => DE K B te ρ μ1 fun x μ2 => PutP K μ2 x y f fun μ3 => P.nx ρ μ3) : DS K B (sFld K te tb f) ρ μ P := ds_fld h
theorem q_fldZ {f : Str} {tb : TE} {P : DEnds} (h : DE K B tb ρ μ fun y μ1 => DE K B te ρ μ1 fun x μ2 => PutP K μ2 x y f fun μ3 => DS K B u ρ μ3 P) : DS K B (tSeq (sFld K te tb f) u) ρ μ P := q_fld h
theorem pp_own {f : Str} {k : Nat} {C : Addr} {gs : List (Str × D)} {P : Mu → Prop} (hk : μ[k]? = some (.ins C gs)) (c : Cls K C) (n : NoAttr K C f) (l : gs.length < 1000) (h : P (μ.set k (.ins C (putD f y gs)))) : PutP K μ (.own k) y f P := ⟨k, C, gs, rfl, hk, c, n, l, h⟩
/-! ### steps in thought alone: what is known of the store is put otherwise -/
def Gh (K : PySem.W.Frag) (μ μ2 : Mu) : Prop := ∀ G H al, As K G H al μ → ∃ G', As K G' H al μ2 ∧ Nx G H al G' H al
theorem Gh.refl : Gh K μ μ := fun G H al A => ⟨G, A, .refl⟩
theorem Gh.trans {μ1 μ2 : Mu} (h : Gh K μ μ1) (h' : Gh K μ1 μ2) : Gh K μ μ2 := fun G H al A => by
  obtain ⟨G1, A1, n1⟩ := h G H al A
  obtain ⟨G2, A2, n2⟩ := h' G1 H al A1
  exact ⟨G2, A2, n1.trans n2⟩
/-- .. behind a statement -/
theorem ds_ghostN {P : DEnds} (h : DS K B t ρ μ { P with nx := fun ρ1 μ1 => ∃ μ2, Gh K μ1 μ2 ∧ P.nx ρ1 μ2 }) : DS K B t ρ μ P := fun σ G H al hB hσ hA De hD =>
  h σ G H al hB hσ hA De ⟨fun σ' ρ' μ' G' H' al' n' hσ' A' p => by
    obtain ⟨μ2, g, p⟩ := p
    obtain ⟨G1, A1, n1⟩ := g G' H' al' A'
    exact hD.nx σ' ρ' μ2 G1 H' al' (n'.trans n1) (hσ'.nx n1) A1 p, hD.rt, hD.bk, hD.ct⟩
end
theorem rpf_own {K : PySem.W.Frag} {G : Hp} {al : List Addr} {a : Addr} {j : Nat} {d : D} {f : Str} (ha : al[j]? = some a) (r : Rp K G al (.ref a) d) : ∀ {gs : List (Str × D)} {fs : List (Str × V)}, Rpf K G al fs gs → gs.lookup f = some (.own j) → Rpf K G al fs (putD f d gs)
  | [], _, _, e => by simp at e
  | (g, x) :: gs, _, h, e => by
    cases h with
    | @cons _ v vs _ _ r0 t =>
      unfold putD
      rw [List.lookup_cons] at e
      split
      · rename_i hg
        subst hg
        simp at e
        subst e
        cases r0 with
        | own e2 => rw [ha] at e2; cases e2; exact .cons r t
      · rename_i hg
        have hg2 : (f == g) = false := by simp; exact fun e => hg e.symm
        rw [hg2] at e
        exact .cons r0 (rpf_own ha r t e)
/-- a list in a field is frozen -/
theorem gh_fld {K : PySem.W.Frag} {μ : Mu} {k j : Nat} {C : Addr} {gs : List (Str × D)} {f : Str} {ds : List D} (hk : μ[k]? = some (.ins C gs)) (hl : gs.lookup f = some (.own j)) (hj : μ[j]? = some (.lst ds)) : Gh K μ ((μ.set j .dead).set k (.ins C (putD f (.lst ds) gs))) := fun G H al A => by
  obtain ⟨a, ha, ga, vs, hv, rs⟩ := A.get hj
  obtain ⟨A1, n1⟩ := A.freeze ha hv ga
  have hjk : j ≠ k := fun e => by rw [e, hk] at hj; cases hj
  have hk1 : (μ.set j .dead)[k]? = some (.ins C gs) := by rw [List.getElem?_set_ne hjk]; exact hk
  obtain ⟨b, hb, gb, dx, fs, hfs, rf⟩ := A1.get hk1
  have r2 : Rp K (upd G a (.lst vs)) al (.ref a) (.lst ds) := .lst upd_same (rs.nx n1)
  have hup : upd H b (.ins C dx fs) = H := by
    funext z
    by_cases hz : z = b
    · subst hz; rw [upd_same, hfs]
    · rw [upd_ne hz]
  obtain ⟨A2, n2⟩ := A1.put (o := .ins C dx fs) (m' := .ins C (putD f (.lst ds) gs)) hb hk1 (by simp) ⟨gb, dx, fs, upd_same, rpf_own ha r2 rf hl⟩
  rw [hup] at A2 n2
  exact ⟨_, A2, n1.trans n2⟩
theorem atNN {α : Type} {xs : List α} {i : Int} (h0 : 0 ≤ i) (h1 : i < xs.length) : ∃ x, atI xs i = some x ∧ xs[i.toNat]? = some x := by
  have h : i.toNat < xs.length := by omega
  refine ⟨xs[i.toNat], ?_, List.getElem?_eq_getElem h⟩
  have e : ((i.toNat : Nat) : Int) = i := by omega
  have := atI_nat (List.getElem?_eq_getElem h)
  rw [e] at this
  exact this
end Dl
set_option Elab.async false
set_option linter.all false
set_option maxRecDepth 100000
/-! sets of any number of texts: how many there are -/
namespace L2
open PySem PySem.Spec PyProof.Rows
end L2
set_option Elab.async false
set_option linter.all false
set_option maxRecDepth 100000
namespace L2
open PySem
end L2
namespace Dl
open PySem L2 PyProof.Rows
section
variable {K : PySem.W.Frag} {B : Bs} {ρ : En} {μ : Mu} {P : D → Mu → Prop} {te : TE} {x y : D} {ds : List D} {i j : Int}
/-- is None -/
def IsNP (x : D) (Q : Bool → Prop) : Prop := ∃ b, (b = true ↔ x = .non) ∧ Q b
theorem de_isNZ (h : DE K B te ρ μ fun x μ1 => IsNP x fun b => P (.bl b) μ1) : DE K B (tIsN te) ρ μ P := de_isN h
theorem de_notNZ (h : DE K B te ρ μ fun x μ1 => IsNP x fun b => P (.bl (!b)) μ1) : DE K B (tNotN te) ρ μ P := de_notN h
theorem np_t {Q : Bool → Prop} (h : Q true) : IsNP .non Q := ⟨true, by simp, h⟩
theorem np_f {Q : Bool → Prop} (hx : x ≠ .non) (h : Q false) : IsNP x Q := ⟨false, by simp [hx], h⟩
theorem np_int {Q : Bool → Prop} {i : Int} (h : Q false) : IsNP (.int i) Q := np_f (by simp) h
theorem np_bl {Q : Bool → Prop} {i : Bool} (h : Q false) : IsNP (.bl i) Q := np_f (by simp) h
theorem np_str {Q : Bool → Prop} {i : Str} (h : Q false) : IsNP (.str i) Q := np_f (by simp) h
theorem np_lst {Q : Bool → Prop} {i : List D} (h : Q false) : IsNP (.lst i) Q := np_f (by simp) h
theorem np_tup {Q : Bool → Prop} {i : List D} (h : Q false) : IsNP (.tup i) Q := np_f (by simp) h
theorem np_own {Q : Bool → Prop} {i : Nat} (h : Q false) : IsNP (.own i) Q := np_f (by simp) h
theorem np_obj {Q : Bool → Prop} {C : Addr} {gs : List (Str × D)} (h : Q false) : IsNP (.obj C gs) Q := np_f (by simp) h
end
/-! ### names -/
def letters : List Nat := (List.range 26).map (· + 97)
def nameOk (s : Str) : Prop := 1 ≤ s.length ∧ s.length ≤ 8 ∧ ∀ c ∈ s.cps.toList, c ∈ letters
instance (s : Str) : Decidable (nameOk s) := by unfold nameOk; infer_instance
theorem nameOk.strOk {s : Str} (h : nameOk s) : PyData.strOk s = true := by
  unfold PyData.strOk
  rw [← Array.all_toList, List.all_eq_true]
  intro c hc
  have := h.2.2 c hc
  unfold letters at this
  obtain ⟨i, hi, rfl⟩ := List.mem_map.mp this
  have := List.mem_range.mp hi
  simp; omega
end Dl
set_option Elab.async false
set_option linter.all false
set_option maxRecDepth 100000
/-! range of numbers of any size -/
namespace Dl
open PySem L2 PyProof.Rows
section
variable {X : Cx} {tg : Expr}
def iRng2W (ta : TA) : TI := fun σ H R => ta σ H fun vs H1 => ∃ i j : Int, vs = [.int i, .int j] ∧ R (Itr i (j - i).toNat) H1
end
section
variable {K : PySem.W.Frag} {B : Bs} {ρ : En} {μ : Mu} {ts : TA} {PI' : List D → (Mu → Prop) → Mu → Prop}
theorem di_range2W (h : DA K B ts ρ μ fun xs μ1 => ∃ lo n : Int, xs = [.int lo, .int n] ∧ PI' (rangeD lo (n - lo).toNat) (fun _ => True) μ1) : DI K B (iRng2W ts) ρ μ PI' := fun σ G H al hB hσ hA R hR =>
  h σ G H al hB hσ hA _ fun vs ds μ1 G1 H1 al1 n1 A1 r1 p1 => by
    obtain ⟨lo, n, rfl, p⟩ := p1
    obtain ⟨v, w, rfl, q1, q2⟩ := rps2 r1
    cases q1; cases q2
    exact ⟨lo, n, rfl, hR _ _ _ μ1 G1 H1 al1 n1 A1 itr_ok p⟩
end
end Dl
set_option Elab.async false
set_option linter.all false
set_option maxRecDepth 100000
namespace Dl
open PySem L2 PyProof.Rows
section
variable {K : PySem.W.Frag} {B : Bs} {ρ : En} {μ : Mu} {ts : TA} {u : TS} {x y z : D}
def Three (ds : List D) (F : D → D → D → Prop) : Prop := ∃ x y z, ds = [x, y, z] ∧ F x y z
theorem three_i {F : D → D → D → Prop} (h : F x y z) : Three [x, y, z] F := ⟨x, y, z, rfl, h⟩
theorem ds_par3 {i j l : Nat} {P : DEnds} (h : DA K B ts ρ μ fun ds μ1 => Three ds fun x y z => P.nx (((ρ.set i (some x)).set j (some y)).set l (some z)) μ1) : DS K B (tPar3 i j l ts) ρ μ P := fun σ G H al hB hσ hA De hD =>
  h σ G H al hB hσ hA _ fun vs ds μ1 G1 H1 al1 n1 A1 r1 p1 => by
    obtain ⟨x, y, z, rfl, p⟩ := p1
    obtain ⟨v, ws, rfl, rx, r2⟩ := rps_cons r1
    obtain ⟨w, u, rfl, ry, rz⟩ := rps2 r2
    exact ⟨_, _, _, rfl, hD.nx _ _ μ1 G1 H1 al1 n1 ((((hσ.nx n1).set i rx).set j ry).set l rz) A1 p⟩
theorem q_par3 {i j l : Nat} {P : DEnds} (h : DA K B ts ρ μ fun ds μ1 => Three ds fun x y z => DS K B u (((ρ.set i (some x)).set j (some y)).set l (some z)) μ1 P) : DS K B (tSeq (tPar3 i j l ts) u) ρ μ P := ds_seq (ds_par3 h)
theorem ro_eqNI {i : Int} {P : D → Mu → Prop} (h : P (.bl false) μ) : RO K (rEqD K) .non (.int i) μ P := ro_eqD (n := 0) (m := 0) (.id _) (.id _) rfl rfl (by rw [show eqvD .non (.int i) = false by simp only [eqvD, D.py, PyData.eqv]]; exact h)
end
end Dl
set_option Elab.async false
set_option linter.all false
set_option maxRecDepth 100000
/-! dicts with keys ints and texts -/
namespace Dl
open PySem L2
def keyD : Key → D
  | .inl i => .int i
  | .inr s => .str s
def valD (kvs : List (Key × D)) (k : Key) : Option D := (kvs.find? fun kv => decide (kv.1 = k)).map (·.2)
def putKD (kvs : List (Key × D)) (k : Key) (v : D) : List (Key × D) :=
  if (kvs.any fun kv => decide (kv.1 = k)) = true then kvs.map (fun kv => if kv.1 = k then (kv.1, v) else kv) else kvs ++ [(k, v)]
theorem rp_key {K : PySem.W.Frag} {G : Hp} {al : List Addr} {v : V} {k : Key} (h : Rp K G al v (keyD k)) : v = kV k := by
  cases k with
  | inl i => cases h; rfl
  | inr s => cases h; rfl
section
variable {K : PySem.W.Frag} {G H : Hp} {al : List Addr}
theorem Rpk.val : ∀ {gs : List (Key × D)} {kvs : List (Key × V)}, Rpk K G al kvs gs → ∀ k, (∀ d, valD gs k = some d → ∃ v, valV kvs k = some v ∧ Rp K G al v d) ∧ (valD gs k = none → valV kvs k = none)
  | [], _, h, k => by cases h; exact ⟨fun d e => (by cases e), fun _ => rfl⟩
  | (f, x) :: gs, _, h, k => by
    cases h with
    | @cons f v vs d ds r t =>
      have ih := t.val k
      by_cases e : f = k
      · refine ⟨fun d' e' => ?_, fun e' => ?_⟩
        · simp [valD, List.find?_cons, e] at e'
          subst e'
          exact ⟨v, valV_pos e, r⟩
        · simp [valD, List.find?_cons, e] at e'
      · have e1 : valD ((f, x) :: gs) k = valD gs k := by simp [valD, List.find?_cons, e]
        rw [e1, valV_neg (p := (f, v)) e]
        exact ih
theorem Rpk.any : ∀ {gs : List (Key × D)} {kvs : List (Key × V)}, Rpk K G al kvs gs → ∀ k, (kvs.any fun kv => decide (kv.1 = k)) = (gs.any fun kv => decide (kv.1 = k))
  | [], _, h, k => by cases h; rfl
  | (f, x) :: gs, _, h, k => by
    cases h with
    | cons r t => simp only [List.any_cons, t.any k]
theorem Rpk.append : ∀ {gs fs : List (Key × D)} {kvs ls : List (Key × V)}, Rpk K G al kvs gs → Rpk K G al ls fs → Rpk K G al (kvs ++ ls) (gs ++ fs)
  | [], _, _, _, h, h' => by cases h; exact h'
  | _ :: _, _, _, _, h, h' => by cases h with | cons r t => exact .cons r (t.append h')
theorem Rpk.repl {k : Key} {v : V} {d : D} (r : Rp K G al v d) : ∀ {gs : List (Key × D)} {kvs : List (Key × V)}, Rpk K G al kvs gs → Rpk K G al (kvs.map fun kv => if kv.1 = k then (kv.1, v) else kv) (gs.map fun kv => if kv.1 = k then (kv.1, d) else kv)
  | [], _, h => by cases h; exact .nil
  | (f, x) :: gs, _, h => by
    cases h with
    | cons r' t =>
      simp only [List.map_cons]
      by_cases e : f = k
      · rw [if_pos e, if_pos e]; exact .cons r (t.repl r)
      · rw [if_neg e, if_neg e]; exact .cons r' (t.repl r)
theorem Rpk.put {gs : List (Key × D)} {kvs : List (Key × V)} (h : Rpk K G al kvs gs) (k : Key) {v : V} {d : D} (r : Rp K G al v d) : Rpk K G al (putK kvs k v) (putKD gs k d) := by
  unfold putK putKD
  rw [h.any k]
  split
  · exact h.repl r
  · exact h.append (.cons r .nil)
theorem Rpk.length : ∀ {gs : List (Key × D)} {kvs : List (Key × V)}, Rpk K G al kvs gs → kvs.length = gs.length
  | [], _, h => by cases h; rfl
  | _ :: _, _, h => by cases h with | cons _ t => simp [t.length]
end
/-- a dict as it stands -/
inductive Dt (μ : Mu) : D → List (Key × D) → Prop
  | dct (gs : List (Key × D)) : Dt μ (.dct gs) gs
  | own {k : Nat} {gs : List (Key × D)} (h : μ[k]? = some (.dK gs)) : Dt μ (.own k) gs
theorem Dt.get {K : PySem.W.Frag} {G H : Hp} {al : List Addr} {μ : Mu} {v : V} {d : D} {gs : List (Key × D)} (h : Dt μ d gs) (A : As K G H al μ) (r : Rp K G al v d) : ∃ a kvs, v = .ref a ∧ Rd H a (.dK kvs) ∧ Rpk K G al kvs gs := by
  cases h with
  | dct => cases r with | dct e rs => exact ⟨_, _, rfl, rd_mono A.sub e, rs⟩
  | own hk =>
    obtain ⟨a, ha, ga, vs, hv, rs⟩ := A.get hk
    cases r with
    | own e => rw [ha] at e; cases e; exact ⟨_, vs, rfl, .inl hv, rs⟩
section
variable {K : PySem.W.Frag} {B : Bs} {ρ : En} {μ : Mu} {td ty tv tx : TE} {P : D → Mu → Prop} {u : TS}
def DGetP (μ : Mu) (x y : D) (F : D → Prop) : Prop := ∃ gs k d, Dt μ x gs ∧ y = keyD k ∧ valD gs k = some d ∧ F d
def DInP (μ : Mu) (x y : D) (F : Bool → Prop) : Prop := ∃ gs k, Dt μ x gs ∧ y = keyD k ∧ F (valD gs k).isSome
theorem dgp_s {x d : D} {gs : List (Key × D)} {s : Str} {F : D → Prop} (h : Dt μ x gs) (e : valD gs (.inr s) = some d) (f : F d) : DGetP μ x (.str s) F := ⟨gs, .inr s, d, h, rfl, e, f⟩
theorem Rpk.isSome {G : Hp} {al : List Addr} {gs : List (Key × D)} {kvs : List (Key × V)} (h : Rpk K G al kvs gs) (k : Key) : (valV kvs k).isSome = (valD gs k).isSome := by
  cases q : valD gs k with
  | none => rw [(h.val k).2 q]; rfl
  | some d =>
    obtain ⟨v, e, _⟩ := (h.val k).1 d q
    rw [e]; rfl
theorem dget_k {H : Hp} {a : Addr} {kvs : List (Key × V)} {k : Key} (e : Rd H a (.dK kvs)) : DGet H a (kV k) (valV kvs k) := .inl ⟨kvs, k, e, rfl, rfl⟩
theorem de_dget (h : DE K B td ρ μ fun x μ1 => DE K B ty ρ μ1 fun y μ2 => DGetP μ2 x y fun d => P d μ2) : DE K B (tDGet td ty) ρ μ P := fun σ G H al hB hσ hA Q hQ =>
  h σ G H al hB hσ hA _ fun vx x μ1 G1 H1 al1 n1 A1 r1 p1 => p1 σ G1 H1 al1 (hB.trans n1) (hσ.nx n1) A1 _ fun vy y μ2 G2 H2 al2 n2 A2 r2 p2 => by
    obtain ⟨gs, k, d, dt, rfl, e, p⟩ := p2
    obtain ⟨a, kvs, rfl, ha, rk⟩ := dt.get A2 (r1.nx n2)
    obtain rfl := rp_key r2
    obtain ⟨v, ev, rv⟩ := (rk.val k).1 d e
    exact ⟨a, v, rfl, by rw [← ev]; exact dget_k ha, hQ v d μ2 G2 H2 al2 (n1.trans n2) A2 rv p⟩
theorem de_din (h : DE K B ty ρ μ fun y μ1 => DE K B td ρ μ1 fun x μ2 => DInP μ2 x y fun b => P (.bl b) μ2) : DE K B (tDIn ty td) ρ μ P := fun σ G H al hB hσ hA Q hQ =>
  h σ G H al hB hσ hA _ fun vy y μ1 G1 H1 al1 n1 A1 r1 p1 => p1 σ G1 H1 al1 (hB.trans n1) (hσ.nx n1) A1 _ fun vx x μ2 G2 H2 al2 n2 A2 r2 p2 => by
    obtain ⟨gs, k, dt, rfl, p⟩ := p2
    obtain ⟨a, kvs, rfl, ha, rk⟩ := dt.get A2 r2
    obtain rfl := rp_key r1
    refine ⟨a, _, rfl, dget_k ha, ?_⟩
    rw [rk.isSome k]
    exact hQ _ _ μ2 G2 H2 al2 (n1.trans n2) A2 (.bl _) p
theorem de_dnin (h : DE K B ty ρ μ fun y μ1 => DE K B td ρ μ1 fun x μ2 => DInP μ2 x y fun b => P (.bl (!b)) μ2) : DE K B (tDNotIn ty td) ρ μ P := fun σ G H al hB hσ hA Q hQ =>
  h σ G H al hB hσ hA _ fun vy y μ1 G1 H1 al1 n1 A1 r1 p1 => p1 σ G1 H1 al1 (hB.trans n1) (hσ.nx n1) A1 _ fun vx x μ2 G2 H2 al2 n2 A2 r2 p2 => by
    obtain ⟨gs, k, dt, rfl, p⟩ := p2
    obtain ⟨a, kvs, rfl, ha, rk⟩ := dt.get A2 r2
    obtain rfl := rp_key r1
    refine ⟨a, _, rfl, dget_k ha, ?_⟩
    rw [rk.isSome k]
    exact hQ _ _ μ2 G2 H2 al2 (n1.trans n2) A2 (.bl _) p
theorem de_dnewF (h : P (.dct []) μ) : DE K B tDNewK ρ μ P := fun σ G H al hB hσ hA Q hQ p hp => by
  obtain ⟨A2, n2⟩ := hA.frz (o := .dK []) hp
  exact hQ _ _ μ _ _ _ n2 A2 (.dct (.inl upd_same) .nil) h
/-! ### displays -/
/-! ### freezing -/
end
end Dl
set_option Elab.async false
set_option linter.all false
set_option maxRecDepth 100000
/-! min(xs, default=d) -/
set_option Elab.async false
set_option linter.all false
set_option maxRecDepth 100000
set_option Elab.async false
set_option linter.all false
set_option maxRecDepth 100000
namespace Dl
open PySem L2
section
variable {K : PySem.W.Frag} {B : Bs} {ρ : En} {μ : Mu} {te : TE} {tt : TT} {wi : TI} {g : TG} {vs : List Nat} {P : D → Mu → Prop}
/-- .. or not frozen: it may still change -/
theorem de_lcF (hg : GW g vs) (h : DI K B wi ρ μ fun ds S μ1 => ds.length ≤ 100000 ∧ ∃ Iv : Nat → List D → Mu → Prop, Iv 0 [] μ1 ∧ (∀ i acc μ', i ≤ ds.length → Iv i acc μ' → S μ') ∧
      (∀ i d acc μ', ds[i]? = some d → Iv i acc μ' → DG K B g d (wipeD ρ vs) μ' fun ρ2 μ2 => DT K B tt ρ2 μ2 fun b μ3 => (b = true → DE K B te ρ2 μ3 fun y μ4 => Iv (i + 1) (acc ++ [y]) μ4) ∧ (b = false → Iv (i + 1) acc μ3)) ∧
      (∀ acc μ', Iv ds.length acc μ' → P (.lst acc) μ' ∨ P (.own μ'.length) (μ' ++ [.lst acc]))) : DE K B (tLc wi g tt te vs) ρ μ P := fun σ G H al hB hσ hA Q hQ =>
  h σ G H al hB hσ hA _ fun J ds S μ1 G1 H1 al1 n1 A1 ok p1 => by
    obtain ⟨hlen, Iv, h0, hS, hs, hd⟩ := p1
    intro Dl hDl
    have nDl : Dl ∉ al1 := fun m => A1.here Dl m hDl
    have gDl : G1 Dl = none := A1.sub.free hDl
    -- a store to the list that is made
    have store : ∀ {G' H' al' μ' ac}, Nx G1 H1 al1 G' H' al' → As K G' H' al' μ' → G' Dl = none → Dl ∉ al' → As K G' (upd H' Dl (.lst ac)) al' μ' ∧ Nx G1 H1 al1 G' (upd H' Dl (.lst ac)) al' := by
      intro G' H' al' μ' ac n A g' nal
      refine ⟨⟨fun b u e => by rw [upd_ne (ne_of_none e g')]; exact A.sub _ _ e, A.nd, A.len, fun a m => ?_, fun k a o e1 e2 => ?_⟩, ⟨n.g, n.p, fun a u h m => ?_, n.out, n.new⟩⟩
      · have z : a ≠ Dl := fun z => nal (z ▸ m)
        rw [upd_ne z]; exact A.here a m
      · have z : a ≠ Dl := fun z => nal (z ▸ List.mem_of_getElem? e1)
        exact OkO.mono (Same.refl _) (Pre.refl _) (fun _ g => g) (by rw [upd_ne z]) (A.ok k a o e1 e2)
      · rw [upd_ne (ne_of_none h hDl)]; exact n.keep a u h m
    -- Dl stays where it is through a step
    have stay : ∀ {G' H' al' G'' H'' al'' u}, Nx G' H' al' G'' H'' al'' → H' Dl = some (.lst u) → G' Dl = none → Dl ∉ al' → H'' Dl = some (.lst u) ∧ G'' Dl = none ∧ Dl ∉ al'' := by
      intro G' H' al' G'' H'' al'' u n h g' nal
      refine ⟨n.keep Dl (.lst u) h nal, n.out Dl (by rw [h]; simp) (fun vs e => by rw [h] at e; cases e) nal g', fun m => ?_⟩
      rcases n.new Dl m with z | z
      · exact nal z
      · rw [h] at z; cases z
    obtain ⟨A0, N0⟩ := store (ac := []) .refl A1 gDl nDl
    refine ⟨fun i m H' => m = ds.length - i ∧ i ≤ ds.length ∧ ∃ G' al' μ' acc vacc, Nx G1 H1 al1 G' H' al' ∧ As K G' H' al' μ' ∧ H' Dl = some (.lst vacc) ∧ Rps K G' al' vacc acc ∧ G' Dl = none ∧ Dl ∉ al' ∧ acc.length ≤ i ∧ Iv i acc μ',
      ⟨ds.length, by simp, Nat.zero_le _, G1, al1, μ1, [], [], N0, A0, upd_same, .nil, gDl, nDl, Nat.le_refl _, h0⟩, ?_⟩
    rintro i m H' ⟨rfl, hi, G', al', μ', acc, vacc, n', A', hv, rv, g', nal, hacc, iv⟩
    obtain ⟨go, stop, yld⟩ := ok G' H' al' μ' n' A' (hS i acc μ' hi iv)
    by_cases hlt : i < ds.length
    · refine .inr ⟨go i hlt, fun H2 => ∃ G2 al2 μ2 acc vacc, Nx G1 H1 al1 G2 H2 al2 ∧ As K G2 H2 al2 μ2 ∧ H2 Dl = some (.lst vacc) ∧ Rps K G2 al2 vacc acc ∧ G2 Dl = none ∧ Dl ∉ al2 ∧ acc.length ≤ i + 1 ∧ Iv (i + 1) acc μ2, fun H2 q => ⟨ds.length - (i + 1), by omega, rfl, hlt, q⟩, fun x H3 y => ?_⟩
      obtain ⟨G3, n3, A3, r3⟩ := yld i x H3 y _ (List.getElem?_eq_getElem hlt)
      obtain ⟨hv3, g3, nal3⟩ := stay n3 hv g' nal
      have nn3 := n'.trans n3
      have hw : RpS K G3 al' (wipe σ vs) (wipeD ρ vs) := wipe_rps ((hσ.nx n1).nx nn3) vs
      have q := hs i _ acc μ' (List.getElem?_eq_getElem hlt) iv (wipe σ vs) G3 H3 al' x (((hB.trans n1).trans n').trans n3) hw A3 r3
      have q2 := hg x (wipe σ vs) H3 _ (q (fun σ2 H2 => tt σ2 H2 fun b H3 => if b = true then te σ2 H3 fun y H4 => ∃ acc, H4 Dl = some (.lst acc) ∧ acc.length < sizeLine ∧ (∃ G2 al2 μ2 acc' vacc, Nx G1 H1 al1 G2 (upd H4 Dl (.lst (acc ++ [y]))) al2 ∧ As K G2 (upd H4 Dl (.lst (acc ++ [y]))) al2 μ2 ∧ (upd H4 Dl (.lst (acc ++ [y]))) Dl = some (.lst vacc) ∧ Rps K G2 al2 vacc acc' ∧ G2 Dl = none ∧ Dl ∉ al2 ∧ acc'.length ≤ i + 1 ∧ Iv (i + 1) acc' μ2)
          else (∃ G2 al2 μ2 acc' vacc, Nx G1 H1 al1 G2 H3 al2 ∧ As K G2 H3 al2 μ2 ∧ H3 Dl = some (.lst vacc) ∧ Rps K G2 al2 vacc acc' ∧ G2 Dl = none ∧ Dl ∉ al2 ∧ acc'.length ≤ i + 1 ∧ Iv (i + 1) acc' μ2)) fun σ4 ρ4 μ4 G4 H4 al4 n4 hσ4 A4 p4 => ?_)
      · rw [wipe_wipe σ vs vs fun _ h => h] at q2
        exact q2
      · obtain ⟨hv4, g4, nal4⟩ := stay n4 hv3 g3 nal3
        have nn4 := nn3.trans n4
        refine p4 σ4 G4 H4 al4 ((hB.trans n1).trans nn4) hσ4 A4 _ fun b μ5 G5 H5 al5 n5 A5 p5 => ?_
        obtain ⟨hv5, g5, nal5⟩ := stay n5 hv4 g4 nal4
        have nn5 := nn4.trans n5
        cases b with
        | false =>
          rw [if_neg (by simp)]
          exact ⟨G5, al5, μ5, acc, vacc, nn5, A5, hv5, (((rv.nx n3).nx n4).nx n5), g5, nal5, Nat.le_succ_of_le hacc, p5.2 rfl⟩
        | true =>
          rw [if_pos rfl]
          refine p5.1 rfl σ4 G5 H5 al5 ((hB.trans n1).trans nn5) (hσ4.nx n5) A5 _ fun yv y μ6 G6 H6 al6 n6 A6 r6 p6 => ?_
          obtain ⟨hv6, g6, nal6⟩ := stay n6 hv5 g5 nal5
          have rv6 := (((rv.nx n3).nx n4).nx n5).nx n6
          obtain ⟨A7, n7⟩ := store (ac := vacc ++ [yv]) (nn5.trans n6) A6 g6 nal6
          refine ⟨vacc, hv6, ?_, G6, al6, μ6, acc ++ [y], vacc ++ [yv], n7, A7, upd_same, rv6.append (.cons r6 .nil), g6, nal6, by simp; omega, p6⟩
          rw [rv6.length]
          exact Nat.lt_of_lt_of_le (Nat.lt_of_le_of_lt hacc (Nat.lt_of_lt_of_le hlt hlen)) (by decide)
    · have e : i = ds.length := by omega
      subst e
      refine .inl ⟨stop _ (Nat.le_refl _), ?_⟩
      rcases hd acc μ' iv with pf | po
      rotate_left
      · have A7 : As K G' H' (al' ++ [Dl]) (μ' ++ [.lst acc]) := by
          refine ⟨A'.sub, ?_, by simp [A'.len], fun a m => ?_, fun k a o e1 e2 => ?_⟩
          · rw [List.nodup_append]
            exact ⟨A'.nd, by simp, fun a ha b hb => by
              obtain rfl := List.mem_singleton.mp hb
              exact fun e => nal (e ▸ ha)⟩
          · rcases List.mem_append.mp m with c | c
            · exact A'.here a c
            · obtain rfl := List.mem_singleton.mp c
              rw [hv]; simp
          · rcases Nat.lt_or_ge k al'.length with c | c
            · rw [List.getElem?_append_left c] at e1
              rw [List.getElem?_append_left (by rw [← A'.len]; exact c)] at e2
              exact OkO.mono (Same.refl _) ⟨[Dl], rfl⟩ (fun _ g => g) rfl (A'.ok k a o e1 e2)
            · rw [List.getElem?_append_right c] at e1
              rw [List.getElem?_append_right (by rw [← A'.len]; exact c)] at e2
              have hk : k - al'.length = 0 := by
                have := (List.getElem?_eq_some_iff.mp e1).1
                simp at this; omega
              rw [hk] at e1
              rw [← A'.len, hk] at e2
              simp at e1 e2
              subst e1; subst e2
              exact ⟨g', vacc, hv, rv.mono (Same.refl _) ⟨[Dl], rfl⟩⟩
        have n7 : Nx G1 H1 al1 G' H' (al' ++ [Dl]) := ⟨n'.g, n'.p.trans ⟨[Dl], rfl⟩, n'.keep, n'.out, fun a m => by
          rcases List.mem_append.mp m with c | c
          · exact n'.new a c
          · obtain rfl := List.mem_singleton.mp c
            exact .inr hDl⟩
        exact hQ _ _ _ _ _ _ (n1.trans n7) A7 (.own (by rw [← A'.len]; simp)) po
      have s1 : Same G' (upd G' Dl (.lst vacc)) := fun b u e => by rw [upd_ne (ne_of_none e g')]; exact e
      have A7 : As K (upd G' Dl (.lst vacc)) H' al' μ' := by
        refine ⟨fun b u e => ?_, A'.nd, A'.len, A'.here, fun k a o e1 e2 => ?_⟩
        · by_cases hb : b = Dl
          · subst hb; rw [upd_same] at e; rw [← e]; exact hv
          · rw [upd_ne hb] at e; exact A'.sub _ _ e
        · have z : a ≠ Dl := fun z => nal (z ▸ List.mem_of_getElem? e1)
          exact OkO.mono s1 (Pre.refl _) (fun _ g => by rw [upd_ne z]; exact g) rfl (A'.ok k a o e1 e2)
      have n7 : Nx G1 H1 al1 (upd G' Dl (.lst vacc)) H' al' := ⟨n'.g.trans s1, n'.p, n'.keep, fun a h t m g => by
        have z : a ≠ Dl := fun z => h (by rw [z]; exact hDl)
        rw [upd_ne z]; exact n'.out a h t m g, n'.new⟩
      exact hQ _ _ _ _ _ _ (n1.trans n7) A7 (.lst upd_same (rv.mono s1 (Pre.refl _))) pf
/-- [f d for d in ds if p d]; frozen or not -/
theorem lc_filtF (p : D → Bool) (f : D → D) (hg : GW g vs) (h : DI K B wi ρ μ fun ds S μ1 => S μ1 ∧ ds.length ≤ 100000 ∧ (∀ (i : Nat) (d : D), ds[i]? = some d → DG K B g d (wipeD ρ vs) μ1 fun ρ2 μ2 => μ2 = μ1 ∧ DT K B tt ρ2 μ1 fun b μ3 => b = p d ∧ μ3 = μ1 ∧ (b = true → DE K B te ρ2 μ1 fun y μ4 => y = f d ∧ μ4 = μ1)) ∧ ∀ out, (ds.filter p).map f = out → Fresh out μ1 P) : DE K B (tLc wi g tt te vs) ρ μ P := by
  refine de_lcF hg fun σ G H al hB hσ hA R hR => h σ G H al hB hσ hA R fun J ds S μ1 G1 H1 al1 n1 A1 ok p' => hR J ds S μ1 G1 H1 al1 n1 A1 ok ?_
  obtain ⟨hS, hl, hs, hp⟩ := p'
  refine ⟨hl, fun i acc μ' => acc = ((ds.take i).filter p).map f ∧ μ' = μ1, ⟨by simp, rfl⟩, fun i acc μ' _ h => by rw [h.2]; exact hS, fun i d acc μ' hd h => ?_, fun acc μ' h => ?_⟩
  · obtain ⟨rfl, rfl⟩ := h
    refine fun σ G H al v hB hσ hA rv Q hQ => hs i d hd σ G H al v hB hσ hA rv Q fun σ2 ρ2 μ2 G2 H2 al2 n2 hσ2 A2 p2 => hQ σ2 ρ2 μ2 G2 H2 al2 n2 hσ2 A2 ?_
    obtain ⟨rfl, p2⟩ := p2
    refine fun σ G H al hB hσ hA Q hQ => p2 σ G H al hB hσ hA Q fun b μ3 G3 H3 al3 n3 A3 p3 => hQ b μ3 G3 H3 al3 n3 A3 ?_
    obtain ⟨hb, rfl, p3⟩ := p3
    have e : (List.take (i + 1) ds) = List.take i ds ++ [d] := by rw [List.take_add_one, hd]; rfl
    refine ⟨fun hbt => (p3 hbt).imp fun y μ4 ⟨e1, e2⟩ => ⟨?_, e2⟩, fun hbf => ⟨?_, rfl⟩⟩
    · rw [e, List.filter_append, List.map_append, e1]
      rw [hb] at hbt
      simp [hbt]
    · rw [e, List.filter_append, List.map_append]
      rw [hb] at hbf
      simp [hbf]
  · obtain ⟨rfl, rfl⟩ := h
    rw [List.take_length]
    exact hp _ rfl
end
def rAbs : List V → Hp → VK → Prop := fun xs H Q => ∃ i, xs = [.int i] ∧ Q (.int (if i < 0 then -i else i)) H
section
variable {K : PySem.W.Frag} {μ : Mu} {P : D → Mu → Prop} {i : Int} {d : D} {ds : List D}
theorem rc_abs (h : P (.int (i.natAbs : Int)) μ) : RC K rAbs [.int i] μ P := fun G H al vs A r Q hQ => by
  obtain ⟨v, rfl, r1⟩ := rps1 r
  cases r1
  refine ⟨i, rfl, ?_⟩
  rw [show (if i < 0 then -i else i) = (i.natAbs : Int) by split <;> omega]
  exact hQ.now A (.int _) h
end
end Dl
set_option Elab.async false
set_option linter.all false
set_option maxRecDepth 100000
/-! a def called through its class, C.m(..); a head with more facts -/
namespace Dl
open PySem L2 PyProof.Rows
/-! ### the head, with more facts -/
abbrev AlX : Type := He.AlD × Bool
def exAll (ex : List (PySem.W.Frag → Bool)) (K : PySem.W.Frag) : Bool := ex.all fun e => e K
theorem exAll_at {ex : List (PySem.W.Frag → Bool)} {K : PySem.W.Frag} (h : exAll ex K = true) (i : Nat) {e : PySem.W.Frag → Bool} (he : ex[i]? = some e := by rfl) : e K = true := List.all_eq_true.mp h e (List.mem_of_getElem? he)
end Dl
set_option Elab.async false
set_option linter.all false
set_option maxRecDepth 100000
/-! list(range(a, b)) of numbers of any size -/
set_option Elab.async false
set_option linter.all false
set_option maxRecDepth 100000
/-! int of a truth value; isinstance of own classes: what of the head it wants -/
namespace Dl
open PySem L2 PyProof.Rows
def obtB (x : Str) (K : PySem.W.Frag) : Bool := He.eqO (PySem.W.findIn K (.ref (He.ga K x)) "__class__") (some (some (.builtin "object.__class__"))) && (He.eqO (PySem.W.specialIn K (.builtin "object.__class__") "__get__") (some (some (.builtin "getset_descriptor.__get__"))) &&
  (decide (PySem.W.takesIn K (.builtin "object.__class__") = some true) && decide (PySem.W.mroIn K (He.ga K x) (.type "object") = some true)))
theorem obtB_ok {K : PySem.W.Frag} {x : Str} (c : Cls K (He.ga K x)) (h : obtB x K = true) : ObT K (He.ga K x) := by
  unfold obtB at h
  obtain ⟨h1, h2⟩ := He.ba h
  obtain ⟨h3, h4⟩ := He.ba h2
  obtain ⟨h5, h6⟩ := He.ba h4
  exact ⟨c, He.eqO_ok h1, He.eqO_ok h3, of_decide_eq_true h5, of_decide_eq_true h6⟩
def isB (x y : Str) (b : Bool) (K : PySem.W.Frag) : Bool := decide (PySem.W.kitOne K (.ref (He.ga K x)) (.ref (He.ga K y)) = some b)
theorem isB_ok {K : PySem.W.Frag} {x y : Str} {b : Bool} (h : isB x y b K = true) : PySem.W.kitOne K (.ref (He.ga K x)) (.ref (He.ga K y)) = some b := of_decide_eq_true h
end Dl
set_option Elab.async false
set_option linter.all false
set_option maxRecDepth 100000
/-! sorted(set(xs)) of a list of ints -/
set_option Elab.async false
set_option linter.all false
set_option maxRecDepth 100000
/-! list.count of texts; slices stored; dict(pairs), d.get(k, x) -/
set_option Elab.async false
set_option linter.all false
set_option Elab.async false
set_option linter.all false
set_option maxRecDepth 100000
set_option maxHeartbeats 2000000
/-! exceptions that are caught and kept as values -/
namespace Dl
open PySem PySem.Spec PyProof.Rows L2
section
variable {X : Cx} {pins : List (Addr × Obj)} {σ : L2.St} {H : Hp} {s : Shared}
/-- an object that the frame has met (an exception) is tracked from here on -/
theorem trackX {a : Addr} {oe : Obj} {vs : Array Value} {cls : Value} {d : Option Addr} (I : Inv X pins σ H s) (ha : s.heap.get? a = some oe) (hz : Zc cls d oe) (hd : oe.data = .fields vs) (na : H a = none)
    (nL : a ≠ X.env.locals) (h0 : X.s_0.heap.get? a = none) (hp : ∀ p ∈ X.pn ++ pins, p.1 ≠ a) : Inv X pins σ (upd H a (ExV cls d a)) s := by
  refine ⟨I.ok, I.os, I.bare, ⟨I.base.keep, I.base.slot, fun b o e n hx => ?_, I.base.there, fun b xs e => ?_, fun b o u e => ?_, fun b ps e => ?_⟩, I.loc, I.cell, ?_, fun x c e => ?_, fun p hp' => ?_, fun b u e => ?_, I.len⟩
  · have z : b ≠ a := fun z => by rw [z, h0] at e; cases e
    rw [upd_ne z]; exact I.base.free b o e n hx
  · have q := I.base.tups b xs e
    rw [upd_ne (ne_of_none q na)]; exact q
  · have q := I.base.frzs b o u e
    rw [upd_ne (ne_of_none q na)]; exact q
  · obtain ⟨m, q⟩ := I.base.tbls b ps e
    exact ⟨m, by rw [upd_ne (ne_of_none q na)]; exact q⟩
  · rw [upd_ne nL.symm]; exact I.free
  · obtain ⟨v, o, ho, hd'⟩ := I.cell x c e
    have z : c ≠ a := fun z => by
      rw [z, ha] at ho; cases ho
      rw [hd] at hd'; cases hd'
    rw [upd_ne z]; exact I.freeC x c e
  · obtain ⟨e, n, ne, nf, d'⟩ := I.pin p hp'
    exact ⟨e, by rw [upd_ne (hp p hp')]; exact n, ne, nf, d'⟩
  · by_cases hb : b = a
    · subst hb
      rw [upd_same] at e
      cases e
      exact ⟨⟨oe, vs, ha, hz, hd⟩, ⟨oe, ha⟩, fun _ _ ⟨o, v, q, r⟩ k => ⟨o, v, k o q, r⟩⟩
    · rw [upd_ne hb] at e
      exact (I.hok b u e).stay (fun c v _ q => q) (fun c q => by rw [upd_ne (ne_of_none q na)]; exact q) fun c xs q => by rw [upd_ne (ne_of_none q na)]; exact q
/-- the frame of an except suite whose exception is tracked -/
theorem inSuite {a : Addr} (I : Inv X pins σ H s) : Inv (X.suite a (X.pn ++ pins)) [] σ H s :=
  ⟨I.ok.suite _ _, I.os, I.bare, I.base, I.loc, I.cell, I.free, I.freeC, fun p hp => I.pin p (by rw [List.append_nil] at hp; exact hp), I.hok, I.len⟩
theorem outSuite {a : Addr} {pn' : List (Addr × Obj)} (I : Inv (X.suite a (X.pn ++ pins)) pn' σ H s) (ok : X.Ok) : Inv X pins σ H s :=
  ⟨ok, I.os, I.bare, I.base, I.loc, I.cell, I.free, I.freeC, fun p hp => I.pin p (List.mem_append_left _ hp), I.hok, I.len⟩
end
/-- the ends of an except suite: its name goes -/
def endsX (i : Nat) (D : Ends) : Ends := { nx := fun σ' H' => D.nx (σ'.set i none) H', rt := D.rt, bk := fun σ' H' => D.bk (σ'.set i none) H', ct := fun σ' H' => D.ct (σ'.set i none) H' }
/-- what 'except x as n' wishes of an exception: slot i is n's -/
def wKp (K : PySem.W.Frag) (c : Value) (i : Nat) (ts : TS) (Wout : WX) (D : Ends) : WX := fun cls d σ H =>
  ∃ b, PySem.W.exmOne K cls c = some b ∧ (b = true → ∀ a, H a = none → ts (endsX i D) (σ.set i (some (.ref a))) (upd H a (ExV cls d a))) ∧ (b = false → Wout cls d σ H)
def tTry (K : PySem.W.Frag) (c : Value) (i : Nat) (tb : WX → TS) (ts : TS) (Wout : WX) : TS := fun D σ H => tb (wKp K c i ts Wout D) D σ H
section
variable {X : Cx} {x n : Str} {c : Value} {i : Nat} {body suite : List Stmt} {b₀ : Stmt} {np pos pos' : Pos} {tb : WX → TS} {ts : TS} {Wout : WX}
/-- try: .. except x as n: .., the caught exception stays a value -/
theorem ps_try_kp (hs : X.stack = X.env :: X.outer) (hf : X.env.frame = some X.env.locals) (hex : X.ex = []) (hN : X.N.Nodup) (hi : X.N[i]? = some n) (hln : X.env.kindOf n = some .local) (hc : Names X x c) (tk : Takes X Wout)
    (hb : ∀ (W : WX) (pn : List (Addr × Obj)) (xe : Value → Shared → Prop), Takes (X.tr pn xe) W → PassesOwn (model X.prog X.w) X.A X.env xe → PSs (X.tr pn xe) body (tb W))
    (hsu : ∀ (a : Addr) (pn : List (Addr × Obj)), PSs (X.suite a pn) (b₀ :: suite) ts) :
    PS X (.Try body [.ExceptHandler (some (.Name x np)) (some n) (b₀ :: suite) pos'] [] [] pos) (tTry X.K c i tb ts Wout) := by
  refine ⟨fun pins s σ H D I h => ?_⟩
  have ok := I.ok
  have hfr : X.A.frames = some (X.env :: X.outer) := ok.frames.trans (by rw [hs])
  have hloc : Loc X.env.scope n := Or.inl hln
  refine wpAny_Try_except ?_
  refine wpAny_mono ((hb (wKp X.K c i ts Wout D) (X.pn ++ pins) (fun e s₁ => wpAny (model X.prog X.w) X.A (noteFrame e X.env) (fun _ s₂ => wpAny (model X.prog X.w) X.A (setFlight e none) (fun _ s₃ =>
    wpAny (model X.prog X.w) X.A (handleBy e X.env [.ExceptHandler (some (.Name x np)) (some n) (b₀ :: suite) pos']) (SP X pins D) X.xe s₃) X.xe s₂) X.xe s₁) (fun u s' xx => ?_) PassesOwn.looking).run [] s σ H D (I.toTry _) h) (fun f s1 hsp => ?_) (fun e s1 he => he)
  · obtain ⟨a, B, sI, pins', σ', H', cls, d, rfl, J', nb, up, sky, na, os, ag, b, hb1, hyes, hno⟩ := xx
    have J : Inv X pins σ' H' sI := J'.ofTry ok
    have skyE : Sky B (X.env :: X.outer) a (Zc cls d) X.env.locals s'.heap := hs ▸ sky
    show wpAny (model X.prog X.w) X.A (noteFrame (.ref a) X.env) _ _ _
    refine Sky.land Zc.steady hfr hf skyE fun h3 fl3 up3 => ?_
    have J3 : Inv X pins σ' H' { s' with heap := h3 } := J.landed nb fl3.1 (up.trans up3) os ag
    obtain ⟨oe3, vs3, he3, hz3, hd3⟩ := fl3.there
    have nfr : a ∉ frs (X.env :: X.outer) := fun hm => by
      obtain ⟨_, o', e', hnf⟩ := fl3.2.2.1.mem hm
      rw [he3] at e'; cases e'
      exact hnf _ hd3
    have ba : B.get? a = none := fl3.2.1
    have nL : a ≠ X.env.locals := fun z => nfr (List.mem_filterMap.mpr ⟨X.env, List.mem_cons_self, by rw [hf, z]⟩)
    have nI : sI.heap.get? a = none := by
      cases q : sI.heap.get? a with
      | none => rfl
      | some o =>
        have := nb a o q (hs ▸ nfr)
        rw [ba] at this; cases this
    have n0 : X.s_0.heap.get? a = none := by
      cases q : X.s_0.heap.get? a with
      | none => rfl
      | some o =>
        obtain ⟨o', z⟩ := J.base.there a o q (by rw [hex]; exact fun z => nomatch z)
        rw [nI] at z; cases z
    have np' : ∀ p ∈ X.pn ++ pins, p.1 ≠ a := fun p hp z => by
      have := (J.pin p hp).1
      rw [z, nI] at this; cases this
    have nF : a ∉ X.fs := fun hm => by
      obtain ⟨e, he, q⟩ := List.mem_filterMap.mp hm
      exact nfr (List.mem_filterMap.mpr ⟨e, List.mem_cons_of_mem _ he, q⟩)
    have S3 := J3.suite he3 hd3 na nL nF
    refine wpAny_handleBy_cons (codeAny_handlers_test ?_) (by intro q; cases q)
    have LT : PySem.W.Looks (model X.prog X.w) h3 (typeOf (.ref a)) cls := fun A Q E s k q => wpAny_typeOf_ref (k _ _ he3) (hz3.1.symm ▸ q)
    have LM := PySem.W.exm_one (M := model X.prog X.w) (J3.kIn) LT hb1
    have test : ∀ {Q : Value → Shared → Prop} {E : Value → Shared → Prop}, Q c { s' with heap := h3 } → wpAny (model X.prog X.w) (X.A.mark (some (.ref a))) (eval (.Name x np) X.env) Q E { s' with heap := h3 } := by
      intro Q E q
      obtain ⟨hg, hdbg, hm | ⟨hm, hv, hnn⟩⟩ := hc
      · refine ld_glob (X := X.suite a ((a, oe3) :: (X.pn ++ pins))) S3 hg hm q hdbg
      · refine ld_blt (X := X.suite a ((a, oe3) :: (X.pn ++ pins))) S3 hg hm hv q hnn hdbg
    refine test (LM.here ?_)
    cases b with
    | true =>
      refine codeAny_handlers_suite_as ?_
      refine HandSPX.lands_againZ fl3 fun h4 fl4 up4 => ?_
      have J4 : Inv X pins σ' H' { s' with heap := h4 } := J.landed nb fl4.1 ((up.trans up3).trans up4) os ag
      obtain ⟨oe4, vs4, he4, hz4, hd4⟩ := fl4.there
      have T4 := inSuite (a := a) (trackX J4 he4 hz4 hd4 na nL n0 np')
      refine store_ok (X := X.suite a (X.pn ++ pins)) (v := .ref a) T4 hN hi hloc rfl (fun s5 S5 => ?_) (.inr hln)
      refine wpAny_mono ((hsu a (X.pn ++ pins)).run [] s5 _ _ _ S5 (hyes rfl a na)) (fun f s6 hsp => ?_) (fun _ _ z => False.elim z)
      have end_ : ∀ {σ6 : L2.St} {H6 : Hp} {Q : Shared → Prop}, Inv (X.suite a (X.pn ++ pins)) [] σ6 H6 s6 → (∀ s7, Inv X pins (σ6.set i none) H6 s7 → Q s7) →
          wpAny (model X.prog X.w) X.A (do bindName X.env n .none; unbindBehindTheSuite X.env n pos') (fun _ s7 => Q s7) X.xe s6 := fun {σ6 H6 Q} S6 hq => gone_ok (outSuite S6 ok) hN hi hln hq
      cases f with
      | next =>
        obtain ⟨τ, H6, S6, q6⟩ := hsp
        exact end_ S6 fun s7 J7 => ⟨_, _, J7, q6⟩
      | brk =>
        obtain ⟨τ, H6, S6, q6⟩ := hsp
        exact end_ S6 fun s7 J7 => ⟨_, _, J7, q6⟩
      | cont =>
        obtain ⟨τ, H6, S6, q6⟩ := hsp
        exact end_ S6 fun s7 J7 => ⟨_, _, J7, q6⟩
      | ret u =>
        obtain ⟨w6, τ, H6, S6, r6, q6⟩ := hsp
        exact end_ S6 fun s7 J7 => ⟨_, _, _, J7, r6, q6⟩
    | false =>
      show wpAny _ X.A (handleBy (.ref a) X.env []) _ _ _
      refine wpAny_handleBy_nil ?_
      obtain ⟨k1, k2, k3, oe, vs, T, oT, tz, he, hz, hd, h1, hr⟩ := id fl3
      unfold PySem.passOn
      refine wpAny_bind (wpAny_field he hd h1 ?_)
      rw [if_neg (show ¬ ((Value.ref T == Value.none) = true) by simp)]
      have fin : wpAny (model X.prog X.w) X.A (setFlight (.ref a) X.env.frame) (fun _ s4 => wpAny (model X.prog X.w) X.A (throw (.ref a) : Sem Flow) (SP X pins D) X.xe s4) X.xe { s' with heap := h3 } := by
        rw [hf]
        refine HandSPX.setFlight_upZ fl3 fun h4 hh4 up4 => wpAny_throw (tk _ _ ?_)
        refine ⟨a, B, sI, pins, σ', H', cls, d, rfl, J, nb, (up.trans up3).trans up4, .inr (.inr (hs ▸ hh4)), na, os, ag, hno rfl⟩
      first
        | exact wpAny_bind (wpAny_pure (wpAny_bind fin))
        | exact wpAny_bind fin
  · cases f with
    | next =>
      obtain ⟨τ, H6, J6, q⟩ := hsp
      exact wpAny_execs_nil ⟨τ, H6, J6.ofTry ok, q⟩
    | brk =>
      obtain ⟨τ, H6, J6, q⟩ := hsp
      exact ⟨τ, H6, J6.ofTry ok, q⟩
    | cont =>
      obtain ⟨τ, H6, J6, q⟩ := hsp
      exact ⟨τ, H6, J6.ofTry ok, q⟩
    | ret u =>
      obtain ⟨w, τ, H6, J6, r, q⟩ := hsp
      exact ⟨w, τ, H6, J6.ofTry ok, r, q⟩
end
/-! ### calls in a try's body: what is wished of exceptions hangs on the slots -/
section
variable {X : Cx} {CX : CXT} {k : Nat} {f C : Addr} {fd : FuncData} {ps : List Str} {sp : Sp} {E : L2.St → XK} {x m : Str} {p pos apos : Pos} {e o : Expr} {es : List Expr} {ta : TE} {t : TA}
def tMakeS (C : Addr) (sp : Sp) (dvs : List V) (E : L2.St → XK) (t : TA) : TE := fun σ H Q => tMake C sp dvs (E σ) t σ H Q
theorem run_makeS {dvs : List V} {ds : List Value} {pins : List (Addr × Obj)} {σ : L2.St} {H : Hp} {s : Shared} {Q : VK} {us : List Value} {vs : List V} (M : Mk X.K C f) (F : FnOk X.prog X.w X.K X.mg X.base CX k f fd ps sp) (hr : Room (k + 1) X.A) (hb : Binds X.K fd ps ds) (hd : Vals dvs ds)
    (hx : PassesAt CX X σ (E σ)) (I : Inv X pins σ H s) (r : Vals vs us)
    (h : ∀ x dx, H x = none → H dx = none → dx ≠ x → sp (.ref x :: (vs ++ dvs)) (upd (upd H dx (.own x)) x (.ins C dx [])) (fun v H2 => v = .non ∧ Q (.ref x) H2) (E σ)) :
    wpAny (model X.prog X.w) X.A (call (.ref C) us) (EP X pins σ Q) X.xe s := by
  have hq := h (s.heap.objs.size + 1) s.heap.objs.size (I.hok.fresh (Nat.le_succ _)) (I.hok.fresh (Nat.le_refl _)) (Nat.ne_of_lt (Nat.lt_succ_self _))
  have J := Inv.made (C := C) I
  have rr : Vals (V.ref (s.heap.objs.size + 1) :: (vs ++ dvs)) (Value.ref (s.heap.objs.size + 1) :: (us ++ ds)) := .cons rfl (r.append hd)
  have hl : (Value.ref (s.heap.objs.size + 1) :: us ++ ds).length = ps.length := ((F.len _ _ _ _ hq).symm.trans rr.length).symm
  refine wpAny_call (make_map (f := f) I.kIn M.makes M.init (beq_iff_eq.mp M.fn) (codeAny_mono (F.run _ X.stack _ _ ⟨Value.ref (s.heap.objs.size + 1) :: us, []⟩ (Value.ref (s.heap.objs.size + 1) :: (us ++ ds)) _ _ (E σ) (hr.make C us [])
    (J.env0.make C us []) (hb _ (Value.ref (s.heap.objs.size + 1) :: us) J.kIn hl) rr hq) fun r s' hq' => ?_))
  cases r with
  | error e => exact hx pins _ _ e s' J hq'
  | ok fl =>
    cases fl with
    | ret u =>
      obtain ⟨v, H', J3, rv, ev, q3⟩ := J.after hq'
      cases ev
      exact ⟨rv, ⟨V.ref (s.heap.objs.size + 1), H', J3, rfl, q3⟩⟩
    | next => exact False.elim hq'
    | brk => exact False.elim hq'
    | cont => exact False.elim hq'
theorem pe_makeS {dvs : List V} {ds : List Value} (M : Mk X.K C f) (F : FnOk X.prog X.w X.K X.mg X.base CX k f fd ps sp) (hr : Room (k + 1) X.A) (hg : Gl X x) (hm : X.mg x = some (.ref C)) (hb : Binds X.K fd ps ds) (hd : Vals dvs ds) (hx : ∀ σ, PassesAt CX X σ (E σ))
    (ha : PA X (e :: es) t) (hdb : (x == ("__debug__" : Str)) = false := by decide) (he : starEach (e :: es) X.env = (false, eval e X.env) :: starEach es X.env := by rfl) (hpl : (backTo pos (starEach es X.env)).any (·.1) = false := by rfl) :
    PE X (.Call (.Name x p) (e :: es) [] pos) (tMakeS C sp dvs E t) := by
  refine ⟨fun pins s σ H Q I h => ?_⟩
  refine wpAny_Call_Name_kw (ld_glob I hg hm ?_ hdb)
  refine PySem.W.callWith_K (h₀ := X.base) I.ok.mod.kin M.kp (thn (ha.run pos pins s σ H _ I h) fun us s1 ⟨vs, H1, I1, r, q⟩ => ⟨I1.kIn, ?_⟩) he hpl
  exact run_makeS (E := E) M F hr hb hd (hx σ) I1 r q
end
/-! ### isinstance of a caught exception, its fields -/
end Dl
namespace PySem.W
open PySem PySem.Spec PySem.Calls PyProof.Rows
section
variable {prog : Program} {w : World} {A : Around} {E : Value → Shared → Prop} {s : Shared} {K : Frag} {x D : Addr} {ox : Obj} {od : Option Obj}
theorem dl_findObj {C : Addr} {name : Str} {a g : Value} (hc : (clsIn K C).isSome = true) (ha : findIn K (.ref C) name = some (some a)) (hg : specialIn K a "__get__" = some (some g)) (ht : takesIn K a = some true) : findObj K C od name = some (.bind g a) := by
  obtain ⟨cd, hc⟩ := Option.isSome_iff_exists.mp hc
  unfold findObj
  rw [hc, Option.bind_some, ha, Option.bind_some]
  simp [hg, ht]
theorem dl_classE {Q : Option Value → Shared → Prop} (C : L2.ExcC K D) (X : K.In s.heap) (I : InstAt s.heap x ox D od) (h : Q (some (.ref D)) { s with toks := s.toks + 1 }) : wpAny (model prog w) A (getAttr? (.ref x) "__class__") Q E s := by
  have hf : findObj K D od "__class__" = some (.bind (.builtin "getset_descriptor.__get__") (.builtin "object.__class__")) := dl_findObj (by obtain ⟨cd, hc, _⟩ := any_some C.hd; rw [hc]; rfl) C.ha C.hn C.ht
  obtain ⟨hp, g, d, t, os⟩ := s
  have Ty := I.type (M := model prog w)
  have Lg := looks_findIn (M := model prog w) X C.hg
  have Lk := looks_findIn (M := model prog w) X C.hk
  have Lf := looks_find (M := model prog w) X I hf
  have sub : Looks (model prog w) hp (isInstance (.ref x) (.type "BaseException")) true := Ty.andThen (looks_subIn X C.hs)
  have n0 : (false && onTheHeap (Value.builtin "BaseException.__getattribute__")) = false := rfl
  have n2 : (Value.builtin "BaseException.__getattribute__" == Value.builtin "object.__getattribute__") = false := by decide +kernel
  have n1 : (onTheHeap (Value.ref D) && Value.builtin "BaseException.__getattribute__" == Value.builtin "object.__getattribute__") = false := by rw [n2]; rfl
  unfold getAttr? getAttrBy? getAttrBy
  refine wpAny_bind (wpAny_mkText (wpAny_bind (wpAny_attempt (wpAny_holding (wpAny_bind (Ty.at (wpAny_bind (Lg.at ?_))))))))
  show wpAny _ _ (if (onTheHeap (Value.ref D) && Value.builtin "BaseException.__getattribute__" == Value.builtin "object.__getattribute__") = true then _ else _) _ _ _
  rw [n1, if_neg Bool.false_ne_true]
  unfold getAttrByItsOwn hookBefore
  refine wpAny_bind ?_
  rw [if_pos (show onTheHeap (Value.ref D) = true by rfl)]
  refine Lk.at ?_
  refine wpAny_bind (wpAny_attempt (wpAny_holding ?_))
  unfold callGetattribute
  rw [n0, if_neg Bool.false_ne_true]
  unfold boundAndCalled
  rw [PySem.F.excAttr_ValueError.ga.bind (.ref x)]
  refine wpAny_bind (wpAny_pure ?_)
  show wpAny _ _ (call (.builtin "BaseException.__getattribute__") [.ref x, .str "__class__" t]) _ _ _
  refine wpAny_call (codeAny_call_builtin PySem.F.excAttr_ValueError.ga.plain PySem.F.entry_bexc_ga ?_)
  refine @check_slot (model prog w) _ _ ⟨hp, g, d, t + 1, os⟩ "BaseException.__getattribute__" "BaseException" "__getattribute__" (.ref x) [.str "__class__" t] [] _ (by decide +kernel) (by decide +kernel) sub (PySem.F.args_bexc_ga _ _) ?_
  unfold Builtin.«object.__getattribute__»
  refine wpAny_bind (wpAny_of_eq (a := ((Value.ref x : Value), [Value.str "__class__" t])) (by first | (simp only [slotArgs]; rfl) | rfl) ?_)
  refine wpAny_bind (wpAny_pure (wpAny_bind (Ty.at (wpAny_bind (Lf.at ?_)))))
  show wpAny _ _ (holding [Value.builtin "object.__class__"] (call (.builtin "getset_descriptor.__get__") [.builtin "object.__class__", .ref x, .ref D]) >>= ret) _ _ _
  refine wpAny_bind (wpAny_holding (wpAny_call (class_get (s := ⟨hp, g, d, t + 1, os⟩) (ox := ox) (od := od) X I C.hm ?_)))
  refine wpAny_pure ?_
  show wpAny _ _ (handedOut (.ref D)) _ _ _
  rw [handedOut_of (v := .ref D) (by rfl)]
  first
    | exact wpAny_pure h
    | exact wpAny_pure (wpAny_pure h)
    | exact wpAny_pure (wpAny_bind (wpAny_pure (wpAny_pure h)))
theorem dl_kitx (C : L2.ExcC K D) : KitX K (.ref x) (.ref D) (fun h => ∃ od, InstAt h x ox D od) where
  ty := fun _ _ _ ⟨_, I⟩ => I.type
  it := fun _ _ X _ => by
    obtain ⟨cdD, hcD, _⟩ := any_some C.hd
    unfold clsIn at hcD
    split at hcD
    · rename_i c' d' cd' sl' ho
      intro A' Q' E' s' k q
      unfold isType loadHead
      refine wpAny_bind (wpAny_loadPart (k _ _ (X _ _ ho)) (wpAny_pure q))
    · cases hcD
  ne := fun h tp dd its n sl X htp => by
    obtain ⟨cdD, hcD, _⟩ := any_some C.hd
    refine Bool.eq_false_iff.mpr fun q => ?_
    have e := Value.ref.inj (beq_iff_eq.mp q)
    cases e
    unfold clsIn at hcD
    split at hcD
    · rename_i c' d' cd' sl' ho
      have z := (X _ _ ho).symm.trans htp
      cases z
    · cases hcD
  ca := fun X ⟨_, I⟩ k => dl_classE C X I k
end
end PySem.W
namespace Dl
open PySem PySem.Spec PyProof.Rows L2
/-- isinstance(e, c), e a caught exception -/
def rIsX (K : PySem.W.Frag) : List V → Hp → VK → Prop := fun xs H Q => ∃ (a C : Addr) (d : Option Addr) (fs : List (Str × V)) (c : V) (cv : Value) (b : Bool), xs = [.ref a, c] ∧ H a = some (ExV (.ref C) d a) ∧ ExD H d fs ∧ ExcC K C ∧ (∀ u, RelV c u → u = cv) ∧ PySem.W.kitOne K (.ref C) cv = some b ∧ Q (.bl b) H
theorem exInst {X : Cx} {pins : List (Addr × Obj)} {σ : L2.St} {H : Hp} {s : Shared} {a C : Addr} {d : Option Addr} {fs : List (Str × V)} (I : Inv X pins σ H s) (ha : H a = some (ExV (.ref C) d a)) (hd : ExD H d fs) : ∃ oe od, PySem.W.InstAt s.heap a oe C od ∧ (∀ dx, d = some dx → ∃ mA o, s.heap.Ns1 dx mA ∧ (∀ f, RelO (fs.lookup f) (mA f)) ∧ od = some o ∧ ∀ n, PySem.W.lookIn n o = some (mA n)) := by
  obtain ⟨⟨oe, vs, hg, hz, hf⟩, _, _⟩ := I.hok a _ ha
  rcases hd with ⟨rfl, rfl⟩ | ⟨dx, rfl, hx⟩
  · refine ⟨oe, none, ⟨hg, hz.1, by unfold PySem.W.notCls; rw [hf] <;> rfl, by rw [hz.2]; trivial⟩, fun dx e => by cases e⟩
  · have ho : ObjOk X.prog X.w H s.heap dx (.xd fs) := I.hok dx _ hx
    obtain ⟨mA, hns, hr⟩ := ho
    obtain ⟨od, ho, hl⟩ := lookIn_ns hns
    refine ⟨oe, some od, ⟨hg, hz.1, by unfold PySem.W.notCls; rw [hf] <;> rfl, by rw [hz.2]; exact ho⟩, fun dx' e => ?_⟩
    cases e
    exact ⟨mA, od, hns, hr, rfl, hl⟩
theorem call_isX {X : Cx} : CallR X (.builtin "isinstance") (rIsX X.K) := by
  intro pins s σ H xs us Q I r h
  obtain ⟨a, C, d, fs, c, cv, b, rfl, ha, hd, hC, hcv, e, q⟩ := h
  cases r with
  | cons rx rr =>
    cases rr with
    | cons rt rr =>
      cases rr
      cases rx
      cases hcv _ rt
      obtain ⟨oe, od, J, _⟩ := exInst I ha hd
      exact PySem.W.kia_one (PySem.W.dl_kitx (ox := oe) hC) I.kIn ⟨od, J⟩ e (fun z => nomatch z) fun tk => ⟨.bl b, H, I.kept (t' := tk) fun _ _ z => z, rfl, q⟩
/-- e.n, e a caught exception -/
def tXfK (K : PySem.W.Frag) (n : Str) (te : TE) : TE := fun σ H Q => te σ H fun x H1 => ∃ (a C dx : Addr) (fs : List (Str × V)) (v : V), x = .ref a ∧ H1 a = some (ExV (.ref C) (some dx) a) ∧ H1 dx = some (.xd fs) ∧ XfC K C ∧ PySem.W.findIn K (.ref C) n = some none ∧ fs.lookup n = some v ∧ Q v H1
end Dl
set_option Elab.async false
set_option linter.all false
set_option maxRecDepth 100000
set_option maxHeartbeats 2000000
/-! exceptions over data: raised with fields, caught, looked at -/
namespace Dl
open PySem PySem.Spec PyProof.Rows L2
/-! ### raise C(e, ..), C's own __init__ -/
/-! ### try -/
abbrev PWT := Addr → List (Str × D) → En → Mu → Prop
/-- what a try's body may let out: class, fields, slots, things -/
def WAg (K : PySem.W.Frag) (B : Bs) (PW : PWT) (W : WX) : Prop := ∀ C fs dd σ ρ μ G H al, B.le G H al → RpS K G al σ ρ → As K G H al μ → XRep K G al dd fs → PW C fs ρ μ → W (.ref C) dd σ H
def endsD (i : Nat) (P : DEnds) : DEnds := { nx := fun ρ μ => P.nx (ρ.set i none) μ, rt := P.rt, bk := fun ρ μ => P.bk (ρ.set i none) μ, ct := fun ρ μ => P.ct (ρ.set i none) μ }
section
variable {K : PySem.W.Frag} {B : Bs} {ρ : En} {μ : Mu} {te ta : TE} {ts : TA} {P : D → Mu → Prop} {PW : PWT} {W : WX} {C : CT} {dvs : List V} {dds : List D}
theorem ds_try {c : Value} {i : Nat} {tb : WX → TS} {su : TS} {Wout : WX} {P : DEnds} (hb : ∀ B', (∀ G H al, Bs.le B' G H al → B.le G H al) → ∀ W, WAg K B' (fun C fs ρ1 μ1 => PySem.W.exmOne K (.ref C) c = some true ∧ DS K B' su (ρ1.set i (some (.exc C fs))) μ1 (endsD i P)) W → DS K B' (tb W) ρ μ P) : DS K B (tTry K c i tb su Wout) ρ μ P := fun σ G H al hB hσ hA De hD => by
  refine hb ⟨G, H, al⟩ (fun _ _ _ n => hB.trans n) _ ?_ σ G H al .refl hσ hA De hD
  intro C fs dd σ1 ρ1 μ1 G1 H1 al1 n1 hσ1 A1 xr ⟨eb, y⟩
  refine ⟨true, eb, fun _ a na => ?_, fun z => by cases z⟩
  obtain ⟨A2, n2⟩ := A1.frz (o := ExV (.ref C) dd a) na
  have nn : Nx G H al _ _ al1 := n1.trans n2
  have rx : Rp K (upd G1 a (ExV (.ref C) dd a)) al1 (.ref a) (.exc C fs) := by
    rcases xr with ⟨rfl, rfl⟩ | ⟨d, vs, rfl, hd, rf⟩
    · exact .exc upd_same (.inl ⟨rfl, rfl⟩) .nil
    · exact .exc upd_same (.inr ⟨d, rfl, n2.g _ _ hd⟩) (rf.nx n2)
  refine y (σ1.set i (some (.ref a))) _ _ al1 nn ((hσ1.nx n2).set i rx) A2 (endsX i De) ?_
  have hD2 := hD.nx' nn
  exact ⟨fun σ' ρ' μ' G' H' al' n hσ A p => hD2.nx _ _ μ' G' H' al' n (hσ.forget i none) A p, hD2.rt, fun σ' ρ' μ' G' H' al' n hσ A p => hD2.bk _ _ μ' G' H' al' n (hσ.forget i none) A p, fun σ' ρ' μ' G' H' al' n hσ A p => hD2.ct _ _ μ' G' H' al' n (hσ.forget i none) A p⟩
theorem wag_x {G1 H1 G H : Hp} {al1 al : List Addr} {σ : L2.St} (hW : WAg K B PW W) (hB : B.le G H al) (hσ : RpS K G al σ ρ) (n1 : Nx G H al G1 H1 al1) : XAg K ⟨G1, H1, al1⟩ (fun C fs μ2 => PW C fs ρ μ2) (WE W σ) := fun C fs dd μ' G' H' al' n' A xr p => hW C fs dd σ ρ μ' G' H' al' ((hB.trans n1).trans n') ((hσ.nx n1).nx n') A xr p
theorem de_makeS {Cc : Addr} (hW : WAg K B PW W) (hd : ∀ G al, Rps K G al dvs dds) (h : DA K B ts ρ μ fun ds μ1 => C (.own μ1.length :: (ds ++ dds)) (μ1 ++ [.ins Cc []]) (fun d μ2 => d = .non ∧ ∃ gs, μ2 = μ1 ++ [.ins Cc gs] ∧ clF gs μ1.length = true ∧ P (.obj Cc gs) μ1) (RetX μ1.length fun Cx fs μ2 => PW Cx fs ρ μ2)) : DE K B (tMakeS Cc (spD K C) dvs (WE W) ts) ρ μ P := fun σ G H al hB hσ hA Q hQ =>
  de_make (B := ⟨G, H, al⟩) (PX := fun Cx fs μ2 => PW Cx fs ρ μ2) (E := WE W σ) (wag_x hW hB hσ .refl) hd (fun σ' G' H' al' hB' hσ' hA' Q' hQ' => h σ' G' H' al' (hB.trans hB') hσ' hA' Q' hQ') σ G H al .refl hσ hA Q hQ
/-! ### isinstance, fields -/
theorem rc_isX {Cc : Addr} {gs : List (Str × D)} {c : D} {cv : Value} {b : Bool} (hC : ExcC K Cc) (hc : ClD c cv) (hk : PySem.W.kitOne K (.ref Cc) cv = some b) (h : P (.bl b) μ) : RC K (rIsX K) [.exc Cc gs, c] μ P := fun G H al vs A r Q hQ => by
  obtain ⟨v, w, rfl, r1, r2⟩ := rps2 r
  cases r1 with
  | exc e hd rf =>
    refine ⟨_, Cc, _, _, w, cv, b, rfl, A.sub _ _ e, hd.mono A.sub, hC, ?_, hk, hQ.now A (.bl _) h⟩
    intro u ru
    cases hc with
    | ty n => cases r2; exact ru
    | loc C => cases r2; exact ru
theorem de_xf {n : Str} (h : DE K B te ρ μ fun x μ1 => ∃ Cc gs d, x = .exc Cc gs ∧ XfC K Cc ∧ PySem.W.findIn K (.ref Cc) n = some none ∧ gs.lookup n = some d ∧ P d μ1) : DE K B (tXfK K n te) ρ μ P := fun σ G H al hB hσ hA Q hQ =>
  h σ G H al hB hσ hA _ fun v x μ1 G1 H1 al1 n1 A1 r1 p1 => by
    obtain ⟨Cc, gs, d, rfl, hx, hn, hl, p⟩ := p1
    cases r1 with
    | exc e hd rf =>
      obtain ⟨w, lw, rw'⟩ := rf.look hl
      rcases hd with ⟨rfl, rfl⟩ | ⟨dx, rfl, hd⟩
      · cases lw
      · exact ⟨_, Cc, dx, _, w, rfl, A1.sub _ _ e, A1.sub _ _ hd, hx, hn, lw, hQ _ _ μ1 _ _ _ n1 A1 rw' p⟩
end
/-! ### what the text says of the refusals -/
/-- the refusals of the program -/
def excNames : List Str := ["BadBook", "BadCalendar", "BadFeast", "BadRow", "BadHouse", "BadNumber", "NoDay", "NoRow", "NoPiece", "TooTight", "NeverDone", "TooFar", "NoDeed", "BadText"]
def excB1 (K : PySem.W.Frag) (x : Str) : Bool := He.eqO (PySem.W.findIn K (.ref (He.ga K x)) "__getattribute__") (some (some (.builtin "BaseException.__getattribute__"))) && (He.eqO (PySem.W.findIn K (.ref (He.ga K x)) "__getattr__") (some none) &&
  (decide (PySem.W.subIn K (.ref (He.ga K x)) (.type "BaseException") = some true) && (PySem.W.hasDictIn K (He.ga K x) && (He.eqO (PySem.W.findIn K (.ref (He.ga K x)) "__class__") (some (some (.builtin "object.__class__"))) &&
  (He.eqO (PySem.W.specialIn K (.builtin "object.__class__") "__get__") (some (some (.builtin "getset_descriptor.__get__"))) && (decide (PySem.W.takesIn K (.builtin "object.__class__") = some true) && decide (PySem.W.mroIn K (He.ga K x) (.type "object") = some true)))))))
theorem excB1_ok {K : PySem.W.Frag} {x : Str} (h : excB1 K x = true) : ExcC K (He.ga K x) := by
  unfold excB1 at h
  obtain ⟨h1, h⟩ := He.ba h
  obtain ⟨h2, h⟩ := He.ba h
  obtain ⟨h3, h⟩ := He.ba h
  obtain ⟨h4, h⟩ := He.ba h
  obtain ⟨h5, h⟩ := He.ba h
  obtain ⟨h6, h⟩ := He.ba h
  obtain ⟨h7, h8⟩ := He.ba h
  exact ⟨He.eqO_ok h1, He.eqO_ok h2, of_decide_eq_true h3, h4, He.eqO_ok h5, He.eqO_ok h6, of_decide_eq_true h7, of_decide_eq_true h8⟩
/-- of each of some refusals, and of each two -/
structure KExc (K : PySem.W.Frag) (xs : List Str) : Prop where
  ec : ∀ x ∈ xs, ExcC K (He.ga K x)
  re : ∀ x ∈ xs, PySem.W.exmOne K (.ref (He.ga K x)) (.ref (He.ga K "ReadError")) = some true
  ve : ∀ x ∈ xs, PySem.W.kitOne K (.ref (He.ga K x)) (.type "ValueError") = some true
  is : ∀ x ∈ xs, ∀ y ∈ excNames, PySem.W.kitOne K (.ref (He.ga K x)) (.ref (He.ga K y)) = some (decide (x = y))
  ge : ∀ x ∈ xs, PySem.W.kitOne K (.ref (He.ga K x)) (.ref (He.ga K "ReadError")) = some true
def kexcB (xs : List Str) (K : PySem.W.Frag) : Bool := xs.all fun x => excB1 K x && (decide (PySem.W.exmOne K (.ref (He.ga K x)) (.ref (He.ga K "ReadError")) = some true) && (decide (PySem.W.kitOne K (.ref (He.ga K x)) (.type "ValueError") = some true) &&
  ((excNames.all fun y => decide (PySem.W.kitOne K (.ref (He.ga K x)) (.ref (He.ga K y)) = some (decide (x = y)))) && decide (PySem.W.kitOne K (.ref (He.ga K x)) (.ref (He.ga K "ReadError")) = some true))))
theorem kexcB_ok {xs : List Str} {K : PySem.W.Frag} (h : kexcB xs K = true) : KExc K xs := by
  unfold kexcB at h
  rw [List.all_eq_true] at h
  refine ⟨fun x hx => ?_, fun x hx => ?_, fun x hx => ?_, fun x hx y hy => ?_, fun x hx => ?_⟩
  all_goals
    obtain ⟨h1, h2⟩ := He.ba (h x hx)
    obtain ⟨h3, h4⟩ := He.ba h2
    obtain ⟨h5, h6⟩ := He.ba h4
    obtain ⟨h7, h8⟩ := He.ba h6
  · exact excB1_ok h1
  · exact of_decide_eq_true h3
  · exact of_decide_eq_true h5
  · exact of_decide_eq_true (List.all_eq_true.mp h7 y hy)
  · exact of_decide_eq_true h8
/-- fields of a refusal -/
structure KXf (K : PySem.W.Frag) (x : Str) (fs : List Str) : Prop where
  xf : XfC K (He.ga K x)
  no : ∀ f ∈ fs, PySem.W.findIn K (.ref (He.ga K x)) f = some none
  ox : OexC K (He.ga K x)
end Dl
set_option Elab.async false
set_option linter.all false
set_option maxRecDepth 100000
/-! small rules: exceptions and None, == of texts -/
namespace Dl
open PySem L2 PyProof.Rows
section
variable {K : PySem.W.Frag} {B : Bs} {ρ : En} {μ : Mu} {te : TE} {P : D → Mu → Prop}
theorem np_exc {Q : Bool → Prop} {C : Addr} {gs : List (Str × D)} (h : Q false) : IsNP (.exc C gs) Q := np_f (by simp) h
theorem ro_eqS {i j : Str} (h1 : PyData.strOk i = true) (h2 : PyData.strOk j = true) (h : P (.bl (decide (i = j))) μ) : RO K (rEqD K) (.str i) (.str j) μ P := ro_eqD (n := 0) (m := 0) (.id _) (.id _) h1 h2 (by rw [eqvD_str]; exact h)
theorem ro_neS {i j : Str} (h1 : PyData.strOk i = true) (h2 : PyData.strOk j = true) (h : P (.bl (!decide (i = j))) μ) : RO K (rNeD K) (.str i) (.str j) μ P := ro_neD (n := 0) (m := 0) (.id _) (.id _) h1 h2 (by rw [eqvD_str]; exact h)
theorem ro_eqSS {i : Str} (h1 : PyData.strOk i = true) (h : P (.bl true) μ) : RO K (rEqD K) (.str i) (.str i) μ P := ro_eqS h1 h1 (by simpa using h)
theorem ro_neSS {i : Str} (h1 : PyData.strOk i = true) (h : P (.bl false) μ) : RO K (rNeD K) (.str i) (.str i) μ P := ro_neS h1 h1 (by simpa using h)
theorem ro_eqSd {i j : Str} (h1 : PyData.strOk i = true) (h2 : PyData.strOk j = true) (hn : i ≠ j) (h : P (.bl false) μ) : RO K (rEqD K) (.str i) (.str j) μ P := ro_eqS h1 h2 (by simpa [hn] using h)
theorem ro_neSd {i j : Str} (h1 : PyData.strOk i = true) (h2 : PyData.strOk j = true) (hn : i ≠ j) (h : P (.bl true) μ) : RO K (rNeD K) (.str i) (.str j) μ P := ro_neS h1 h2 (by simpa [hn] using h)
/-- fields of a caught exception -/
def XfP (K : PySem.W.Frag) (n : Str) (x : D) (Q : D → Prop) : Prop := ∃ Cc gs d, x = .exc Cc gs ∧ XfC K Cc ∧ PySem.W.findIn K (.ref Cc) n = some none ∧ gs.lookup n = some d ∧ Q d
theorem de_xfZ {n : Str} (h : DE K B te ρ μ fun x μ1 => XfP K n x fun d => P d μ1) : DE K B (tXfK K n te) ρ μ P := de_xf h
theorem xf_i {n x : Str} {fs : List Str} {gs : List (Str × D)} {d : D} {Q : D → Prop} (k : KXf K x fs) (hn : n ∈ fs) (hl : gs.lookup n = some d) (h : Q d) : XfP K n (.exc (He.ga K x) gs) Q := ⟨_, _, _, rfl, k.xf, k.no _ hn, hl, h⟩
end
end Dl
set_option Elab.async false
set_option linter.all false
set_option maxRecDepth 100000
/-! range downwards -/
set_option Elab.async false
set_option linter.all false
set_option maxRecDepth 100000
/-! tuple(x), a number in a tuple, list(dict) -/
namespace Dl
open PySem L2 PyProof.Rows
section
variable {K : PySem.W.Frag} {B : Bs} {ρ : En} {μ : Mu} {te : TE} {P : D → Mu → Prop}
theorem de_tupOf (h : DE K B te ρ μ fun x μ1 => ∃ ds, Ls μ1 x ds ∧ P (.tup ds) μ1) : DE K B (tThen te (kTup K)) ρ μ P := fun σ G H al hB hσ hA Q hQ =>
  h σ G H al hB hσ hA _ fun v d μ1 G1 H1 al1 n1 A1 r1 p1 => by
    obtain ⟨ds, hl, p⟩ := p1
    obtain ⟨a, ws, rfl, s, rs⟩ := hl.get A1 r1
    refine .inl ⟨a, ws, rfl, s, fun q hq => ?_⟩
    obtain ⟨A2, n2⟩ := A1.frz (o := .tup ws) hq
    exact hQ _ _ μ1 _ _ al1 (n1.trans n2) A2 (.tup upd_same (rs.nx n2)) p
end
end Dl
set_option Elab.async false
set_option linter.all false
set_option maxRecDepth 100000
set_option maxHeartbeats 2000000
/-! lambdas handed to a def -/
set_option Elab.async false
set_option linter.all false
set_option maxRecDepth 100000
set_option maxHeartbeats 2000000
/-! lambdas over data; the head and the end with tables -/
set_option Elab.async false
set_option linter.all false
set_option maxRecDepth 100000
/-! str(i) -/
namespace Dl
open PySem L2 PyProof.Rows
abbrev rStrI : List V → Hp → VK → Prop := fun xs H Q => ∃ i : Int, xs = [.int i] ∧ i.natAbs.log2 < 1920 ∧ Q (.str (toString i)) H
theorem rc_strI {K : PySem.W.Frag} {μ : Mu} {P : D → Mu → Prop} {i : Int} (hi : i.natAbs.log2 < 1920) (h : P (.str (toString i)) μ) : RC K rStrI [.int i] μ P := fun G H al vs A r Q hQ => by
  cases r with
  | cons r1 r2 =>
    cases r2
    cases r1
    exact ⟨i, rfl, hi, hQ.now A (.str _) h⟩
end Dl
set_option Elab.async false
set_option linter.all false
set_option maxRecDepth 100000
/-! x in l, items of any depth -/
set_option Elab.async false
set_option linter.all false
set_option maxRecDepth 100000
/-! the head's facts over a told list of objects -/
namespace Dl
open PySem L2 PyProof.Rows
def obsLG (as : List Addr) (fa : List He.Fa) (fn : List He.DefD) (ex : List (PySem.W.Frag → Bool)) (g : Addr → Option Obj) : AlX := (He.obsD fa fn (He.frG g as), exAll ex (He.frG g as))
def hookL (as : List Addr) (fa : List He.Fa) (fn : List He.DefD) (ex : List (PySem.W.Frag → Bool)) : PySem.W.Hook where
  α := AlX
  obs := fun s => obsLG as fa fn ex s.heap.get?
  val := fun _ => (He.valD fn, true)
  says := fun _ h => ∃ K : PySem.W.Frag, K.In h ∧ He.SaysD fa fn K ∧ exAll ex K = true
  of := fun _ _ e => ⟨_, He.frG_in, congrArg Prod.fst e, congrArg Prod.snd e⟩
  keeps := fun _ _ _ ⟨K, hK, c⟩ k => ⟨K, PySem.W.Frag.In.keeps hK k, c⟩
theorem obsLG_eq {as : List Addr} {fa : List He.Fa} {fn : List He.DefD} {ex : List (PySem.W.Frag → Bool)} {g : Addr → Option Obj} {s : Shared} (h : ∀ a, g a = s.heap.get? a) : obsLG as fa fn ex g = (hookL as fa fn ex).obs s := by
  have e : g = s.heap.get? := funext h
  rw [e] <;> rfl
/-! with tables -/
/-! ### the run, looked at thrice -/
/-! ### a slice as a target; room -/
end Dl
set_option Elab.async false
set_option linter.all false
set_option maxRecDepth 100000
/-! a dict that is walked stands locked for that time -/
namespace Dl
open PySem L2
/-- G2 is G1 but for locks of dicts -/
def Lk (G G' : Hp) : Prop := ∀ b o, G b = some o → G' b = some o ∨ ((∃ kvs, o = .dK kvs ∨ ∃ o', o = .frz o' (.dK kvs)) ∧ ∀ kvs, Rd G b (.dK kvs) → Rd G' b (.dK kvs))
section
variable {K : PySem.W.Frag} {G G' : Hp} {al al' : List Addr}
theorem Lk.plain (s : Lk G G') {b : Addr} {o : HO} (h : G b = some o) (n1 : ∀ kvs, o ≠ .dK kvs) (n2 : ∀ o' kvs, o ≠ .frz o' (.dK kvs)) : G' b = some o := by
  rcases s b o h with z | ⟨⟨kvs, z | ⟨o', z⟩⟩, _⟩
  · exact z
  · exact absurd z (n1 kvs)
  · exact absurd z (n2 o' kvs)
end
section
variable {K : PySem.W.Frag} {B : Bs} {ρ : En} {μ : Mu} {td te : TE} {gs : List (Key × D)}
/-- d != {} -/
def rNeD0 : R2 := fun x y H Q => ∃ a b ks, x = .ref a ∧ y = .ref b ∧ Rd H a (.dK ks) ∧ Rd H b (.dK []) ∧ Q (.bl (!ks.isEmpty)) H
theorem op_neD0 {X : Cx} (hu : X.A.units < cLine) : OpR X (compareOp .NotEq) rNeD0 := by
  intro pins s σ H x y v u Q I rx ry h
  obtain ⟨a, b, ks, rfl, rfl, ea, eb, q⟩ := h
  obtain rfl : v = Value.ref a := rx
  obtain rfl : u = Value.ref b := ry
  obtain ⟨_, ya, va, ra, da⟩ := dk_rd I.hok ea
  obtain ⟨_, yb, vb, rb, db⟩ := dk_rd I.hok eb
  have hb : vb = [] := by
    have := rb.length
    exact List.eq_nil_of_length_eq_zero (by rw [← this]; rfl)
  subst hb
  cases ks with
  | nil =>
    have ha : va = [] := by
      have := ra.length
      exact List.eq_nil_of_length_eq_zero (by rw [← this]; rfl)
    subst ha
    exact PySem.W.keq_ne (knd := mixKind X.prog X.w) (r := true) ya yb da db hu (fun _ => .nil) (fin_bl I q (by simp))
  | cons k ks =>
    have hl : va.length = ks.length + 1 := by rw [← ra.length]; rfl
    exact PySem.W.keq_ne (knd := mixKind X.prog X.w) (r := true) ya yb da db hu (fun e => by simp [hl] at e) (fin_bl I q (by simp [hl]))
theorem ro_neD0 {P : D → Mu → Prop} (h : P (.bl (!gs.isEmpty)) μ) : RO K rNeD0 (.dct gs) (.dct []) μ P := fun G H al v w A r1 r2 Q hQ => by
  cases r1 with
  | dct ga ra =>
    cases r2 with
    | dct gb rb =>
      cases rb
      refine ⟨_, _, _, rfl, rfl, rd_mono A.sub ga, rd_mono A.sub gb, hQ.now A (.bl _) ?_⟩
      cases ra <;> exact h
end
end Dl
set_option Elab.async false
set_option linter.all false
set_option maxRecDepth 100000
/-! Dl37: == and != of things of own classes, any answer -/
namespace Dl
open PySem L2 PyProof.Rows
/-- a class that has no != of its own -/
structure NeO (K : PySem.W.Frag) (C : Addr) : Prop where
  ne : PySem.W.findIn K (.ref C) "__ne__" = some (some (.builtin "object.__ne__"))
  ob : PySem.W.mroIn K C (.type "object") = some true
def neB (x : Str) (K : PySem.W.Frag) : Bool := He.eqO (PySem.W.findIn K (.ref (He.ga K x)) "__ne__") (some (some (.builtin "object.__ne__"))) && decide (PySem.W.mroIn K (He.ga K x) (.type "object") = some true)
theorem neB_ok {K : PySem.W.Frag} {x : Str} (h : neB x K = true) : NeO K (He.ga K x) := by
  unfold neB at h
  obtain ⟨h1, h2⟩ := He.ba h
  exact ⟨He.eqO_ok h1, of_decide_eq_true h2⟩
/-- what == of a class asks: things of the class, numbers, lists, tuples -/
structure KEq (K : PySem.W.Frag) (x : Str) : Prop where
  ob : ObT K (He.ga K x)
  is : PySem.W.kitOne K (.ref (He.ga K x)) (.ref (He.ga K x)) = some true
  no : ∀ n ∈ (["int", "list", "tuple"] : List String), PySem.W.kitOne K (.type n) (.ref (He.ga K x)) = some false ∧ PySem.W.notFirst K (He.ga K x) (.type n) = true
def keqB (x : Str) (K : PySem.W.Frag) : Bool := obtB x K && (isB x x true K && (["int", "list", "tuple"] : List String).all fun n => decide (PySem.W.kitOne K (.type n) (.ref (He.ga K x)) = some false) && PySem.W.notFirst K (He.ga K x) (.type n))
theorem keqB_ok {K : PySem.W.Frag} {x : Str} (c : Cls K (He.ga K x)) (h : keqB x K = true) : KEq K x := by
  unfold keqB at h
  obtain ⟨h1, h2⟩ := He.ba h
  obtain ⟨h3, h4⟩ := He.ba h2
  refine ⟨obtB_ok c h1, isB_ok h3, fun n hn => ?_⟩
  have := List.all_eq_true.mp h4 n hn
  obtain ⟨a, b⟩ := He.ba this
  exact ⟨of_decide_eq_true a, b⟩
theorem KEq.nf {K : PySem.W.Frag} {x : Str} (k : KEq K x) : PySem.W.notFirst K (He.ga K x) (.ref (He.ga K x)) = true := by simp [PySem.W.notFirst]
/-- .. things of another class -/
structure KNe (K : PySem.W.Frag) (x y : Str) : Prop where
  ob : ObT K (He.ga K y)
  is : PySem.W.kitOne K (.ref (He.ga K y)) (.ref (He.ga K x)) = some false
  nf : PySem.W.notFirst K (He.ga K x) (.ref (He.ga K y)) = true
def kneB (x y : Str) (K : PySem.W.Frag) : Bool := obtB y K && (isB y x false K && PySem.W.notFirst K (He.ga K x) (.ref (He.ga K y)))
theorem kneB_ok {K : PySem.W.Frag} {x y : Str} (c : Cls K (He.ga K y)) (h : kneB x y K = true) : KNe K x y := by
  unfold kneB at h
  obtain ⟨h1, h2⟩ := He.ba h
  obtain ⟨h3, h4⟩ := He.ba h2
  exact ⟨obtB_ok c h1, isB_ok h3, h4⟩
/-- x == y by the own == of the class at C -/
def rEqO (K : PySem.W.Frag) (C : Addr) (sp : Sp) (E : XK) : R2 := fun x y H Q => ∃ a dx fs tb, x = .ref a ∧ H a = some (.ins C dx fs) ∧ TyX K H y tb ∧ PySem.W.notFirst K C tb = true ∧ sp [x, y] H (fun z H' => ∃ b, z = .bl b ∧ Q (.bl b) H') E
def rNeO (K : PySem.W.Frag) (C : Addr) (sp : Sp) (E : XK) : R2 := fun x y H Q => ∃ a dx fs tb, x = .ref a ∧ H a = some (.ins C dx fs) ∧ TyX K H y tb ∧ PySem.W.notFirst K C tb = true ∧ sp [x, y] H (fun z H' => ∃ b, z = .bl b ∧ Q (.bl (!b)) H') E
section
variable {prog : Program} {w : World} {A : Around} {E : Value → Shared → Prop} {s : Shared} {K : PySem.W.Frag} {x C L f : Addr} {h₀ : Heap} {m : Str → Option Value} {ox : Obj} {od : Option Obj} {b tb : Value}
/-- the slot of object is found and called -/
theorem bound_ne {M : Model} {args : List Value} {Q : Option Value → Shared → Prop} (X : K.In s.heap) (I : PySem.W.InstAt s.heap x ox C od) (hs : PySem.W.findIn K (.ref C) "__ne__" = some (some (.builtin "object.__ne__")))
    (h : wpAny M A (call (.builtin "object.__ne__") (.ref x :: args)) (fun v => Q (some v)) E s) : wpAny M A (callSpecialIfBound? (.ref x) "__ne__" args) Q E s := by
  simp only [callSpecialIfBound?, bindSpecialIfBound?]
  refine wpAny_holding (wpAny_bind (wpAny_bind (wpAny_bind (I.type.here ((PySem.W.looks_findIn X hs).here ?_)))))
  refine wpAny_bind (wpAny_askSetting (wpAny_ite ?_))
  simp only [F.cmp_object.ne.bind]
  have fin : wpAny M A (call (.builtin "object.__ne__") ([.ref x] ++ args) >>= fun v => pure (some v)) Q E s := wpAny_bind (wpAny_mono h (fun v s' h' => wpAny_pure h') fun _ _ h' => h')
  split
  · exact wpAny_bind (wpAny_pure (wpAny_pure (by exact fin)))
  · exact wpAny_tryCatch (wpAny_bind (wpAny_pure (wpAny_pure (by exact fin))))
theorem ne_body {Q : Fin → Shared → Prop} (hu : A.units < cLine) (X : K.In s.heap) (I : PySem.W.InstAt s.heap x ox C od) (hs : PySem.W.findIn K (.ref C) "__eq__" = some (some (.ref f))) (hf : PySem.W.isFn K (.ref f) = true)
    (h : wpAny (model prog w) A (call (.ref f) [.ref x, b]) (fun v s' => ∃ k, v = .bool k ∧ Q (.done (.ret (.bool (!k)))) s') E s) : wpAny (model prog w) A (Builtin.«object.__ne__» ⟨[.ref x, b], []⟩) Q E s := by
  unfold Builtin.«object.__ne__»
  repeat (first
    | with_reducible refine wpAny_cRoomFor hu ?_
    | (refine wpAny_bind (m := callSpecialIfBound? (.ref x) (Str.ofString "__eq__") [b])
        (PySem.W.ifBound_K X I hs hf (wpAny_mono h (fun r s' hr => by
          obtain ⟨k, rfl, hq⟩ := hr
          repeat (first | exact hq | exact wpAny_pure hq | exact wpAny_truthy_bool hq | (refine wpAny_bind (m := truthy (.bool _)) (wpAny_truthy_bool ?_)) | wp_step)) fun _ _ e => e)))
    | wp_step)
theorem cmp_ne {Q : Value → Shared → Prop} (hu : A.units < cLine) (hu1 : A.in1.units < cLine) (X : K.In s.heap) (I : PySem.W.InstAt s.heap x ox C od) (hb : PySem.W.Looks (model prog w) s.heap (typeOf b) tb) (hn : PySem.W.notFirst K C tb = true)
    (o : NeO K C) (hs : PySem.W.findIn K (.ref C) "__eq__" = some (some (.ref f))) (hf : PySem.W.isFn K (.ref f) = true)
    (h : wpAny (model prog w) A.in1 (call (.ref f) [.ref x, b]) (fun v s' => ∃ k, v = .bool k ∧ Q (.bool (!k)) s') E s) : wpAny (model prog w) A (richCompare .NotEq (.ref x) b) Q E s := by
  have one : wpAny (model prog w) A (tryCompare (.ref x) (cmpInfo .NotEq).2.1 b) (fun r s' => ∃ v, r = some v ∧ Q v s') E s := by
    unfold tryCompare
    refine wpAny_bind (bound_ne X I o.ne (wpAny_call (codeAny_call_builtin F.cmp_object.ne.plain F.cmpEntry_ne
      (PySem.W.check_slot F.cmpKind_ne F.cmpSplit_ne (I.type.andThen (PySem.W.looks_mroIn X o.ob)) (F.cmpArgs_ne _ _) (ne_body (A := A.in1) hu1 X I hs hf (wpAny_mono h (fun v s' hv => ?_) fun _ _ e => e))))))
    obtain ⟨k, rfl, hq⟩ := hv
    exact ⟨k, rfl, wpAny_pure ⟨_, rfl, hq⟩⟩
  unfold richCompare
  simp only [oneThing_ref]
  refine wpAny_holding (wpAny_bind (wpAny_cRoomFor hu ?_))
  refine wpAny_bind (I.type.here (wpAny_bind (hb.here ?_)))
  split
  · rename_i q
    have e : PySem.W.subIn K tb (.ref C) = some false := by
      rcases Bool.or_eq_true_iff.mp hn with e | e
      · rw [beq_iff_eq.mp e] at q; simp at q
      · exact beq_iff_eq.mp e
    refine wpAny_bind ((PySem.W.looks_subIn X e).here ?_)
    simp only [Bool.false_eq_true, if_false]
    refine wpAny_bind (wpAny_mono one (fun r s' z => ?_) fun _ _ e => e)
    obtain ⟨v, rfl, hq⟩ := z
    exact wpAny_pure hq
  · refine wpAny_bind (wpAny_pure ?_)
    simp only [Bool.false_eq_true, if_false]
    refine wpAny_bind (wpAny_mono one (fun r s' z => ?_) fun _ _ e => e)
    obtain ⟨v, rfl, hq⟩ := z
    exact wpAny_pure hq
end
section
variable {X : Cx} {CX : CXT} {C g : Addr} {n : Nat} {fd : FuncData} {ps : List Str} {sp : Sp} {E : XK}
theorem op_eqO (m : Meth X.K C "__eq__" g) (F : FnOk X.prog X.w X.K X.mg X.base CX n g fd ps sp) (hr : Room n X.A) (hb : Binds X.K fd ps []) (hx : Passes CX X E) : OpR X (compareOp .Eq) (rEqO X.K C sp E) := by
  intro pins s σ H x y v u Q I rx ry h
  obtain ⟨a, dx, fs, tb, rfl, ha, ty, hn, q⟩ := h
  cases (show v = Value.ref a from rx)
  obtain ⟨mA, J, _⟩ := ins_get I.hok ha
  obtain ⟨od, J, _⟩ := J.look
  obtain ⟨Pk, kit, hp, _⟩ := kit_of I ry ty
  obtain ⟨m', hF⟩ := I.fr
  show wpAny (model X.prog X.w) X.A (richCompare .Eq (.ref a) u) (EP X pins σ Q) X.xe s
  refine PySem.W.cmp_K (op := .Eq) (tb := tb) hr.units0 hF I.ok.mod.kin J (kit.ty _ _ I.kIn hp) hn m.at_ m.fn ?_
  refine wpAny_mono (run_fn (vs := [.ref a, y]) (dvs := []) F hr hb .nil hx I (.cons rfl (.cons ry .nil)) (show sp ([.ref a, y] ++ []) H _ E from q)) (fun w s' z => ?_) fun _ _ x => x
  obtain ⟨z', H', I', rz, b, rfl, qz⟩ := z
  cases (show w = Value.bool b from rz)
  exact ⟨.bl b, H', I', rfl, qz⟩
theorem op_neO (m : Meth X.K C "__eq__" g) (o : NeO X.K C) (F : FnOk X.prog X.w X.K X.mg X.base CX n g fd ps sp) (hr : Room (n + 1) X.A) (hb : Binds X.K fd ps []) (hx : Passes CX X E) : OpR X (compareOp .NotEq) (rNeO X.K C sp E) := by
  intro pins s σ H x y v u Q I rx ry h
  obtain ⟨a, dx, fs, tb, rfl, ha, ty, hn, q⟩ := h
  cases (show v = Value.ref a from rx)
  obtain ⟨mA, J, _⟩ := ins_get I.hok ha
  obtain ⟨od, J, _⟩ := J.look
  obtain ⟨Pk, kit, hp, _⟩ := kit_of I ry ty
  show wpAny (model X.prog X.w) X.A (richCompare .NotEq (.ref a) u) (EP X pins σ Q) X.xe s
  refine cmp_ne hr.units0 hr.in1.units0 I.kIn J (kit.ty _ _ I.kIn hp) hn o m.at_ m.fn ?_
  have r2 : Vals [V.ref a, y] [Value.ref a, u] := .cons rfl (.cons ry .nil)
  have hl := F.len _ _ _ _ q
  refine wpAny_call (codeAny_mono (F.run X.A.in1 X.stack s H ⟨[.ref a, u], []⟩ [.ref a, u] [.ref a, y] _ E hr.in1 I.env0.in1 (by
    have := hb s [.ref a, u] I.kIn (by simpa using hl)
    simpa using this) r2 q) fun r s' hq => ?_)
  cases r with
  | error e => exact hx pins σ H s e s' I hq
  | ok fl =>
    cases fl with
    | ret w =>
      obtain ⟨z', H', I', rz, b, rfl, qz⟩ := I.after hq
      cases (show w = Value.bool b from rz)
      exact ⟨b, rfl, .bl (!b), H', I', rfl, qz⟩
    | next => exact False.elim hq
    | brk => exact False.elim hq
    | cont => exact False.elim hq
end
section
variable {K : PySem.W.Frag} {μ : Mu} {P : D → Mu → Prop} {x y : D} {C : Addr} {gs : List (Str × D)} {tb : Value} {Ct : CT} {E : XK}
/-- a thing of the class at C -/
def InO (μ : Mu) (C : Addr) (x : D) : Prop := ∃ gs, x = .obj C gs ∨ ∃ k, x = .own k ∧ μ[k]? = some (.ins C gs)
theorem InO.get {G H : Hp} {al : List Addr} {v : V} (h : InO μ C x) (A : As K G H al μ) (r : Rp K G al v x) : ∃ a dx fs, v = .ref a ∧ H a = some (.ins C dx fs) := by
  obtain ⟨gs, rfl | ⟨k, rfl, hk⟩⟩ := h
  · cases r with
    | obj e rf => exact ⟨_, _, _, rfl, A.sub _ _ e⟩
  · obtain ⟨a, ha, ok⟩ := A.get hk
    cases r with
    | own e =>
      rw [ha] at e
      cases e
      obtain ⟨ga, dx, fs, hv, rf⟩ := ok
      exact ⟨_, _, _, rfl, hv⟩
theorem ro_eqO (hx : InO μ C x) (ht : TyDV K μ y tb) (hn : PySem.W.notFirst K C tb = true) (h : Ct [x, y] μ (fun z μ' => ∃ b, z = .bl b ∧ P (.bl b) μ') (fun _ _ _ => False)) : RO K (rEqO K C (spD K Ct) E) x y μ P := fun G H al v w A rx ry Q hQ => by
  obtain ⟨a, dx, fs, rfl, ha⟩ := hx.get A rx
  refine ⟨a, dx, fs, tb, rfl, ha, ht.tyx A ry, hn, G, al, [x, y], μ, _, _, A, .cons rx (.cons ry .nil), h, fun z d μ' G' H' al' n A' r p => ?_, XAg.none⟩
  obtain ⟨b, rfl, p⟩ := p
  cases r
  exact ⟨b, rfl, hQ _ _ μ' G' H' al' n A' (.bl b) p⟩
theorem ro_neO (hx : InO μ C x) (ht : TyDV K μ y tb) (hn : PySem.W.notFirst K C tb = true) (h : Ct [x, y] μ (fun z μ' => ∃ b, z = .bl b ∧ P (.bl (!b)) μ') (fun _ _ _ => False)) : RO K (rNeO K C (spD K Ct) E) x y μ P := fun G H al v w A rx ry Q hQ => by
  obtain ⟨a, dx, fs, rfl, ha⟩ := hx.get A rx
  refine ⟨a, dx, fs, tb, rfl, ha, ht.tyx A ry, hn, G, al, [x, y], μ, _, _, A, .cons rx (.cons ry .nil), h, fun z d μ' G' H' al' n A' r p => ?_, XAg.none⟩
  obtain ⟨b, rfl, p⟩ := p
  cases r
  exact ⟨b, rfl, hQ _ _ μ' G' H' al' n A' (.bl (!b)) p⟩
/-- two readings of an operation -/
def rOr (r r' : R2) : R2 := fun x y H Q => r x y H Q ∨ r' x y H Q
theorem op_or {X : Cx} {f : Value → Value → Sem Value} {r r' : R2} (h : OpR X f r) (h' : OpR X f r') : OpR X f (rOr r r') := by
  intro pins s σ H x y v u Q I rx ry q
  rcases q with q | q
  · exact h pins s σ H x y v u Q I rx ry q
  · exact h' pins s σ H x y v u Q I rx ry q
theorem ro_orL {r r' : R2} (h : RO K r x y μ P) : RO K (rOr r r') x y μ P := fun G H al v w A rx ry Q hQ => .inl (h G H al v w A rx ry Q hQ)
theorem ro_orR {r r' : R2} (h : RO K r' x y μ P) : RO K (rOr r r') x y μ P := fun G H al v w A rx ry Q hQ => .inr (h G H al v w A rx ry Q hQ)
end
end Dl
set_option Elab.async false
set_option linter.all false
set_option maxRecDepth 100000
/-! the top's run in pieces, the state behind each told -/
namespace Dl
open PySem PySem.W PySem.Calls PyProof.Rows HandSHeadRun
section
variable (st : SharedT → Thread → Option (SharedT × Thread)) (n0 : Nat) (ann : Option Value)
/-- so many steps, none of them the last one -/
def stepsF : Nat → SharedT → Thread → Option (SharedT × Thread)
  | 0, s, t => some (s, t)
  | m + 1, s, t => match through t with
    | true => none
    | false => match stepOk n0 ann t with
      | false => none
      | true => match st s t with
        | none => none
        | some (s2, t2) => frS s2 fun s2 => stepsF m s2 t2
/-- to the end of a piece of the text -/
def pieceF (b : Nat) : Nat → SharedT → Thread → Option (Flow × SharedT × Code × Pos)
  | 0, _, _ => none
  | m + 1, s, t => match endAt b t with
    | some f => some (f, s, t.code, t.pos)
    | none => match stepOk n0 ann t with
      | false => none
      | true => match st s t with
        | none => none
        | some (s2, t2) => frS s2 fun s2 => pieceF b m s2 t2
end
section
variable {tb : String → Option Builtin} {p : Program} {w : World} {n0 : Nat} {ann : Option Value}
theorem stepsF_ok : ∀ {m : Nat} {s s' : SharedT} {t t' : Thread}, stepsF (stepT (denote tb) p w) n0 ann m s t = some (s', t') → topGo tb p w n0 ann m s.abs t = some (s'.abs, t')
  | 0, _, _, _, _, h => by cases h; rfl
  | m + 1, s, s', t, t', h => by
    unfold stepsF at h
    unfold topGo
    cases e1 : through t with
    | true => rw [e1] at h; cases h
    | false =>
      cases e2 : stepOk n0 ann t with
      | false => rw [e1, e2] at h; cases h
      | true =>
        cases e3 : stepT (denote tb) p w s t with
        | none => rw [e1, e2, e3] at h; cases h
        | some r =>
          rw [e1, e2, e3] at h
          have h2 : (frS r.1 fun s2 => stepsF (stepT (denote tb) p w) n0 ann m s2 r.2) = some (s', t') := h
          rw [frS_eq] at h2
          have e4 := stepT_spec (s' := r.1) (t' := r.2) e3
          simp only [e4]
          exact stepsF_ok h2
theorem pieceF_ok {b : Nat} : ∀ {m : Nat} {s s' : SharedT} {t : Thread} {f : Flow} {c : Code} {q : Pos}, pieceF (stepT (denote tb) p w) n0 ann b m s t = some (f, s', c, q) → segRun tb p w n0 ann b m s.abs t = some (f, s'.abs, c, q)
  | 0, _, _, _, _, _, _, h => by cases h
  | m + 1, s, s', t, f, c, q, h => by
    unfold pieceF at h
    unfold segRun
    cases e1 : endAt b t with
    | some g => rw [e1] at h; cases h; rfl
    | none =>
      cases e2 : stepOk n0 ann t with
      | false => rw [e1, e2] at h; cases h
      | true =>
        cases e3 : stepT (denote tb) p w s t with
        | none => rw [e1, e2, e3] at h; cases h
        | some r =>
          rw [e1, e2, e3] at h
          have h2 : (frS r.1 fun s2 => pieceF (stepT (denote tb) p w) n0 ann b m s2 r.2) = some (f, s', c, q) := h
          rw [frS_eq] at h2
          have e4 := stepT_spec (s' := r.1) (t' := r.2) e3
          simp only [e4]
          exact pieceF_ok h2
end
/-- the step, by the library's twins -/
noncomputable abbrev stQ (p : Program) (w : World) : SharedT → Thread → Option (SharedT × Thread) := stepQ (denQ tabQ) p w
theorem stQ_eq (p : Program) (w : World) : stepT (denote treeTable) p w = stQ p w := by
  unfold stQ
  rw [stepQ_eq, denQ_eq, tabQ_eq]
abbrev cdOf (p : Program) (env : Env) : Code := .body (behindTheImports p) env
section
variable {p : Program} {w : World} {n0 : Nat} {ann : Option Value} {env : Env} {qp pos pos' : Pos} {S S' r : SharedT}
theorem cp_piece {a b m N : Nat} (h : pieceF (stQ p w) n0 ann 1 m S (piecesOf (((behindTheImports p).drop a).take b) env (cdOf p env) pos [topFrame qp]) = some (.next, S', cdOf p env, pos'))
    (k : topRun treeTable p w n0 ann N S'.abs (restOf ((behindTheImports p).drop (a + b)) env (cdOf p env) pos' [topFrame qp]) = some r.abs) :
    topRun treeTable p w n0 ann (m + N) S.abs (restOf ((behindTheImports p).drop a) env (cdOf p env) pos [topFrame qp]) = some r.abs := by
  rw [← stQ_eq] at h
  have z := piece_app (pieceF_ok h) (rest := (behindTheImports p).drop (a + b)) k
  rw [← List.drop_drop, List.take_append_drop] at z
  exact z
theorem cp_last {a m : Nat} (e : (behindTheImports p).drop a = []) (h : goF (stQ p w) n0 ann m S ⟨doneF .next, cdOf p env, pos, [topFrame qp]⟩ = some r) :
    topRun treeTable p w n0 ann m S.abs (restOf ((behindTheImports p).drop a) env (cdOf p env) pos [topFrame qp]) = some r.abs := by
  rw [← stQ_eq] at h
  rw [e]
  exact piece_nil (goF_ok h)
theorem cp_block {m N : Nat} (h : pieceF (stQ p w) n0 ann 1 m S (blockOf (behindTheImports p) env (cdOf p env) pos [topFrame qp]) = some (.next, S', cdOf p env, pos'))
    (k : topRun treeTable p w n0 ann N S'.abs (restOf ((behindTheImports p).drop 0) env (cdOf p env) pos' [topFrame qp]) = some r.abs) :
    topRun treeTable p w n0 ann (m + N) S.abs ⟨denote treeTable (cdOf p env), cdOf p env, pos, [topFrame qp]⟩ = some r.abs := by
  rw [← stQ_eq] at h
  exact piece_block (pieceF_ok h) k
theorem cp_pre {m N : Nat} {t : Thread} (h : stepsF (stQ p w) n0 ann m S t = some (S', ⟨denQ tabQ (cdOf p env), cdOf p env, pos, [topFrame qp]⟩))
    (k : topRun treeTable p w n0 ann N S'.abs ⟨denote treeTable (cdOf p env), cdOf p env, pos, [topFrame qp]⟩ = some r.abs) : topRun treeTable p w n0 ann (m + N) S.abs t = some r.abs := by
  rw [← stQ_eq] at h
  have e : denQ tabQ (cdOf p env) = denote treeTable (cdOf p env) := by rw [denQ_eq, tabQ_eq]
  rw [e] at h
  exact go_top (stepsF_ok h) k
end
/-- the top, told by its end -/
structure TopEnd (r : OpenRow) (q : Program) (loose : List PySem.Str) (H : Hook) (ob : SharedT → H.α) (M : Nat) (w : World) (os : OsState) (s : SharedT) : Prop where
  run : topRun treeTable r.prog w (boot_heap w.params).objs.size (bootAnn w) M ⟨boot_heap w.params, #[], boot_drawn, boot_toks, os⟩ (topStub r.prog) = some s.abs
  l1 : looksF r.prog (boot_heap w.params) s.abs = true
  l2 : seenQ q loose (importedModules r.prog.main.body) (fun s => xlAt q [] s && recOk r.toRowW.records s) s.abs = openGood q loose
  l3 : ob s = H.val w
theorem cp_boot {p : Program} {w : World} {os : OsState} {T : BT} {n N : Nat} {r : SharedT} (e : putAll (boot_heap w.params).objs.toList .nil 0 = some (T, n))
    (k : topRun treeTable p w n (bootAnn w) N (bootT w os (T, n)).abs (topStub p) = some r.abs) :
    topRun treeTable p w (boot_heap w.params).objs.size (bootAnn w) N ⟨boot_heap w.params, #[], boot_drawn, boot_toks, os⟩ (topStub p) = some r.abs := by
  have eh := putAll_heap e
  have en : n = (boot_heap w.params).objs.size := by
    rw [← eh]
    exact (absHeap_size T n _).symm
  subst en
  have eb : (bootT w os (T, (boot_heap w.params).objs.size)).abs = ⟨boot_heap w.params, #[], boot_drawn, boot_toks, os⟩ := by
    unfold bootT SharedT.abs
    rw [eh]
  rw [eb] at k
  exact k
theorem cp_mono {p : Program} {w : World} {n0 : Nat} {ann : Option Value} {N M : Nat} {s r : Shared} {t : Thread} (le : Nat.ble N M = true) (k : topRun treeTable p w n0 ann N s t = some r) : topRun treeTable p w n0 ann M s t = some r := by
  have z := topRun_mono (M - N) N s t r k
  have := Nat.le_of_ble_eq_true le
  rw [Nat.add_sub_cancel' this] at z
  exact z
theorem left_cp {p q : Program} {loose : List PySem.Str} {Xt : Shared → Bool} {α : Type} {Yf : Shared → α} {Ya : World → α} {N M : Nat}
    (e : opening p = plainProg p.main.scope.names) (hN : Nat.ble 600 N = true) (f : ∀ s, fenceModules? p s = some s) (le : Nat.ble M N = true)
    (run : ∀ (w : World) (os : OsState), ∃ s : SharedT, topRun treeTable p w (boot_heap w.params).objs.size (bootAnn w) M ⟨boot_heap w.params, #[], boot_drawn, boot_toks, os⟩ (topStub p) = some s.abs ∧ looksF p (boot_heap w.params) s.abs = true ∧ openSeen q loose (importedModules p.main.body) Xt true s.abs = openGood q loose ∧ Yf s.abs = Ya w) : LeftO p q loose Xt Yf Ya N true := by
  intro w
  obtain ⟨⟨h, gs, d, k, os⟩, a, a'⟩ := Option.map_eq_some_iff.mp (boot_open e hN f w)
  have a4 : h = boot_heap w.params ∧ gs = Array.mk [] ∧ d = boot_drawn ∧ k = boot_toks := by simpa using a'
  obtain ⟨rfl, rfl, rfl, rfl⟩ := a4
  obtain ⟨s, r, z1, z2, z3⟩ := run w os
  have r2 := cp_mono le r
  have top : topFrom treeTable p w N ⟨boot_heap w.params, Array.mk [], boot_drawn, boot_toks, os⟩ = some s.abs := by
    unfold topFrom
    dsimp only
    rw [boot_ns]
    have r3 : topRun treeTable p w (boot_heap w.params).objs.size ((boot_heap w.params).nsMap mainGlobals "__annotations__") N ⟨boot_heap w.params, Array.mk [], boot_drawn, boot_toks, os⟩ (topStub p) = some s.abs := r2
    have z4 : (staticsOk (importedModules p.main.body) (boot_heap w.params) s.abs.heap && namesBound p s.abs.heap && gensDone s.abs && laidKept (boot_heap w.params) s.abs.heap) = true := z1
    have r4 : ∀ k : Shared → Option Shared, (topRun treeTable p w (boot_heap w.params).objs.size ((boot_heap w.params).nsMap mainGlobals "__annotations__") N ⟨boot_heap w.params, Array.mk [], boot_drawn, boot_toks, os⟩ (topStub p)).bind k = k s.abs := fun k => by rw [r3]; rfl
    refine (r4 _).trans ?_
    rw [z4]
  unfold openEnds
  rw [a]
  show (topFrom treeTable p w N _).map _ = _
  rw [top]
  exact congrArg some (Prod.ext z2 z3)
theorem head_cp {r : OpenRow} {q : Program} {H : Hook} {ob : SharedT → H.α} {M : Nat} {loose : List PySem.Str} {d : DefRec} {kwd : List (PySem.Str × PySem.Expr)} (ho : ∀ s : SharedT, ob s = H.obs s.abs)
    (e : opening r.prog = plainProg r.prog.main.scope.names) (f : ∀ s, fenceModules? r.prog s = some s) (run : ∀ w os, ∃ s, TopEnd r q loose H ob M w os s)
    (hdef : defOf q r.name = some (d, kwd)) (hp : r.prog.theDef r.name = some (d.params, d.body, d.scope)) (hk : kwWritten? d.params.kwonlyargs d.params.kw_defaults = some kwd)
    (hwr : (!r.writes || r.records.isEmpty) = true) (k1 : r.wellSaid = true) (ok : (chainsOk q && opensWell r.prog && (frees r.toRowW && r.within.isEmpty)) = true) (hb : r.prog.bare) (hw : r.toRowW.promised)
    (call : WalkO q loose (XL q []) H.says r.toRowW d kwd fun f vs => PySem.call f vs) : r.Holds := by
  have left : LeftO r.prog q loose (fun s => xlAt q [] s && recOk r.toRowW.records s) H.obs H.val (M + 600) true := by
    refine left_cp (M := M) e (Nat.ble_eq_true_of_le (by omega)) f (Nat.ble_eq_true_of_le (by omega)) fun w os => ?_
    obtain ⟨s, z⟩ := run w os
    refine ⟨s, z.run, z.l1, ?_, (ho s).symm.trans z.l3⟩
    rw [seenQ_eq]
    exact z.l2
  exact holds_open (r := r) (q := q) (loose := loose) (XP := XL q []) (YP := H.says) (d := d) (kwd := kwd) left H.of H.keeps (fun s z => xl_of s (Bool.and_eq_true_iff.mp z).1) XL.keeps hdef hp hk (fun s z => recFacts_of (Bool.and_eq_true_iff.mp z).2) hwr k1 ok hb hw call
end Dl
namespace Dl
open PySem PySem.W L2
/-! words for the states -/
abbrev vi (i : Int) (t : Nat) : Value := .int i t
abbrev vs (x : String) (t : Nat) : Value := .str (Str.ofString x) t
abbrev vr (a : Nat) : Value := .ref a
abbrev vt (x : String) : Value := .type x
abbrev vb (x : String) : Value := .builtin x
abbrev vn : Value := .none
abbrev ob_tu (l : List Value) : Obj := ⟨.type "tuple", none, .seq l.toArray 0, #[]⟩
abbrev ob_co (l : List Value) : Obj := ⟨.type "code", none, .fields l.toArray, #[]⟩
abbrev ob_fi (c : Value) (l : List Value) : Obj := ⟨c, none, .fields l.toArray, #[]⟩
abbrev en (P : Params) (x : String) (t : Nat) (v : Value) : DictEntry := ⟨PyData.keyHash P (Str.ofString x), .str (Str.ofString x) t, v⟩
abbrev ob_di (l : List DictEntry) (n : Nat) : Obj := ⟨.type "dict", none, .dict l.toArray n, #[]⟩
abbrev ob_fu (c : Value) (s : Stmt) (x q : String) (g : Addr) (df kd dc md : Value) (an : Option Addr) (cd ct : Value) : Obj :=
  ⟨c, none, .func { name := Str.ofString x, qualname := Str.ofString q, params := defArgs s, body := .stmts (defBody s), scope := defScope s, globals := g, closure := [], defaults := df, kwdefaults := kd, doc := dc, pyModule := md, annotations := an, code := cd, closureTuple := ct, builtins := 0 }, #[]⟩
abbrev bn (o : Obj) (l r : BT) : BT := .node o l r
abbrev bz : BT := .nil
noncomputable abbrev stA' (T : Params → BT) (n toks : Nat) (w : World) (os : OsState) : SharedT := ⟨T w.params, n, (boot_heap w.params).life, #[], boot_drawn, toks, os⟩
end Dl
set_option Elab.async false
set_option linter.all false
set_option maxRecDepth 100000
/-! l.count(x), l.index(x) over data -/
namespace L2
open PySem PySem.Spec PyProof.Rows
end L2
set_option Elab.async false
set_option linter.all false
set_option maxRecDepth 100000
namespace Dl
open PySem L2 PyProof.Rows
/-! ### looked at as it is now, however deep -/
inductive Al2 (R : D → D → Prop) : List D → List D → Prop
  | nil : Al2 R [] []
  | cons {x d : D} {xs ds : List D} : R x d → Al2 R xs ds → Al2 R (x :: xs) (d :: ds)
theorem Al2.refl {R : D → D → Prop} (h : ∀ x, R x x) : ∀ xs : List D, Al2 R xs xs
  | [] => .nil
  | x :: xs => .cons (h x) (Al2.refl h xs)
theorem Al2.app {R : D → D → Prop} : ∀ {xs ds ys es : List D}, Al2 R xs ds → Al2 R ys es → Al2 R (xs ++ ys) (ds ++ es)
  | _, _, _, _, .nil, h => h
  | _, _, _, _, .cons a b, h => .cons a (b.app h)
/-- to a depth -/
def FzN (μ : Mu) : Nat → D → D → Prop
  | 0, x, d => x = d
  | n + 1, x, d => x = d ∨ (∃ k xs ds, x = .own k ∧ d = .lst ds ∧ μ[k]? = some (.lst xs) ∧ Al2 (FzN μ n) xs ds) ∨ (∃ xs ds, x = .tup xs ∧ d = .tup ds ∧ Al2 (FzN μ n) xs ds) ∨ (∃ xs ds, x = .lst xs ∧ d = .lst ds ∧ Al2 (FzN μ n) xs ds)
theorem FzN.id {μ : Mu} : ∀ {n : Nat} (d : D), FzN μ n d d
  | 0, _ => rfl
  | _ + 1, _ => .inl rfl
theorem al2_dp {K : PySem.W.Frag} {G H : Hp} {al : List Addr} {R : D → D → Prop} (h : ∀ {v : V} {x d : D} {n : Nat}, R x d → d.shp n = true → Rp K G al v x → Dp K H v d.py) : ∀ {vs : List V} {xs ds : List D} {n : Nat}, Al2 R xs ds → shpL ds n = true → Rps K G al vs xs → DpAll K H vs (pyL ds)
  | _, _, _, _, .nil, _, .nil => by unfold pyL; exact .nil
  | _, _, _, n, .cons a b, hs, .cons r t => by
    unfold pyL; unfold shpL at hs; simp at hs
    exact .cons (h a hs.1 r) (al2_dp h b hs.2 t)
theorem FzN.dp {K : PySem.W.Frag} {G H : Hp} {al : List Addr} {μ : Mu} (A : As K G H al μ) : ∀ {q : Nat} {v : V} {x d : D} {n : Nat}, FzN μ q x d → d.shp n = true → Rp K G al v x → Dp K H v d.py
  | 0, _, _, _, _, h, hs, r => by
    cases h
    exact dp_of A.sub hs r
  | q + 1, v, x, d, n, h, hs, r => by
    rcases h with rfl | ⟨k, xs, ds, rfl, rfl, hk, hl⟩ | ⟨xs, ds, rfl, rfl, hl⟩ | ⟨xs, ds, rfl, rfl, hl⟩
    · exact dp_of A.sub hs r
    · obtain ⟨a, ha, ga, ws, hv, rw'⟩ := A.get hk
      cases r with
      | own e =>
        rw [ha] at e; cases e
        unfold D.py; unfold D.shp at hs; simp at hs
        exact .lst (.inl (.inl hv)) (al2_dp (fun a b c => FzN.dp A a b c) hl hs.2 rw')
    · cases r with
      | tup e r =>
        unfold D.py; unfold D.shp at hs; simp at hs
        exact .tup (.inl (.inl (A.sub _ _ e))) (al2_dp (fun a b c => FzN.dp A a b c) hl hs.2 r)
    · cases r with
      | lst e r =>
        unfold D.py; unfold D.shp at hs; simp at hs
        exact .lst (.inl (.inl (A.sub _ _ e))) (al2_dp (fun a b c => FzN.dp A a b c) hl hs.2 r)
end Dl
set_option Elab.async false
set_option linter.all false
set_option maxRecDepth 100000
namespace L2
open PySem
end L2
namespace Dl
open PySem L2 PyProof.Rows
theorem strOk_iff {s : Str} : PyData.strOk s = true ↔ ∀ c ∈ s.cps.toList, c < 1114112 := by
  unfold PyData.strOk
  rw [Array.all_eq_true']
  simp
end Dl
set_option Elab.async false
set_option linter.all false
set_option maxRecDepth 100000
/-! dicts with tuple keys -/
namespace Dl
open PySem PySem.Spec PyProof.Rows L2
/-! ### .. over data -/
/-! ### a dict with tuple keys stands locked while it is walked -/
section
variable {K : PySem.W.Frag} {G G' : Hp} {al al' : List Addr} {a : Addr}
def Un (G G' : Hp) (a : Addr) : Prop := (∃ o kvs, G a = some (.frz o (.dT kvs))) ∧ ∀ b, b ≠ a → G' b = G b
theorem Un.plain (s : Un G G' a) {b : Addr} {o : HO} (h : G b = some o) (n : ∀ o' kvs, o ≠ .frz o' (.dT kvs)) : G' b = some o := by
  obtain ⟨⟨o1, kvs, e⟩, u⟩ := s
  rw [u b fun z => by rw [z, e] at h; cases h; exact n _ _ rfl]
  exact h
end
end Dl
/-! d.get(None), d.pop(k), dict(d): dicts with tuple keys -/
/-! dicts with tuple keys, as data -/
namespace Dl
open PySem L2
section
variable {K : PySem.W.Frag} {G H : Hp} {al : List Addr}
theorem Rps.app {us vs : List V} {ds es : List D} (h : Rps K G al us ds) (h' : Rps K G al vs es) : Rps K G al (us ++ vs) (ds ++ es) := by
  induction ds generalizing us with
  | nil => cases h; exact h'
  | cons d ds ih => cases h with | cons r t => exact .cons r (ih t)
end
end Dl
/-! zip of two lists or two tuples; isinstance(x, (list, tuple)) -/
set_option Elab.async false
set_option linter.all false
set_option maxRecDepth 100000
/-! a tuple of texts that stands in a module -/
set_option Elab.async false
set_option linter.all false
set_option maxRecDepth 100000
/-! dicts with tuple keys: their keys walked -/
namespace Dl
open PySem PySem.Spec PyProof.Rows L2
theorem Al2.len {R : D → D → Prop} : ∀ {xs ds : List D}, Al2 R xs ds → xs.length = ds.length
  | _, _, .nil => rfl
  | _, _, .cons _ t => by simp [t.len]
theorem Al2.get {R : D → D → Prop} : ∀ {xs ds : List D}, Al2 R xs ds → ∀ {i : Nat} {x : D}, xs[i]? = some x → ∃ d, ds[i]? = some d ∧ R x d
  | _, _, .cons a t, 0, x, h => by cases h; exact ⟨_, rfl, a⟩
  | _, _, .cons a t, i + 1, x, h => t.get (by simpa using h)
end Dl
set_option Elab.async false
set_option linter.all false
set_option maxRecDepth 100000
/-! sorted(..) of data -/
namespace L2
open PySem PySem.Spec PyProof.Rows PySem.Calls
end L2
set_option Elab.async false
set_option linter.all false
set_option maxRecDepth 100000
/-! a method called with its two arguments by name, the other way about, in a try's body -/
set_option Elab.async false
set_option linter.all false
set_option maxRecDepth 100000
/-! try: .. with except clauses that keep no name -/
namespace L2
open PySem PySem.Spec PyProof.Rows
inductive HdsM (X : Cx) : List ExceptHandler → List (Value × TS) → Prop
  | nil : HdsM X [] []
  | cons {x : Str} {c : Value} {ts : TS} {b₀ : Stmt} {suite : List Stmt} {np pos' : Pos} {hds : List ExceptHandler} {l : List (Value × TS)} (hc : Names X x c)
      (hsu : ∀ (a : Addr) (pn : List (Addr × Obj)), PSs (X.suite a pn) (b₀ :: suite) ts) (r : HdsM X hds l) :
      HdsM X (.ExceptHandler (some (.Name x np)) none (b₀ :: suite) pos' :: hds) ((c, ts) :: l)
def many3 (l : List (Value × TS)) : List (Value × (Addr → Value → Option Addr → TS)) := l.map fun p => (p.1, fun _ _ _ => p.2)
theorem HdsM.ok {X : Cx} : ∀ {hds : List ExceptHandler} {l : List (Value × TS)}, HdsM X hds l → HdsOk X hds (many3 l)
  | _, _, .nil => .nil
  | _, _, .cons hc hsu r => .cons hc (fun a oe cls d pn _ _ => hsu a ((a, oe) :: pn)) r.ok
end L2
set_option Elab.async false
set_option linter.all false
set_option maxRecDepth 100000
/-! xs.insert(i, y) -/
set_option Elab.async false
set_option linter.all false
set_option maxRecDepth 100000
/-! dicts with tuple keys: sorted(d), d.pop(k) -/
namespace L2
open PySem PySem.Spec PyProof.Rows PySem.Calls
end L2
namespace L2.DX
open PySem PySem.Spec PyProof.Rows L2
end L2.DX
set_option Elab.async false
set_option linter.all false
set_option maxRecDepth 100000
/-! for k in reversed(range(n)) -/
set_option Elab.async false
set_option linter.all false
set_option maxRecDepth 100000
/-! texts: split, int(text), str of both, steps of two -/
namespace L2
open PySem
end L2
set_option Elab.async false
set_option linter.all false
set_option maxRecDepth 100000
/-! [G a for a in xs] told by what the data are of -/
set_option Elab.async false
set_option linter.all false
set_option maxRecDepth 100000
/-! len(x) of a thing whose class has its own __len__ -/
namespace L2
open PySem Builtin
def rLenO (K : PySem.W.Frag) (C : Addr) (sp : Sp) (E : XK) : List V → Hp → VK → Prop := fun xs H Q => ∃ a dx fs, xs = [.ref a] ∧ H a = some (.ins C dx fs) ∧ sp [.ref a] H (fun z H' => ∃ n : Nat, z = .int n ∧ n < 2 ^ 62 ∧ Q (.int n) H') E
section
variable {prog : Program} {w : World} {A : Around} {E : Value → Shared → Prop} {s : Shared} {K : PySem.W.Frag} {x C f : Addr} {ox od : Obj}
theorem len_K {Q : Value → Shared → Prop} (X : K.In s.heap) (I : PySem.W.InstAt s.heap x ox C od) (hs : PySem.W.findIn K (.ref C) "__len__" = some (some (.ref f))) (hf : PySem.W.isFn K (.ref f) = true)
    (h : wpAny (model prog w) A.in1 (call (.ref f) [.ref x]) (fun r s' => ∃ n u, r = .int n u ∧ 0 ≤ n ∧ n < 2 ^ 63 ∧ Q (.int n s'.toks) { s' with toks := s'.toks + 1 }) E s) :
    wpAny (model prog w) A (call (.builtin "len") [.ref x]) Q E s := by
  refine Calls.call_function_entry kind_len plain_len entry_len (args_len1 _) ?_
  unfold Builtin.«len»
  refine wpAny_bind (m := oneArg "len" _) (wpAny_pure ?_)
  refine wpAny_bind (m := callSpecial? (.ref x) (Str.ofString "__len__")) ?_
  unfold callSpecial?
  refine wpAny_bind (wpAny_bind (I.type.here ((PySem.W.looks_findIn X hs).here ?_)))
  refine wpAny_holding (wpAny_bind ((PySem.W.bind_fn X _ (beq_iff_eq.mp hf)).here ?_))
  refine wpAny_bind (wpAny_mono h (fun r s' hr => ?_) fun _ _ y => y)
  obtain ⟨n, u, rfl, h0, h1, hq⟩ := hr
  refine wpAny_pure ?_
  refine wpAny_bind (wpAny_holding (wpAny_pure ?_))
  refine wpAny_bind (wpAny_letGo ?_)
  show wpAny _ _ (if n < 0 then _ else _) _ _ _
  rw [if_neg (by omega)]
  show wpAny _ _ (if n ≥ 2 ^ 63 then _ else _) _ _ _
  rw [if_neg (by omega)]
  exact wpAny_bind (wpAny_mkInt (wpAny_pure ⟨_, rfl, hq⟩))
end
section
variable {X : Cx} {CX : CXT} {C g : Addr} {n : Nat} {fd : FuncData} {ps : List Str} {sp : Sp} {E : XK}
theorem call_lenO (m : Meth X.K C "__len__" g) (F : FnOk X.prog X.w X.K X.mg X.base CX n g fd ps sp) (hr : Room (n + 1) X.A) (hb : Binds X.K fd ps []) (hx : Passes CX X E) : CallR X (.builtin "len") (rLenO X.K C sp E) := by
  intro pins s σ H xs us Q I rx h
  obtain ⟨a, dx, fs, rfl, ha, q⟩ := h
  obtain ⟨u, rfl, ru⟩ := rx.one
  cases (show u = Value.ref a from ru)
  obtain ⟨mA, J, _⟩ := ins_get I.hok ha
  obtain ⟨od, J, _⟩ := J.look
  have hl := F.len _ _ _ _ q
  refine len_K I.kIn J m.at_ m.fn ?_
  refine wpAny_call (codeAny_mono (F.run X.A.in1 X.stack s H ⟨[.ref a], []⟩ [.ref a] [.ref a] _ E hr.in1 I.env0.in1 (by
    have := hb s [.ref a] I.kIn (by simpa using hl)
    simpa using this) (.cons rfl .nil) q) fun r s' hq => ?_)
  cases r with
  | error e => exact hx pins σ H s e s' I hq
  | ok fl =>
    cases fl with
    | ret w =>
      obtain ⟨z', H', I', rz, k, rfl, hk, qz⟩ := I.after hq
      obtain ⟨t, rfl⟩ := (show ∃ t, w = Value.int k t from rz)
      exact ⟨k, t, rfl, by omega, by omega, .int k, H', I'.tok _, ⟨_, rfl⟩, qz⟩
    | next => exact False.elim hq
    | brk => exact False.elim hq
    | cont => exact False.elim hq
end
end L2
namespace Dl
open PySem L2 PyProof.Rows
section
variable {K : PySem.W.Frag} {μ : Mu} {P : D → Mu → Prop} {x : D} {C : Addr} {Ct : CT} {E : XK}
theorem rc_lenO (hx : InO μ C x) (h : Ct [x] μ (fun z μ' => ∃ n : Nat, z = .int n ∧ n < 2 ^ 62 ∧ P (.int n) μ') (fun _ _ _ => False)) : RC K (rLenO K C (spD K Ct) E) [x] μ P := fun G H al vs A r Q hQ => by
  obtain ⟨v, rfl, rx⟩ := rps1 r
  obtain ⟨a, dx, fs, rfl, ha⟩ := hx.get A rx
  refine ⟨a, dx, fs, rfl, ha, G, al, [x], μ, _, _, A, .cons rx .nil, h, fun z d μ' G' H' al' n A' r p => ?_, XAg.none⟩
  obtain ⟨k, rfl, hk, p⟩ := p
  cases r
  exact ⟨k, rfl, hk, hQ _ _ μ' G' H' al' n A' (.int k) p⟩
end
end Dl
set_option Elab.async false
set_option linter.all false
set_option maxRecDepth 100000
namespace Dl
open PySem L2 PyProof.Rows
def topS (i : Nat) : Stmt := PySem.Challenge.pw_readround_k01_books_known.main.body.getD i (.Pass ⟨0, 0, 0, 0⟩)
abbrev R : PySem.W.OpenRow := PySem.W.OpenLaw.row PySem.Challenge.rw_readround_k01_books_known
noncomputable section
open PySem.W PySem.Calls HandSHeadRun
noncomputable def env0 : Env := { scope := R.prog.main.scope, locals := mainNs, globals := mainNs, cells := [], code := (vr 13), frame := some 14 }
def o11 : Obj := ob_tu []
def o12 : Obj := ob_fi vn []
def o13 : Obj := ob_co [(vs "<module>" 182), (vs "<module>" 183), (vs "/claim/cut.py" 184), (vi 1 0), (vi 0 0), (vi 0 0), (vi 0 0), (vi 0 0), (vr 11), (.bool false), (vi 181 0), (vr 12), vn, vn, vn, vn, (vi 185 0), (vi 1 0), (vs "/claim/cut.py" 186)]
def o14 : Obj := ⟨(vt "frame"), none, .plain, #[some (vr 13), some (vr 3), some (vr 3), none, some (vs "__main__" 164), none, some (vr 0)]⟩
def o3 (P : Params) : Obj := ob_di [en P "__name__" 165 (vs "readround.errors" 194), en P "__doc__" 166 vn, en P "__package__" 167 vn, en P "__loader__" 168 (vb "__main__.__loader__#opaque"), en P "__spec__" 169 vn, en P "__annotations__" 170 (vr 6), en P "__builtins__" 171 (vr 4), en P "__file__" 173 (vs "/claim/cut.py" 172), en P "__cached__" 174 vn, en P "_wall" 193 (vr 21), en P "ReadError" 213 (vr 31), en P "BadBook" 229 (vr 44), en P "BadCalendar" 245 (vr 56), en P "BadFeast" 261 (vr 68), en P "BadRow" 277 (vr 80), en P "BadHouse" 293 (vr 92), en P "BadNumber" 309 (vr 104)] 17
def o12_1 : Obj := ob_fi vn [(vi 1 0), (vi 0 0), (vr 20), (vi 5 0), (vi 0 0), (vr 27), (vi 7 0), (vi 0 0), (vr 40), (vi 9 0), (vi 0 0), (vr 52), (vi 11 0), (vi 0 0), (vr 64), (vi 13 0), (vi 0 0), (vr 76), (vi 15 0), (vi 0 0), (vr 88), (vi 17 0), (vi 0 0), (vr 100)]
def o15 : Obj := ob_tu []
def o16 : Obj := ob_fi vn []
def o17 : Obj := ob_tu [(vs "k" 190)]
def o18 : Obj := ob_tu []
def o19 : Obj := ob_fu vn (topS 0) "_wall" "_wall" 0 vn vn vn vn none vn vn
def o20 : Obj := ob_co [(vs "_wall" 187), (vs "_wall" 188), (vs "/claim/cut.py" 189), (vi 1 0), (vi 1 0), (vi 0 0), (vi 0 0), (vi 3 0), (vr 15), (.bool true), (vi 181 0), (vr 16), vn, (vr 17), (vr 18), (vr 19), (vi 191 0), (vi 1 0), (vs "/claim/cut.py" 192)]
def o21 : Obj := ob_fu (vt "function") (topS 0) "_wall" "_wall" 3 vn vn vn (vs "__main__" 164) none (vr 20) vn
def o22 : Obj := ob_tu [(vt "ValueError")]
def o23 : Obj := ob_fi (vt "builtin_function_or_method") [(vb "type.__prepare__"), (vt "type")]
def o24 (P : Params) : Obj := ob_di [en P "__module__" 203 (vs "readround.errors" 194), en P "__qualname__" 205 (vs "ReadError" 204), en P "__firstlineno__" 207 (vi 5 206), en P "__static_attributes__" 208 (vr 29)] 4
def o25 : Obj := ob_tu []
def o26 : Obj := ob_fi vn []
def o27 : Obj := ob_co [(vs "ReadError" 198), (vs "ReadError" 199), (vs "/claim/cut.py" 200), (vi 5 0), (vi 0 0), (vi 0 0), (vi 0 0), (vi 0 0), (vr 25), (.bool false), (vi 181 0), (vr 26), vn, vn, vn, vn, (vi 201 0), (vi 5 0), (vs "/claim/cut.py" 202)]
def o28 : Obj := ⟨(vt "frame"), none, .plain, #[some (vr 27), some (vr 3), some (vr 24), none, some (vs "readround.errors" 194), none, some (vr 0)]⟩
def o29 : Obj := ob_tu []
def o30 (P : Params) : Obj := ob_di [en P "__module__" 203 (vs "readround.errors" 194), en P "__firstlineno__" 207 (vi 5 206), en P "__static_attributes__" 208 (vr 29), en P "__weakref__" 210 (vr 32), en P "__doc__" 211 vn] 3
def o31 : Obj := ⟨(vt "type"), none, .cls (ClassData.mk (Str.ofString "ReadError") [(vt "ValueError")] [(vr 31), (vt "ValueError"), (vt "Exception"), (vt "BaseException"), (vt "object")] 30 (Str.ofString "ReadError") true [] [(vr 44), (vr 56), (vr 68), (vr 80), (vr 92), (vr 104)] false none false), #[some (vr 22), none, some (vs "ReadError" 196), some (vs "ReadError" 204), some (vb "ValueError.__new__"), some (.bool true)]⟩
def o32 : Obj := ob_fi (vt "getset_descriptor") [(vs "__weakref__" 209), (vr 31), (vb "ExceptionGroup.__weakref__"), vn]
def o33 : Obj := ob_fi (vt "super") [(vr 31), (vr 31), (vr 31)]
def o34 : Obj := ob_fi (vt "builtin_function_or_method") [(vb "object.__init_subclass__"), (vr 31)]
def o35 : Obj := ob_tu [(vr 31)]
def o36 : Obj := ob_fi (vt "builtin_function_or_method") [(vb "type.__prepare__"), (vt "type")]
def o37 (P : Params) : Obj := ob_di [en P "__module__" 221 (vs "readround.errors" 194), en P "__qualname__" 223 (vs "BadBook" 222), en P "__firstlineno__" 225 (vi 7 224), en P "__static_attributes__" 226 (vr 42)] 4
def o38 : Obj := ob_tu []
def o39 : Obj := ob_fi vn []
def o40 : Obj := ob_co [(vs "BadBook" 216), (vs "BadBook" 217), (vs "/claim/cut.py" 218), (vi 7 0), (vi 0 0), (vi 0 0), (vi 0 0), (vi 0 0), (vr 38), (.bool false), (vi 181 0), (vr 39), vn, vn, vn, vn, (vi 219 0), (vi 7 0), (vs "/claim/cut.py" 220)]
def o41 : Obj := ⟨(vt "frame"), none, .plain, #[some (vr 40), some (vr 3), some (vr 37), none, some (vs "readround.errors" 194), none, some (vr 0)]⟩
def o42 : Obj := ob_tu []
def o43 (P : Params) : Obj := ob_di [en P "__module__" 221 (vs "readround.errors" 194), en P "__firstlineno__" 225 (vi 7 224), en P "__static_attributes__" 226 (vr 42), en P "__doc__" 227 vn] 2
def o44 : Obj := ⟨(vt "type"), none, .cls (ClassData.mk (Str.ofString "BadBook") [(vr 31)] [(vr 44), (vr 31), (vt "ValueError"), (vt "Exception"), (vt "BaseException"), (vt "object")] 43 (Str.ofString "BadBook") true [] [] false none false), #[some (vr 35), none, some (vs "BadBook" 214), some (vs "BadBook" 222), some (vb "ValueError.__new__"), some (.bool true)]⟩
def o45 : Obj := ob_fi (vt "super") [(vr 44), (vr 44), (vr 44)]
def o46 : Obj := ob_fi (vt "builtin_function_or_method") [(vb "object.__init_subclass__"), (vr 44)]
def o47 : Obj := ob_tu [(vr 31)]
def o48 : Obj := ob_fi (vt "builtin_function_or_method") [(vb "type.__prepare__"), (vt "type")]
def o49 (P : Params) : Obj := ob_di [en P "__module__" 237 (vs "readround.errors" 194), en P "__qualname__" 239 (vs "BadCalendar" 238), en P "__firstlineno__" 241 (vi 9 240), en P "__static_attributes__" 242 (vr 54)] 4
def o50 : Obj := ob_tu []
def o51 : Obj := ob_fi vn []
def o52 : Obj := ob_co [(vs "BadCalendar" 232), (vs "BadCalendar" 233), (vs "/claim/cut.py" 234), (vi 9 0), (vi 0 0), (vi 0 0), (vi 0 0), (vi 0 0), (vr 50), (.bool false), (vi 181 0), (vr 51), vn, vn, vn, vn, (vi 235 0), (vi 9 0), (vs "/claim/cut.py" 236)]
def o53 : Obj := ⟨(vt "frame"), none, .plain, #[some (vr 52), some (vr 3), some (vr 49), none, some (vs "readround.errors" 194), none, some (vr 0)]⟩
def o54 : Obj := ob_tu []
def o55 (P : Params) : Obj := ob_di [en P "__module__" 237 (vs "readround.errors" 194), en P "__firstlineno__" 241 (vi 9 240), en P "__static_attributes__" 242 (vr 54), en P "__doc__" 243 vn] 2
def o56 : Obj := ⟨(vt "type"), none, .cls (ClassData.mk (Str.ofString "BadCalendar") [(vr 31)] [(vr 56), (vr 31), (vt "ValueError"), (vt "Exception"), (vt "BaseException"), (vt "object")] 55 (Str.ofString "BadCalendar") true [] [] false none false), #[some (vr 47), none, some (vs "BadCalendar" 230), some (vs "BadCalendar" 238), some (vb "ValueError.__new__"), some (.bool true)]⟩
def o57 : Obj := ob_fi (vt "super") [(vr 56), (vr 56), (vr 56)]
def o58 : Obj := ob_fi (vt "builtin_function_or_method") [(vb "object.__init_subclass__"), (vr 56)]
def o59 : Obj := ob_tu [(vr 31)]
def o60 : Obj := ob_fi (vt "builtin_function_or_method") [(vb "type.__prepare__"), (vt "type")]
def o61 (P : Params) : Obj := ob_di [en P "__module__" 253 (vs "readround.errors" 194), en P "__qualname__" 255 (vs "BadFeast" 254), en P "__firstlineno__" 257 (vi 11 256), en P "__static_attributes__" 258 (vr 66)] 4
def o62 : Obj := ob_tu []
def o63 : Obj := ob_fi vn []
def o64 : Obj := ob_co [(vs "BadFeast" 248), (vs "BadFeast" 249), (vs "/claim/cut.py" 250), (vi 11 0), (vi 0 0), (vi 0 0), (vi 0 0), (vi 0 0), (vr 62), (.bool false), (vi 181 0), (vr 63), vn, vn, vn, vn, (vi 251 0), (vi 11 0), (vs "/claim/cut.py" 252)]
def o65 : Obj := ⟨(vt "frame"), none, .plain, #[some (vr 64), some (vr 3), some (vr 61), none, some (vs "readround.errors" 194), none, some (vr 0)]⟩
def o66 : Obj := ob_tu []
def o67 (P : Params) : Obj := ob_di [en P "__module__" 253 (vs "readround.errors" 194), en P "__firstlineno__" 257 (vi 11 256), en P "__static_attributes__" 258 (vr 66), en P "__doc__" 259 vn] 2
def o68 : Obj := ⟨(vt "type"), none, .cls (ClassData.mk (Str.ofString "BadFeast") [(vr 31)] [(vr 68), (vr 31), (vt "ValueError"), (vt "Exception"), (vt "BaseException"), (vt "object")] 67 (Str.ofString "BadFeast") true [] [] false none false), #[some (vr 59), none, some (vs "BadFeast" 246), some (vs "BadFeast" 254), some (vb "ValueError.__new__"), some (.bool true)]⟩
def o69 : Obj := ob_fi (vt "super") [(vr 68), (vr 68), (vr 68)]
def o70 : Obj := ob_fi (vt "builtin_function_or_method") [(vb "object.__init_subclass__"), (vr 68)]
def o71 : Obj := ob_tu [(vr 31)]
def o72 : Obj := ob_fi (vt "builtin_function_or_method") [(vb "type.__prepare__"), (vt "type")]
def o73 (P : Params) : Obj := ob_di [en P "__module__" 269 (vs "readround.errors" 194), en P "__qualname__" 271 (vs "BadRow" 270), en P "__firstlineno__" 273 (vi 13 272), en P "__static_attributes__" 274 (vr 78)] 4
def o74 : Obj := ob_tu []
def o75 : Obj := ob_fi vn []
def o76 : Obj := ob_co [(vs "BadRow" 264), (vs "BadRow" 265), (vs "/claim/cut.py" 266), (vi 13 0), (vi 0 0), (vi 0 0), (vi 0 0), (vi 0 0), (vr 74), (.bool false), (vi 181 0), (vr 75), vn, vn, vn, vn, (vi 267 0), (vi 13 0), (vs "/claim/cut.py" 268)]
def o77 : Obj := ⟨(vt "frame"), none, .plain, #[some (vr 76), some (vr 3), some (vr 73), none, some (vs "readround.errors" 194), none, some (vr 0)]⟩
def o78 : Obj := ob_tu []
def o79 (P : Params) : Obj := ob_di [en P "__module__" 269 (vs "readround.errors" 194), en P "__firstlineno__" 273 (vi 13 272), en P "__static_attributes__" 274 (vr 78), en P "__doc__" 275 vn] 2
def o80 : Obj := ⟨(vt "type"), none, .cls (ClassData.mk (Str.ofString "BadRow") [(vr 31)] [(vr 80), (vr 31), (vt "ValueError"), (vt "Exception"), (vt "BaseException"), (vt "object")] 79 (Str.ofString "BadRow") true [] [] false none false), #[some (vr 71), none, some (vs "BadRow" 262), some (vs "BadRow" 270), some (vb "ValueError.__new__"), some (.bool true)]⟩
def o81 : Obj := ob_fi (vt "super") [(vr 80), (vr 80), (vr 80)]
def o82 : Obj := ob_fi (vt "builtin_function_or_method") [(vb "object.__init_subclass__"), (vr 80)]
def o83 : Obj := ob_tu [(vr 31)]
def o84 : Obj := ob_fi (vt "builtin_function_or_method") [(vb "type.__prepare__"), (vt "type")]
def o85 (P : Params) : Obj := ob_di [en P "__module__" 285 (vs "readround.errors" 194), en P "__qualname__" 287 (vs "BadHouse" 286), en P "__firstlineno__" 289 (vi 15 288), en P "__static_attributes__" 290 (vr 90)] 4
def o86 : Obj := ob_tu []
def o87 : Obj := ob_fi vn []
def o88 : Obj := ob_co [(vs "BadHouse" 280), (vs "BadHouse" 281), (vs "/claim/cut.py" 282), (vi 15 0), (vi 0 0), (vi 0 0), (vi 0 0), (vi 0 0), (vr 86), (.bool false), (vi 181 0), (vr 87), vn, vn, vn, vn, (vi 283 0), (vi 15 0), (vs "/claim/cut.py" 284)]
def o89 : Obj := ⟨(vt "frame"), none, .plain, #[some (vr 88), some (vr 3), some (vr 85), none, some (vs "readround.errors" 194), none, some (vr 0)]⟩
def o90 : Obj := ob_tu []
def o91 (P : Params) : Obj := ob_di [en P "__module__" 285 (vs "readround.errors" 194), en P "__firstlineno__" 289 (vi 15 288), en P "__static_attributes__" 290 (vr 90), en P "__doc__" 291 vn] 2
def o92 : Obj := ⟨(vt "type"), none, .cls (ClassData.mk (Str.ofString "BadHouse") [(vr 31)] [(vr 92), (vr 31), (vt "ValueError"), (vt "Exception"), (vt "BaseException"), (vt "object")] 91 (Str.ofString "BadHouse") true [] [] false none false), #[some (vr 83), none, some (vs "BadHouse" 278), some (vs "BadHouse" 286), some (vb "ValueError.__new__"), some (.bool true)]⟩
def o93 : Obj := ob_fi (vt "super") [(vr 92), (vr 92), (vr 92)]
def o94 : Obj := ob_fi (vt "builtin_function_or_method") [(vb "object.__init_subclass__"), (vr 92)]
def o95 : Obj := ob_tu [(vr 31)]
def o96 : Obj := ob_fi (vt "builtin_function_or_method") [(vb "type.__prepare__"), (vt "type")]
def o97 (P : Params) : Obj := ob_di [en P "__module__" 301 (vs "readround.errors" 194), en P "__qualname__" 303 (vs "BadNumber" 302), en P "__firstlineno__" 305 (vi 17 304), en P "__static_attributes__" 306 (vr 102)] 4
def o98 : Obj := ob_tu []
def o99 : Obj := ob_fi vn []
def o100 : Obj := ob_co [(vs "BadNumber" 296), (vs "BadNumber" 297), (vs "/claim/cut.py" 298), (vi 17 0), (vi 0 0), (vi 0 0), (vi 0 0), (vi 0 0), (vr 98), (.bool false), (vi 181 0), (vr 99), vn, vn, vn, vn, (vi 299 0), (vi 17 0), (vs "/claim/cut.py" 300)]
def o101 : Obj := ⟨(vt "frame"), none, .plain, #[some (vr 100), some (vr 3), some (vr 97), none, some (vs "readround.errors" 194), none, some (vr 0)]⟩
def o102 : Obj := ob_tu []
def o103 (P : Params) : Obj := ob_di [en P "__module__" 301 (vs "readround.errors" 194), en P "__firstlineno__" 305 (vi 17 304), en P "__static_attributes__" 306 (vr 102), en P "__doc__" 307 vn] 2
def o104 : Obj := ⟨(vt "type"), none, .cls (ClassData.mk (Str.ofString "BadNumber") [(vr 31)] [(vr 104), (vr 31), (vt "ValueError"), (vt "Exception"), (vt "BaseException"), (vt "object")] 103 (Str.ofString "BadNumber") true [] [] false none false), #[some (vr 95), none, some (vs "BadNumber" 294), some (vs "BadNumber" 302), some (vb "ValueError.__new__"), some (.bool true)]⟩
def o105 : Obj := ob_fi (vt "super") [(vr 104), (vr 104), (vr 104)]
def o106 : Obj := ob_fi (vt "builtin_function_or_method") [(vb "object.__init_subclass__"), (vr 104)]
def o3_1 (P : Params) : Obj := ob_di [en P "__name__" 165 (vs "readround.errors" 194), en P "__doc__" 166 vn, en P "__package__" 167 vn, en P "__loader__" 168 (vb "__main__.__loader__#opaque"), en P "__spec__" 169 vn, en P "__annotations__" 170 (vr 6), en P "__builtins__" 171 (vr 4), en P "__file__" 173 (vs "/claim/cut.py" 172), en P "__cached__" 174 vn, en P "_wall" 193 (vr 21), en P "ReadError" 213 (vr 31), en P "BadBook" 229 (vr 44), en P "BadCalendar" 245 (vr 56), en P "BadFeast" 261 (vr 68), en P "BadRow" 277 (vr 80), en P "BadHouse" 293 (vr 92), en P "BadNumber" 309 (vr 104), en P "NoDay" 325 (vr 116), en P "NoRow" 341 (vr 128), en P "NoPiece" 357 (vr 140), en P "TooTight" 382 (vr 159), en P "NeverDone" 411 (vr 178), en P "TooFar" 427 (vr 190), en P "NoDeed" 443 (vr 202)] 24
def o12_2 : Obj := ob_fi vn [(vi 1 0), (vi 0 0), (vr 20), (vi 5 0), (vi 0 0), (vr 27), (vi 7 0), (vi 0 0), (vr 40), (vi 9 0), (vi 0 0), (vr 52), (vi 11 0), (vi 0 0), (vr 64), (vi 13 0), (vi 0 0), (vr 76), (vi 15 0), (vi 0 0), (vr 88), (vi 17 0), (vi 0 0), (vr 100), (vi 19 0), (vi 0 0), (vr 112), (vi 21 0), (vi 0 0), (vr 124), (vi 23 0), (vi 0 0), (vr 136), (vi 25 0), (vi 0 0), (vr 148), (vi 30 0), (vi 0 0), (vr 167), (vi 37 0), (vi 0 0), (vr 186), (vi 39 0), (vi 0 0), (vr 198)]
def o31_1 : Obj := ⟨(vt "type"), none, .cls (ClassData.mk (Str.ofString "ReadError") [(vt "ValueError")] [(vr 31), (vt "ValueError"), (vt "Exception"), (vt "BaseException"), (vt "object")] 30 (Str.ofString "ReadError") true [] [(vr 44), (vr 56), (vr 68), (vr 80), (vr 92), (vr 104), (vr 116), (vr 128), (vr 140), (vr 159), (vr 178), (vr 190), (vr 202)] false none false), #[some (vr 22), none, some (vs "ReadError" 196), some (vs "ReadError" 204), some (vb "ValueError.__new__"), some (.bool true)]⟩
def o107 : Obj := ob_tu [(vr 31)]
def o108 : Obj := ob_fi (vt "builtin_function_or_method") [(vb "type.__prepare__"), (vt "type")]
def o109 (P : Params) : Obj := ob_di [en P "__module__" 317 (vs "readround.errors" 194), en P "__qualname__" 319 (vs "NoDay" 318), en P "__firstlineno__" 321 (vi 19 320), en P "__static_attributes__" 322 (vr 114)] 4
def o110 : Obj := ob_tu []
def o111 : Obj := ob_fi vn []
def o112 : Obj := ob_co [(vs "NoDay" 312), (vs "NoDay" 313), (vs "/claim/cut.py" 314), (vi 19 0), (vi 0 0), (vi 0 0), (vi 0 0), (vi 0 0), (vr 110), (.bool false), (vi 181 0), (vr 111), vn, vn, vn, vn, (vi 315 0), (vi 19 0), (vs "/claim/cut.py" 316)]
def o113 : Obj := ⟨(vt "frame"), none, .plain, #[some (vr 112), some (vr 3), some (vr 109), none, some (vs "readround.errors" 194), none, some (vr 0)]⟩
def o114 : Obj := ob_tu []
def o115 (P : Params) : Obj := ob_di [en P "__module__" 317 (vs "readround.errors" 194), en P "__firstlineno__" 321 (vi 19 320), en P "__static_attributes__" 322 (vr 114), en P "__doc__" 323 vn] 2
def o116 : Obj := ⟨(vt "type"), none, .cls (ClassData.mk (Str.ofString "NoDay") [(vr 31)] [(vr 116), (vr 31), (vt "ValueError"), (vt "Exception"), (vt "BaseException"), (vt "object")] 115 (Str.ofString "NoDay") true [] [] false none false), #[some (vr 107), none, some (vs "NoDay" 310), some (vs "NoDay" 318), some (vb "ValueError.__new__"), some (.bool true)]⟩
def o117 : Obj := ob_fi (vt "super") [(vr 116), (vr 116), (vr 116)]
def o118 : Obj := ob_fi (vt "builtin_function_or_method") [(vb "object.__init_subclass__"), (vr 116)]
def o119 : Obj := ob_tu [(vr 31)]
def o120 : Obj := ob_fi (vt "builtin_function_or_method") [(vb "type.__prepare__"), (vt "type")]
def o121 (P : Params) : Obj := ob_di [en P "__module__" 333 (vs "readround.errors" 194), en P "__qualname__" 335 (vs "NoRow" 334), en P "__firstlineno__" 337 (vi 21 336), en P "__static_attributes__" 338 (vr 126)] 4
def o122 : Obj := ob_tu []
def o123 : Obj := ob_fi vn []
def o124 : Obj := ob_co [(vs "NoRow" 328), (vs "NoRow" 329), (vs "/claim/cut.py" 330), (vi 21 0), (vi 0 0), (vi 0 0), (vi 0 0), (vi 0 0), (vr 122), (.bool false), (vi 181 0), (vr 123), vn, vn, vn, vn, (vi 331 0), (vi 21 0), (vs "/claim/cut.py" 332)]
def o125 : Obj := ⟨(vt "frame"), none, .plain, #[some (vr 124), some (vr 3), some (vr 121), none, some (vs "readround.errors" 194), none, some (vr 0)]⟩
def o126 : Obj := ob_tu []
def o127 (P : Params) : Obj := ob_di [en P "__module__" 333 (vs "readround.errors" 194), en P "__firstlineno__" 337 (vi 21 336), en P "__static_attributes__" 338 (vr 126), en P "__doc__" 339 vn] 2
def o128 : Obj := ⟨(vt "type"), none, .cls (ClassData.mk (Str.ofString "NoRow") [(vr 31)] [(vr 128), (vr 31), (vt "ValueError"), (vt "Exception"), (vt "BaseException"), (vt "object")] 127 (Str.ofString "NoRow") true [] [] false none false), #[some (vr 119), none, some (vs "NoRow" 326), some (vs "NoRow" 334), some (vb "ValueError.__new__"), some (.bool true)]⟩
def o129 : Obj := ob_fi (vt "super") [(vr 128), (vr 128), (vr 128)]
def o130 : Obj := ob_fi (vt "builtin_function_or_method") [(vb "object.__init_subclass__"), (vr 128)]
def o131 : Obj := ob_tu [(vr 31)]
def o132 : Obj := ob_fi (vt "builtin_function_or_method") [(vb "type.__prepare__"), (vt "type")]
def o133 (P : Params) : Obj := ob_di [en P "__module__" 349 (vs "readround.errors" 194), en P "__qualname__" 351 (vs "NoPiece" 350), en P "__firstlineno__" 353 (vi 23 352), en P "__static_attributes__" 354 (vr 138)] 4
def o134 : Obj := ob_tu []
def o135 : Obj := ob_fi vn []
def o136 : Obj := ob_co [(vs "NoPiece" 344), (vs "NoPiece" 345), (vs "/claim/cut.py" 346), (vi 23 0), (vi 0 0), (vi 0 0), (vi 0 0), (vi 0 0), (vr 134), (.bool false), (vi 181 0), (vr 135), vn, vn, vn, vn, (vi 347 0), (vi 23 0), (vs "/claim/cut.py" 348)]
def o137 : Obj := ⟨(vt "frame"), none, .plain, #[some (vr 136), some (vr 3), some (vr 133), none, some (vs "readround.errors" 194), none, some (vr 0)]⟩
def o138 : Obj := ob_tu []
def o139 (P : Params) : Obj := ob_di [en P "__module__" 349 (vs "readround.errors" 194), en P "__firstlineno__" 353 (vi 23 352), en P "__static_attributes__" 354 (vr 138), en P "__doc__" 355 vn] 2
def o140 : Obj := ⟨(vt "type"), none, .cls (ClassData.mk (Str.ofString "NoPiece") [(vr 31)] [(vr 140), (vr 31), (vt "ValueError"), (vt "Exception"), (vt "BaseException"), (vt "object")] 139 (Str.ofString "NoPiece") true [] [] false none false), #[some (vr 131), none, some (vs "NoPiece" 342), some (vs "NoPiece" 350), some (vb "ValueError.__new__"), some (.bool true)]⟩
def o141 : Obj := ob_fi (vt "super") [(vr 140), (vr 140), (vr 140)]
def o142 : Obj := ob_fi (vt "builtin_function_or_method") [(vb "object.__init_subclass__"), (vr 140)]
def o143 : Obj := ob_tu [(vr 31)]
def o144 : Obj := ob_fi (vt "builtin_function_or_method") [(vb "type.__prepare__"), (vt "type")]
def o145 (P : Params) : Obj := ob_di [en P "__module__" 365 (vs "readround.errors" 194), en P "__qualname__" 367 (vs "TooTight" 366), en P "__firstlineno__" 369 (vi 25 368), en P "__init__" 377 (vr 156), en P "__static_attributes__" 379 (vr 157)] 5
def o146 : Obj := ob_tu []
def o147 : Obj := ob_fi vn [(vi 27 0), (vi 4 0), (vr 155)]
def o148 : Obj := ob_co [(vs "TooTight" 360), (vs "TooTight" 361), (vs "/claim/cut.py" 362), (vi 25 0), (vi 0 0), (vi 0 0), (vi 0 0), (vi 0 0), (vr 146), (.bool false), (vi 181 0), (vr 147), vn, vn, vn, vn, (vi 363 0), (vi 25 0), (vs "/claim/cut.py" 364)]
def o149 : Obj := ⟨(vt "frame"), none, .plain, #[some (vr 148), some (vr 3), some (vr 145), none, some (vs "readround.errors" 194), none, some (vr 0)]⟩
def o150 : Obj := ob_tu []
def o151 : Obj := ob_fi vn []
def o152 : Obj := ob_tu [(vs "self" 373), (vs "block" 374)]
def o153 : Obj := ob_tu []
def o154 : Obj := ob_fu vn (inClass (topS 12) 0) "__init__" "TooTight.__init__" 0 vn vn vn vn none vn vn
def o155 : Obj := ob_co [(vs "__init__" 370), (vs "TooTight.__init__" 371), (vs "/claim/cut.py" 372), (vi 27 0), (vi 2 0), (vi 0 0), (vi 0 0), (vi 3 0), (vr 150), (.bool true), (vi 181 0), (vr 151), vn, (vr 152), (vr 153), (vr 154), (vi 375 0), (vi 27 0), (vs "/claim/cut.py" 376)]
def o156 : Obj := ob_fu (vt "function") (inClass (topS 12) 0) "__init__" "TooTight.__init__" 3 vn vn vn (vs "readround.errors" 194) none (vr 155) vn
def o157 : Obj := ob_tu [(vs "block" 378)]
def o158 (P : Params) : Obj := ob_di [en P "__module__" 365 (vs "readround.errors" 194), en P "__firstlineno__" 369 (vi 25 368), en P "__init__" 377 (vr 156), en P "__static_attributes__" 379 (vr 157), en P "__doc__" 380 vn] 2
def o159 : Obj := ⟨(vt "type"), none, .cls (ClassData.mk (Str.ofString "TooTight") [(vr 31)] [(vr 159), (vr 31), (vt "ValueError"), (vt "Exception"), (vt "BaseException"), (vt "object")] 158 (Str.ofString "TooTight") true [] [] false none false), #[some (vr 143), none, some (vs "TooTight" 358), some (vs "TooTight" 366), some (vb "ValueError.__new__"), some (.bool true)]⟩
def o160 : Obj := ob_fi (vt "super") [(vr 159), (vr 159), (vr 159)]
def o161 : Obj := ob_fi (vt "builtin_function_or_method") [(vb "object.__init_subclass__"), (vr 159)]
def o162 : Obj := ob_tu [(vr 31)]
def o163 : Obj := ob_fi (vt "builtin_function_or_method") [(vb "type.__prepare__"), (vt "type")]
def o164 (P : Params) : Obj := ob_di [en P "__module__" 390 (vs "readround.errors" 194), en P "__qualname__" 392 (vs "NeverDone" 391), en P "__firstlineno__" 394 (vi 30 393), en P "__init__" 404 (vr 175), en P "__static_attributes__" 408 (vr 176)] 5
def o165 : Obj := ob_tu []
def o166 : Obj := ob_fi vn [(vi 32 0), (vi 4 0), (vr 174)]
def o167 : Obj := ob_co [(vs "NeverDone" 385), (vs "NeverDone" 386), (vs "/claim/cut.py" 387), (vi 30 0), (vi 0 0), (vi 0 0), (vi 0 0), (vi 0 0), (vr 165), (.bool false), (vi 181 0), (vr 166), vn, vn, vn, vn, (vi 388 0), (vi 30 0), (vs "/claim/cut.py" 389)]
def o168 : Obj := ⟨(vt "frame"), none, .plain, #[some (vr 167), some (vr 3), some (vr 164), none, some (vs "readround.errors" 194), none, some (vr 0)]⟩
def o169 : Obj := ob_tu []
def o170 : Obj := ob_fi vn []
def o171 : Obj := ob_tu [(vs "self" 398), (vs "name" 399), (vs "due" 400), (vs "room" 401)]
def o172 : Obj := ob_tu []
def o173 : Obj := ob_fu vn (inClass (topS 13) 0) "__init__" "NeverDone.__init__" 0 vn vn vn vn none vn vn
def o174 : Obj := ob_co [(vs "__init__" 395), (vs "NeverDone.__init__" 396), (vs "/claim/cut.py" 397), (vi 32 0), (vi 4 0), (vi 0 0), (vi 0 0), (vi 3 0), (vr 169), (.bool true), (vi 181 0), (vr 170), vn, (vr 171), (vr 172), (vr 173), (vi 402 0), (vi 32 0), (vs "/claim/cut.py" 403)]
def o175 : Obj := ob_fu (vt "function") (inClass (topS 13) 0) "__init__" "NeverDone.__init__" 3 vn vn vn (vs "readround.errors" 194) none (vr 174) vn
def o176 : Obj := ob_tu [(vs "due" 405), (vs "name" 406), (vs "room" 407)]
def o177 (P : Params) : Obj := ob_di [en P "__module__" 390 (vs "readround.errors" 194), en P "__firstlineno__" 394 (vi 30 393), en P "__init__" 404 (vr 175), en P "__static_attributes__" 408 (vr 176), en P "__doc__" 409 vn] 2
def o178 : Obj := ⟨(vt "type"), none, .cls (ClassData.mk (Str.ofString "NeverDone") [(vr 31)] [(vr 178), (vr 31), (vt "ValueError"), (vt "Exception"), (vt "BaseException"), (vt "object")] 177 (Str.ofString "NeverDone") true [] [] false none false), #[some (vr 162), none, some (vs "NeverDone" 383), some (vs "NeverDone" 391), some (vb "ValueError.__new__"), some (.bool true)]⟩
def o179 : Obj := ob_fi (vt "super") [(vr 178), (vr 178), (vr 178)]
def o180 : Obj := ob_fi (vt "builtin_function_or_method") [(vb "object.__init_subclass__"), (vr 178)]
def o181 : Obj := ob_tu [(vr 31)]
def o182 : Obj := ob_fi (vt "builtin_function_or_method") [(vb "type.__prepare__"), (vt "type")]
def o183 (P : Params) : Obj := ob_di [en P "__module__" 419 (vs "readround.errors" 194), en P "__qualname__" 421 (vs "TooFar" 420), en P "__firstlineno__" 423 (vi 37 422), en P "__static_attributes__" 424 (vr 188)] 4
def o184 : Obj := ob_tu []
def o185 : Obj := ob_fi vn []
def o186 : Obj := ob_co [(vs "TooFar" 414), (vs "TooFar" 415), (vs "/claim/cut.py" 416), (vi 37 0), (vi 0 0), (vi 0 0), (vi 0 0), (vi 0 0), (vr 184), (.bool false), (vi 181 0), (vr 185), vn, vn, vn, vn, (vi 417 0), (vi 37 0), (vs "/claim/cut.py" 418)]
def o187 : Obj := ⟨(vt "frame"), none, .plain, #[some (vr 186), some (vr 3), some (vr 183), none, some (vs "readround.errors" 194), none, some (vr 0)]⟩
def o188 : Obj := ob_tu []
def o189 (P : Params) : Obj := ob_di [en P "__module__" 419 (vs "readround.errors" 194), en P "__firstlineno__" 423 (vi 37 422), en P "__static_attributes__" 424 (vr 188), en P "__doc__" 425 vn] 2
def o190 : Obj := ⟨(vt "type"), none, .cls (ClassData.mk (Str.ofString "TooFar") [(vr 31)] [(vr 190), (vr 31), (vt "ValueError"), (vt "Exception"), (vt "BaseException"), (vt "object")] 189 (Str.ofString "TooFar") true [] [] false none false), #[some (vr 181), none, some (vs "TooFar" 412), some (vs "TooFar" 420), some (vb "ValueError.__new__"), some (.bool true)]⟩
def o191 : Obj := ob_fi (vt "super") [(vr 190), (vr 190), (vr 190)]
def o192 : Obj := ob_fi (vt "builtin_function_or_method") [(vb "object.__init_subclass__"), (vr 190)]
def o193 : Obj := ob_tu [(vr 31)]
def o194 : Obj := ob_fi (vt "builtin_function_or_method") [(vb "type.__prepare__"), (vt "type")]
def o195 (P : Params) : Obj := ob_di [en P "__module__" 435 (vs "readround.errors" 194), en P "__qualname__" 437 (vs "NoDeed" 436), en P "__firstlineno__" 439 (vi 39 438), en P "__static_attributes__" 440 (vr 200)] 4
def o196 : Obj := ob_tu []
def o197 : Obj := ob_fi vn []
def o198 : Obj := ob_co [(vs "NoDeed" 430), (vs "NoDeed" 431), (vs "/claim/cut.py" 432), (vi 39 0), (vi 0 0), (vi 0 0), (vi 0 0), (vi 0 0), (vr 196), (.bool false), (vi 181 0), (vr 197), vn, vn, vn, vn, (vi 433 0), (vi 39 0), (vs "/claim/cut.py" 434)]
def o199 : Obj := ⟨(vt "frame"), none, .plain, #[some (vr 198), some (vr 3), some (vr 195), none, some (vs "readround.errors" 194), none, some (vr 0)]⟩
def o200 : Obj := ob_tu []
def o201 (P : Params) : Obj := ob_di [en P "__module__" 435 (vs "readround.errors" 194), en P "__firstlineno__" 439 (vi 39 438), en P "__static_attributes__" 440 (vr 200), en P "__doc__" 441 vn] 2
def o202 : Obj := ⟨(vt "type"), none, .cls (ClassData.mk (Str.ofString "NoDeed") [(vr 31)] [(vr 202), (vr 31), (vt "ValueError"), (vt "Exception"), (vt "BaseException"), (vt "object")] 201 (Str.ofString "NoDeed") true [] [] false none false), #[some (vr 193), none, some (vs "NoDeed" 428), some (vs "NoDeed" 436), some (vb "ValueError.__new__"), some (.bool true)]⟩
def o203 : Obj := ob_fi (vt "super") [(vr 202), (vr 202), (vr 202)]
def o204 : Obj := ob_fi (vt "builtin_function_or_method") [(vb "object.__init_subclass__"), (vr 202)]
def o3_2 (P : Params) : Obj := ob_di [en P "__name__" 165 (vs "law_readround_k01_books_known" 667), en P "__doc__" 166 vn, en P "__package__" 167 vn, en P "__loader__" 168 (vb "__main__.__loader__#opaque"), en P "__spec__" 169 vn, en P "__annotations__" 170 (vr 6), en P "__builtins__" 171 (vr 4), en P "__file__" 173 (vs "/claim/cut.py" 172), en P "__cached__" 174 vn, en P "_wall" 193 (vr 21), en P "ReadError" 213 (vr 31), en P "BadBook" 229 (vr 44), en P "BadCalendar" 245 (vr 56), en P "BadFeast" 261 (vr 68), en P "BadRow" 277 (vr 80), en P "BadHouse" 293 (vr 92), en P "BadNumber" 309 (vr 104), en P "NoDay" 325 (vr 116), en P "NoRow" 341 (vr 128), en P "NoPiece" 357 (vr 140), en P "TooTight" 382 (vr 159), en P "NeverDone" 411 (vr 178), en P "TooFar" 427 (vr 190), en P "NoDeed" 443 (vr 202), en P "BadText" 468 (vr 221), en P "is_number" 479 (vr 230), en P "are_numbers" 485 (vr 235), en P "MOST_SECTIONS" 489 (vi 60 488), en P "LONGEST" 493 (vi 1000000000000 492), en P "is_section" 500 (vr 242), en P "are_sections" 506 (vr 247), en P "Book" 578 (vr 304), en P "need_day" 587 (vr 315), en P "Calendar" 666 (vr 372), en P "_law_state" 680 (vr 383), en P "_law_next" 689 (vr 390), en P "_law_pick" 697 (vr 397), en P "_law_word" 703 (vr 402), en P "_law_sections" 718 (vr 409), en P "_law_is_book" 726 (vr 416), en P "_law_odd_section" 738 (vr 423), en P "_law_spoiled" 749 (vr 430)] 42
def o12_3 : Obj := ob_fi vn [(vi 1 0), (vi 0 0), (vr 20), (vi 5 0), (vi 0 0), (vr 27), (vi 7 0), (vi 0 0), (vr 40), (vi 9 0), (vi 0 0), (vr 52), (vi 11 0), (vi 0 0), (vr 64), (vi 13 0), (vi 0 0), (vr 76), (vi 15 0), (vi 0 0), (vr 88), (vi 17 0), (vi 0 0), (vr 100), (vi 19 0), (vi 0 0), (vr 112), (vi 21 0), (vi 0 0), (vr 124), (vi 23 0), (vi 0 0), (vr 136), (vi 25 0), (vi 0 0), (vr 148), (vi 30 0), (vi 0 0), (vr 167), (vi 37 0), (vi 0 0), (vr 186), (vi 39 0), (vi 0 0), (vr 198), (vi 41 0), (vi 0 0), (vr 210), (vi 47 0), (vi 0 0), (vr 229), (vi 49 0), (vi 0 0), (vr 234), (vi 56 0), (vi 0 0), (vr 241), (vi 60 0), (vi 0 0), (vr 246), (vi 64 0), (vi 0 0), (vr 253), (vi 91 0), (vi 0 0), (vr 314), (vi 94 0), (vi 0 0), (vr 321), (vi 130 0), (vi 0 0), (vr 382), (vi 139 0), (vi 0 0), (vr 389), (vi 143 0), (vi 0 0), (vr 396), (vi 145 0), (vi 0 0), (vr 401), (vi 154 0), (vi 0 0), (vr 408), (vi 169 0), (vi 0 0), (vr 415), (vi 178 0), (vi 0 0), (vr 422), (vi 183 0), (vi 0 0), (vr 429)]
def o31_2 : Obj := ⟨(vt "type"), none, .cls (ClassData.mk (Str.ofString "ReadError") [(vt "ValueError")] [(vr 31), (vt "ValueError"), (vt "Exception"), (vt "BaseException"), (vt "object")] 30 (Str.ofString "ReadError") true [] [(vr 44), (vr 56), (vr 68), (vr 80), (vr 92), (vr 104), (vr 116), (vr 128), (vr 140), (vr 159), (vr 178), (vr 190), (vr 202), (vr 221)] false none false), #[some (vr 22), none, some (vs "ReadError" 196), some (vs "ReadError" 204), some (vb "ValueError.__new__"), some (.bool true)]⟩
def o205 : Obj := ob_tu [(vr 31)]
def o206 : Obj := ob_fi (vt "builtin_function_or_method") [(vb "type.__prepare__"), (vt "type")]
def o207 (P : Params) : Obj := ob_di [en P "__module__" 451 (vs "readround.errors" 194), en P "__qualname__" 453 (vs "BadText" 452), en P "__firstlineno__" 455 (vi 41 454), en P "__init__" 463 (vr 218), en P "__static_attributes__" 465 (vr 219)] 5
def o208 : Obj := ob_tu []
def o209 : Obj := ob_fi vn [(vi 43 0), (vi 4 0), (vr 217)]
def o210 : Obj := ob_co [(vs "BadText" 446), (vs "BadText" 447), (vs "/claim/cut.py" 448), (vi 41 0), (vi 0 0), (vi 0 0), (vi 0 0), (vi 0 0), (vr 208), (.bool false), (vi 181 0), (vr 209), vn, vn, vn, vn, (vi 449 0), (vi 41 0), (vs "/claim/cut.py" 450)]
def o211 : Obj := ⟨(vt "frame"), none, .plain, #[some (vr 210), some (vr 3), some (vr 207), none, some (vs "readround.errors" 194), none, some (vr 0)]⟩
def o212 : Obj := ob_tu []
def o213 : Obj := ob_fi vn []
def o214 : Obj := ob_tu [(vs "self" 459), (vs "place" 460)]
def o215 : Obj := ob_tu []
def o216 : Obj := ob_fu vn (inClass (topS 16) 0) "__init__" "BadText.__init__" 0 vn vn vn vn none vn vn
def o217 : Obj := ob_co [(vs "__init__" 456), (vs "BadText.__init__" 457), (vs "/claim/cut.py" 458), (vi 43 0), (vi 2 0), (vi 0 0), (vi 0 0), (vi 3 0), (vr 212), (.bool true), (vi 181 0), (vr 213), vn, (vr 214), (vr 215), (vr 216), (vi 461 0), (vi 43 0), (vs "/claim/cut.py" 462)]
def o218 : Obj := ob_fu (vt "function") (inClass (topS 16) 0) "__init__" "BadText.__init__" 3 vn vn vn (vs "readround.errors" 194) none (vr 217) vn
def o219 : Obj := ob_tu [(vs "place" 464)]
def o220 (P : Params) : Obj := ob_di [en P "__module__" 451 (vs "readround.errors" 194), en P "__firstlineno__" 455 (vi 41 454), en P "__init__" 463 (vr 218), en P "__static_attributes__" 465 (vr 219), en P "__doc__" 466 vn] 2
def o221 : Obj := ⟨(vt "type"), none, .cls (ClassData.mk (Str.ofString "BadText") [(vr 31)] [(vr 221), (vr 31), (vt "ValueError"), (vt "Exception"), (vt "BaseException"), (vt "object")] 220 (Str.ofString "BadText") true [] [] false none false), #[some (vr 205), none, some (vs "BadText" 444), some (vs "BadText" 452), some (vb "ValueError.__new__"), some (.bool true)]⟩
def o222 : Obj := ob_fi (vt "super") [(vr 221), (vr 221), (vr 221)]
def o223 : Obj := ob_fi (vt "builtin_function_or_method") [(vb "object.__init_subclass__"), (vr 221)]
def o224 : Obj := ob_tu []
def o225 : Obj := ob_fi vn []
def o226 : Obj := ob_tu [(vs "thing" 474), (vs "least" 475), (vs "most" 476)]
def o227 : Obj := ob_tu []
def o228 : Obj := ob_fu vn (topS 18) "is_number" "is_number" 0 vn vn vn vn none vn vn
def o229 : Obj := ob_co [(vs "is_number" 471), (vs "is_number" 472), (vs "/claim/cut.py" 473), (vi 47 0), (vi 3 0), (vi 0 0), (vi 0 0), (vi 3 0), (vr 224), (.bool true), (vi 181 0), (vr 225), vn, (vr 226), (vr 227), (vr 228), (vi 477 0), (vi 47 0), (vs "/claim/cut.py" 478)]
def o230 : Obj := ob_fu (vt "function") (topS 18) "is_number" "is_number" 3 vn vn vn (vs "readround.kinds" 469) none (vr 229) vn
def o231 : Obj := ob_tu []
def o232 : Obj := ob_fi vn []
def o233 : Obj := ob_fu vn (topS 19) "are_numbers" "are_numbers" 0 vn vn vn vn none vn vn
def o234 : Obj := ob_co [(vs "are_numbers" 480), (vs "are_numbers" 481), (vs "/claim/cut.py" 482), (vi 49 0), (vi 4 0), (vi 0 0), (vi 0 0), (vi 3 0), (vr 231), (.bool true), (vi 181 0), (vr 232), vn, vn, vn, (vr 233), (vi 483 0), (vi 49 0), (vs "/claim/cut.py" 484)]
def o235 : Obj := ob_fu (vt "function") (topS 19) "are_numbers" "are_numbers" 3 vn vn vn (vs "readround.kinds" 469) none (vr 234) vn
def o236 : Obj := ob_tu []
def o237 : Obj := ob_fi vn []
def o238 : Obj := ob_tu [(vs "thing" 497)]
def o239 : Obj := ob_tu []
def o240 : Obj := ob_fu vn (topS 23) "is_section" "is_section" 0 vn vn vn vn none vn vn
def o241 : Obj := ob_co [(vs "is_section" 494), (vs "is_section" 495), (vs "/claim/cut.py" 496), (vi 56 0), (vi 1 0), (vi 0 0), (vi 0 0), (vi 3 0), (vr 236), (.bool true), (vi 181 0), (vr 237), vn, (vr 238), (vr 239), (vr 240), (vi 498 0), (vi 56 0), (vs "/claim/cut.py" 499)]
def o242 : Obj := ob_fu (vt "function") (topS 23) "is_section" "is_section" 3 vn vn vn (vs "readround.books" 486) none (vr 241) vn
def o243 : Obj := ob_tu []
def o244 : Obj := ob_fi vn []
def o245 : Obj := ob_fu vn (topS 24) "are_sections" "are_sections" 0 vn vn vn vn none vn vn
def o246 : Obj := ob_co [(vs "are_sections" 501), (vs "are_sections" 502), (vs "/claim/cut.py" 503), (vi 60 0), (vi 1 0), (vi 0 0), (vi 0 0), (vi 3 0), (vr 243), (.bool true), (vi 181 0), (vr 244), vn, vn, vn, (vr 245), (vi 504 0), (vi 60 0), (vs "/claim/cut.py" 505)]
def o247 : Obj := ob_fu (vt "function") (topS 24) "are_sections" "are_sections" 3 vn vn vn (vs "readround.books" 486) none (vr 246) vn
def o248 : Obj := ob_tu []
def o249 : Obj := ob_fi (vt "builtin_function_or_method") [(vb "type.__prepare__"), (vt "type")]
def o250 (P : Params) : Obj := ob_di [en P "__module__" 514 (vs "readround.books" 486), en P "__qualname__" 516 (vs "Book" 515), en P "__firstlineno__" 518 (vi 64 517), en P "__init__" 526 (vr 261), en P "__eq__" 534 (vr 268), en P "__len__" 541 (vr 275), en P "many" 548 (vr 282), en P "sections" 555 (vr 289), en P "long" 561 (vr 294), en P "blocks" 568 (vr 301), en P "__static_attributes__" 570 (vr 302)] 11
def o251 : Obj := ob_tu []
def o252 : Obj := ob_fi vn [(vi 66 0), (vi 4 0), (vr 260), (vi 71 0), (vi 4 0), (vr 267), (vi 74 0), (vi 4 0), (vr 274), (vi 77 0), (vi 4 0), (vr 281), (vi 80 0), (vi 4 0), (vr 288), (vi 83 0), (vi 4 0), (vr 293), (vi 88 0), (vi 4 0), (vr 300)]
def o253 : Obj := ob_co [(vs "Book" 509), (vs "Book" 510), (vs "/claim/cut.py" 511), (vi 64 0), (vi 0 0), (vi 0 0), (vi 0 0), (vi 0 0), (vr 251), (.bool false), (vi 181 0), (vr 252), vn, vn, vn, vn, (vi 512 0), (vi 64 0), (vs "/claim/cut.py" 513)]
def o254 : Obj := ⟨(vt "frame"), none, .plain, #[some (vr 253), some (vr 3), some (vr 250), none, some (vs "readround.books" 486), none, some (vr 0)]⟩
def o255 : Obj := ob_tu []
def o256 : Obj := ob_fi vn []
def o257 : Obj := ob_tu [(vs "self" 522), (vs "sections" 523)]
def o258 : Obj := ob_tu []
def o259 : Obj := ob_fu vn (inClass (topS 25) 0) "__init__" "Book.__init__" 0 vn vn vn vn none vn vn
def o260 : Obj := ob_co [(vs "__init__" 519), (vs "Book.__init__" 520), (vs "/claim/cut.py" 521), (vi 66 0), (vi 2 0), (vi 0 0), (vi 0 0), (vi 3 0), (vr 255), (.bool true), (vi 181 0), (vr 256), vn, (vr 257), (vr 258), (vr 259), (vi 524 0), (vi 66 0), (vs "/claim/cut.py" 525)]
def o261 : Obj := ob_fu (vt "function") (inClass (topS 25) 0) "__init__" "Book.__init__" 3 vn vn vn (vs "readround.books" 486) none (vr 260) vn
def o262 : Obj := ob_tu []
def o263 : Obj := ob_fi vn []
def o264 : Obj := ob_tu [(vs "self" 530), (vs "other" 531)]
def o265 : Obj := ob_tu []
def o266 : Obj := ob_fu vn (inClass (topS 25) 1) "__eq__" "Book.__eq__" 0 vn vn vn vn none vn vn
def o267 : Obj := ob_co [(vs "__eq__" 527), (vs "Book.__eq__" 528), (vs "/claim/cut.py" 529), (vi 71 0), (vi 2 0), (vi 0 0), (vi 0 0), (vi 3 0), (vr 262), (.bool true), (vi 181 0), (vr 263), vn, (vr 264), (vr 265), (vr 266), (vi 532 0), (vi 71 0), (vs "/claim/cut.py" 533)]
def o268 : Obj := ob_fu (vt "function") (inClass (topS 25) 1) "__eq__" "Book.__eq__" 3 vn vn vn (vs "readround.books" 486) none (vr 267) vn
def o269 : Obj := ob_tu []
def o270 : Obj := ob_fi vn []
def o271 : Obj := ob_tu [(vs "self" 538)]
def o272 : Obj := ob_tu []
def o273 : Obj := ob_fu vn (inClass (topS 25) 2) "__len__" "Book.__len__" 0 vn vn vn vn none vn vn
def o274 : Obj := ob_co [(vs "__len__" 535), (vs "Book.__len__" 536), (vs "/claim/cut.py" 537), (vi 74 0), (vi 1 0), (vi 0 0), (vi 0 0), (vi 3 0), (vr 269), (.bool true), (vi 181 0), (vr 270), vn, (vr 271), (vr 272), (vr 273), (vi 539 0), (vi 74 0), (vs "/claim/cut.py" 540)]
def o275 : Obj := ob_fu (vt "function") (inClass (topS 25) 2) "__len__" "Book.__len__" 3 vn vn vn (vs "readround.books" 486) none (vr 274) vn
def o276 : Obj := ob_tu []
def o277 : Obj := ob_fi vn []
def o278 : Obj := ob_tu [(vs "self" 545)]
def o279 : Obj := ob_tu []
def o280 : Obj := ob_fu vn (inClass (topS 25) 3) "many" "Book.many" 0 vn vn vn vn none vn vn
def o281 : Obj := ob_co [(vs "many" 542), (vs "Book.many" 543), (vs "/claim/cut.py" 544), (vi 77 0), (vi 1 0), (vi 0 0), (vi 0 0), (vi 3 0), (vr 276), (.bool true), (vi 181 0), (vr 277), vn, (vr 278), (vr 279), (vr 280), (vi 546 0), (vi 77 0), (vs "/claim/cut.py" 547)]
def o282 : Obj := ob_fu (vt "function") (inClass (topS 25) 3) "many" "Book.many" 3 vn vn vn (vs "readround.books" 486) none (vr 281) vn
def o283 : Obj := ob_tu []
def o284 : Obj := ob_fi vn []
def o285 : Obj := ob_tu [(vs "self" 552)]
def o286 : Obj := ob_tu []
def o287 : Obj := ob_fu vn (inClass (topS 25) 4) "sections" "Book.sections" 0 vn vn vn vn none vn vn
def o288 : Obj := ob_co [(vs "sections" 549), (vs "Book.sections" 550), (vs "/claim/cut.py" 551), (vi 80 0), (vi 1 0), (vi 0 0), (vi 0 0), (vi 3 0), (vr 283), (.bool true), (vi 181 0), (vr 284), vn, (vr 285), (vr 286), (vr 287), (vi 553 0), (vi 80 0), (vs "/claim/cut.py" 554)]
def o289 : Obj := ob_fu (vt "function") (inClass (topS 25) 4) "sections" "Book.sections" 3 vn vn vn (vs "readround.books" 486) none (vr 288) vn
def o290 : Obj := ob_tu []
def o291 : Obj := ob_fi vn []
def o292 : Obj := ob_fu vn (inClass (topS 25) 5) "long" "Book.long" 0 vn vn vn vn none vn vn
def o293 : Obj := ob_co [(vs "long" 556), (vs "Book.long" 557), (vs "/claim/cut.py" 558), (vi 83 0), (vi 3 0), (vi 0 0), (vi 0 0), (vi 3 0), (vr 290), (.bool true), (vi 181 0), (vr 291), vn, vn, vn, (vr 292), (vi 559 0), (vi 83 0), (vs "/claim/cut.py" 560)]
def o294 : Obj := ob_fu (vt "function") (inClass (topS 25) 5) "long" "Book.long" 3 vn vn vn (vs "readround.books" 486) none (vr 293) vn
def o295 : Obj := ob_tu []
def o296 : Obj := ob_fi vn []
def o297 : Obj := ob_tu [(vs "self" 565)]
def o298 : Obj := ob_tu []
def o299 : Obj := ob_fu vn (inClass (topS 25) 6) "blocks" "Book.blocks" 0 vn vn vn vn none vn vn
def o300 : Obj := ob_co [(vs "blocks" 562), (vs "Book.blocks" 563), (vs "/claim/cut.py" 564), (vi 88 0), (vi 1 0), (vi 0 0), (vi 0 0), (vi 3 0), (vr 295), (.bool true), (vi 181 0), (vr 296), vn, (vr 297), (vr 298), (vr 299), (vi 566 0), (vi 88 0), (vs "/claim/cut.py" 567)]
def o301 : Obj := ob_fu (vt "function") (inClass (topS 25) 6) "blocks" "Book.blocks" 3 vn vn vn (vs "readround.books" 486) none (vr 300) vn
def o302 : Obj := ob_tu [(vs "parts" 569)]
def o303 (P : Params) : Obj := ob_di [en P "__module__" 514 (vs "readround.books" 486), en P "__firstlineno__" 518 (vi 64 517), en P "__init__" 526 (vr 261), en P "__eq__" 534 (vr 268), en P "__len__" 541 (vr 275), en P "many" 548 (vr 282), en P "sections" 555 (vr 289), en P "long" 561 (vr 294), en P "blocks" 568 (vr 301), en P "__static_attributes__" 570 (vr 302), en P "__dict__" 572 (vr 305), en P "__weakref__" 574 (vr 306), en P "__doc__" 575 vn, en P "__hash__" 576 vn] 5
def o304 : Obj := ⟨(vt "type"), none, .cls (ClassData.mk (Str.ofString "Book") [(vt "object")] [(vr 304), (vt "object")] 303 (Str.ofString "Book") true [] [] false none false), #[none, none, some (vs "Book" 507), some (vs "Book" 515), some (vb "object.__new__"), some (.bool true)]⟩
def o305 : Obj := ob_fi (vt "getset_descriptor") [(vs "__dict__" 571), (vr 304), (vb "function.__dict__"), (vb "function.__dict__#set")]
def o306 : Obj := ob_fi (vt "getset_descriptor") [(vs "__weakref__" 573), (vr 304), (vb "ExceptionGroup.__weakref__"), vn]
def o307 : Obj := ob_fi (vt "super") [(vr 304), (vr 304), (vr 304)]
def o308 : Obj := ob_fi (vt "builtin_function_or_method") [(vb "object.__init_subclass__"), (vr 304)]
def o309 : Obj := ob_tu []
def o310 : Obj := ob_fi vn []
def o311 : Obj := ob_tu [(vs "number" 584)]
def o312 : Obj := ob_tu []
def o313 : Obj := ob_fu vn (topS 27) "need_day" "need_day" 0 vn vn vn vn none vn vn
def o314 : Obj := ob_co [(vs "need_day" 581), (vs "need_day" 582), (vs "/claim/cut.py" 583), (vi 91 0), (vi 1 0), (vi 0 0), (vi 0 0), (vi 3 0), (vr 309), (.bool true), (vi 181 0), (vr 310), vn, (vr 311), (vr 312), (vr 313), (vi 585 0), (vi 91 0), (vs "/claim/cut.py" 586)]
def o315 : Obj := ob_fu (vt "function") (topS 27) "need_day" "need_day" 3 vn vn vn (vs "readround.calendars" 579) none (vr 314) vn
def o316 : Obj := ob_tu []
def o317 : Obj := ob_fi (vt "builtin_function_or_method") [(vb "type.__prepare__"), (vt "type")]
def o318 (P : Params) : Obj := ob_di [en P "__module__" 595 (vs "readround.calendars" 579), en P "__qualname__" 597 (vs "Calendar" 596), en P "__firstlineno__" 599 (vi 94 598), en P "__init__" 608 (vr 329), en P "__eq__" 616 (vr 336), en P "years" 623 (vr 343), en P "turn" 630 (vr 350), en P "long" 638 (vr 357), en P "first" 648 (vr 364), en P "at" 654 (vr 369), en P "__static_attributes__" 658 (vr 370)] 11
def o319 : Obj := ob_tu []
def o320 : Obj := ob_fi vn [(vi 96 0), (vi 4 0), (vr 328), (vi 106 0), (vi 4 0), (vr 335), (vi 109 0), (vi 4 0), (vr 342), (vi 112 0), (vi 4 0), (vr 349), (vi 115 0), (vi 4 0), (vr 356), (vi 119 0), (vi 4 0), (vr 363), (vi 124 0), (vi 4 0), (vr 368)]
def o321 : Obj := ob_co [(vs "Calendar" 590), (vs "Calendar" 591), (vs "/claim/cut.py" 592), (vi 94 0), (vi 0 0), (vi 0 0), (vi 0 0), (vi 0 0), (vr 319), (.bool false), (vi 181 0), (vr 320), vn, vn, vn, vn, (vi 593 0), (vi 94 0), (vs "/claim/cut.py" 594)]
def o322 : Obj := ⟨(vt "frame"), none, .plain, #[some (vr 321), some (vr 3), some (vr 318), none, some (vs "readround.calendars" 579), none, some (vr 0)]⟩
def o323 : Obj := ob_tu []
def o324 : Obj := ob_fi vn []
def o325 : Obj := ob_tu [(vs "self" 603), (vs "years" 604), (vs "days" 605)]
def o326 : Obj := ob_tu []
def o327 : Obj := ob_fu vn (inClass (topS 28) 0) "__init__" "Calendar.__init__" 0 vn vn vn vn none vn vn
def o328 : Obj := ob_co [(vs "__init__" 600), (vs "Calendar.__init__" 601), (vs "/claim/cut.py" 602), (vi 96 0), (vi 2 0), (vi 0 0), (vi 0 0), (vi 3 0), (vr 323), (.bool true), (vi 181 0), (vr 324), vn, (vr 325), (vr 326), (vr 327), (vi 606 0), (vi 96 0), (vs "/claim/cut.py" 607)]
def o329 : Obj := ob_fu (vt "function") (inClass (topS 28) 0) "__init__" "Calendar.__init__" 3 vn vn vn (vs "readround.calendars" 579) none (vr 328) vn
def o330 : Obj := ob_tu []
def o331 : Obj := ob_fi vn []
def o332 : Obj := ob_tu [(vs "self" 612), (vs "other" 613)]
def o333 : Obj := ob_tu []
def o334 : Obj := ob_fu vn (inClass (topS 28) 1) "__eq__" "Calendar.__eq__" 0 vn vn vn vn none vn vn
def o335 : Obj := ob_co [(vs "__eq__" 609), (vs "Calendar.__eq__" 610), (vs "/claim/cut.py" 611), (vi 106 0), (vi 2 0), (vi 0 0), (vi 0 0), (vi 3 0), (vr 330), (.bool true), (vi 181 0), (vr 331), vn, (vr 332), (vr 333), (vr 334), (vi 614 0), (vi 106 0), (vs "/claim/cut.py" 615)]
def o336 : Obj := ob_fu (vt "function") (inClass (topS 28) 1) "__eq__" "Calendar.__eq__" 3 vn vn vn (vs "readround.calendars" 579) none (vr 335) vn
def o337 : Obj := ob_tu []
def o338 : Obj := ob_fi vn []
def o339 : Obj := ob_tu [(vs "self" 620)]
def o340 : Obj := ob_tu []
def o341 : Obj := ob_fu vn (inClass (topS 28) 2) "years" "Calendar.years" 0 vn vn vn vn none vn vn
def o342 : Obj := ob_co [(vs "years" 617), (vs "Calendar.years" 618), (vs "/claim/cut.py" 619), (vi 109 0), (vi 1 0), (vi 0 0), (vi 0 0), (vi 3 0), (vr 337), (.bool true), (vi 181 0), (vr 338), vn, (vr 339), (vr 340), (vr 341), (vi 621 0), (vi 109 0), (vs "/claim/cut.py" 622)]
def o343 : Obj := ob_fu (vt "function") (inClass (topS 28) 2) "years" "Calendar.years" 3 vn vn vn (vs "readround.calendars" 579) none (vr 342) vn
def o344 : Obj := ob_tu []
def o345 : Obj := ob_fi vn []
def o346 : Obj := ob_tu [(vs "self" 627)]
def o347 : Obj := ob_tu []
def o348 : Obj := ob_fu vn (inClass (topS 28) 3) "turn" "Calendar.turn" 0 vn vn vn vn none vn vn
def o349 : Obj := ob_co [(vs "turn" 624), (vs "Calendar.turn" 625), (vs "/claim/cut.py" 626), (vi 112 0), (vi 1 0), (vi 0 0), (vi 0 0), (vi 3 0), (vr 344), (.bool true), (vi 181 0), (vr 345), vn, (vr 346), (vr 347), (vr 348), (vi 628 0), (vi 112 0), (vs "/claim/cut.py" 629)]
def o350 : Obj := ob_fu (vt "function") (inClass (topS 28) 3) "turn" "Calendar.turn" 3 vn vn vn (vs "readround.calendars" 579) none (vr 349) vn
def o351 : Obj := ob_tu []
def o352 : Obj := ob_fi vn []
def o353 : Obj := ob_tu [(vs "self" 634), (vs "year" 635)]
def o354 : Obj := ob_tu []
def o355 : Obj := ob_fu vn (inClass (topS 28) 4) "long" "Calendar.long" 0 vn vn vn vn none vn vn
def o356 : Obj := ob_co [(vs "long" 631), (vs "Calendar.long" 632), (vs "/claim/cut.py" 633), (vi 115 0), (vi 2 0), (vi 0 0), (vi 0 0), (vi 3 0), (vr 351), (.bool true), (vi 181 0), (vr 352), vn, (vr 353), (vr 354), (vr 355), (vi 636 0), (vi 115 0), (vs "/claim/cut.py" 637)]
def o357 : Obj := ob_fu (vt "function") (inClass (topS 28) 4) "long" "Calendar.long" 3 vn vn vn (vs "readround.calendars" 579) none (vr 356) vn
def o358 : Obj := ob_tu []
def o359 : Obj := ob_fi vn []
def o360 : Obj := ob_tu [(vs "self" 642), (vs "year" 643), (vs "turns" 644), (vs "place" 645)]
def o361 : Obj := ob_tu []
def o362 : Obj := ob_fu vn (inClass (topS 28) 5) "first" "Calendar.first" 0 vn vn vn vn none vn vn
def o363 : Obj := ob_co [(vs "first" 639), (vs "Calendar.first" 640), (vs "/claim/cut.py" 641), (vi 119 0), (vi 2 0), (vi 0 0), (vi 0 0), (vi 3 0), (vr 358), (.bool true), (vi 181 0), (vr 359), vn, (vr 360), (vr 361), (vr 362), (vi 646 0), (vi 119 0), (vs "/claim/cut.py" 647)]
def o364 : Obj := ob_fu (vt "function") (inClass (topS 28) 5) "first" "Calendar.first" 3 vn vn vn (vs "readround.calendars" 579) none (vr 363) vn
def o365 : Obj := ob_tu []
def o366 : Obj := ob_fi vn []
def o367 : Obj := ob_fu vn (inClass (topS 28) 6) "at" "Calendar.at" 0 vn vn vn vn none vn vn
def o368 : Obj := ob_co [(vs "at" 649), (vs "Calendar.at" 650), (vs "/claim/cut.py" 651), (vi 124 0), (vi 2 0), (vi 0 0), (vi 0 0), (vi 3 0), (vr 365), (.bool true), (vi 181 0), (vr 366), vn, vn, vn, (vr 367), (vi 652 0), (vi 124 0), (vs "/claim/cut.py" 653)]
def o369 : Obj := ob_fu (vt "function") (inClass (topS 28) 6) "at" "Calendar.at" 3 vn vn vn (vs "readround.calendars" 579) none (vr 368) vn
def o370 : Obj := ob_tu [(vs "begins" 655), (vs "lengths" 656), (vs "whole" 657)]
def o371 (P : Params) : Obj := ob_di [en P "__module__" 595 (vs "readround.calendars" 579), en P "__firstlineno__" 599 (vi 94 598), en P "__init__" 608 (vr 329), en P "__eq__" 616 (vr 336), en P "years" 623 (vr 343), en P "turn" 630 (vr 350), en P "long" 638 (vr 357), en P "first" 648 (vr 364), en P "at" 654 (vr 369), en P "__static_attributes__" 658 (vr 370), en P "__dict__" 660 (vr 373), en P "__weakref__" 662 (vr 374), en P "__doc__" 663 vn, en P "__hash__" 664 vn] 5
def o372 : Obj := ⟨(vt "type"), none, .cls (ClassData.mk (Str.ofString "Calendar") [(vt "object")] [(vr 372), (vt "object")] 371 (Str.ofString "Calendar") true [] [] false none false), #[none, none, some (vs "Calendar" 588), some (vs "Calendar" 596), some (vb "object.__new__"), some (.bool true)]⟩
def o373 : Obj := ob_fi (vt "getset_descriptor") [(vs "__dict__" 659), (vr 372), (vb "function.__dict__"), (vb "function.__dict__#set")]
def o374 : Obj := ob_fi (vt "getset_descriptor") [(vs "__weakref__" 661), (vr 372), (vb "ExceptionGroup.__weakref__"), vn]
def o375 : Obj := ob_fi (vt "super") [(vr 372), (vr 372), (vr 372)]
def o376 : Obj := ob_fi (vt "builtin_function_or_method") [(vb "object.__init_subclass__"), (vr 372)]
def o377 : Obj := ob_tu []
def o378 : Obj := ob_fi vn []
def o379 : Obj := ob_tu [(vs "_law_script" 672), (vs "_law_k" 673), (vs "_law_cell" 674), (vs "_law_found" 675), (vs "_law_j" 676), (vs "_law_one" 677)]
def o380 : Obj := ob_tu []
def o381 : Obj := ob_fu vn (topS 30) "_law_state" "_law_state" 0 vn vn vn vn none vn vn
def o382 : Obj := ob_co [(vs "_law_state" 669), (vs "_law_state" 670), (vs "/claim/cut.py" 671), (vi 130 0), (vi 2 0), (vi 0 0), (vi 0 0), (vi 3 0), (vr 377), (.bool true), (vi 181 0), (vr 378), vn, (vr 379), (vr 380), (vr 381), (vi 678 0), (vi 130 0), (vs "/claim/cut.py" 679)]
def o383 : Obj := ob_fu (vt "function") (topS 30) "_law_state" "_law_state" 3 vn vn vn (vs "law_readround_k01_books_known" 667) none (vr 382) vn
def o384 : Obj := ob_tu []
def o385 : Obj := ob_fi vn []
def o386 : Obj := ob_tu [(vs "_law_draw" 684), (vs "_law_amount" 685), (vs "_law_found" 686)]
def o387 : Obj := ob_tu []
def o388 : Obj := ob_fu vn (topS 31) "_law_next" "_law_next" 0 vn vn vn vn none vn vn
def o389 : Obj := ob_co [(vs "_law_next" 681), (vs "_law_next" 682), (vs "/claim/cut.py" 683), (vi 139 0), (vi 2 0), (vi 0 0), (vi 0 0), (vi 3 0), (vr 384), (.bool true), (vi 181 0), (vr 385), vn, (vr 386), (vr 387), (vr 388), (vi 687 0), (vi 139 0), (vs "/claim/cut.py" 688)]
def o390 : Obj := ob_fu (vt "function") (topS 31) "_law_next" "_law_next" 3 vn vn vn (vs "law_readround_k01_books_known" 667) none (vr 389) vn
def o391 : Obj := ob_tu []
def o392 : Obj := ob_fi vn []
def o393 : Obj := ob_tu [(vs "_law_draw" 693), (vs "_law_some" 694)]
def o394 : Obj := ob_tu []
def o395 : Obj := ob_fu vn (topS 32) "_law_pick" "_law_pick" 0 vn vn vn vn none vn vn
def o396 : Obj := ob_co [(vs "_law_pick" 690), (vs "_law_pick" 691), (vs "/claim/cut.py" 692), (vi 143 0), (vi 2 0), (vi 0 0), (vi 0 0), (vi 3 0), (vr 391), (.bool true), (vi 181 0), (vr 392), vn, (vr 393), (vr 394), (vr 395), (vi 695 0), (vi 143 0), (vs "/claim/cut.py" 696)]
def o397 : Obj := ob_fu (vt "function") (topS 32) "_law_pick" "_law_pick" 3 vn vn vn (vs "law_readround_k01_books_known" 667) none (vr 396) vn
def o398 : Obj := ob_tu []
def o399 : Obj := ob_fi vn []
def o400 : Obj := ob_fu vn (topS 33) "_law_word" "_law_word" 0 vn vn vn vn none vn vn
def o401 : Obj := ob_co [(vs "_law_word" 698), (vs "_law_word" 699), (vs "/claim/cut.py" 700), (vi 145 0), (vi 1 0), (vi 0 0), (vi 0 0), (vi 3 0), (vr 398), (.bool true), (vi 181 0), (vr 399), vn, vn, vn, (vr 400), (vi 701 0), (vi 145 0), (vs "/claim/cut.py" 702)]
def o402 : Obj := ob_fu (vt "function") (topS 33) "_law_word" "_law_word" 3 vn vn vn (vs "law_readround_k01_books_known" 667) none (vr 401) vn
def o403 : Obj := ob_tu []
def o404 : Obj := ob_fi vn []
def o405 : Obj := ob_tu [(vs "_law_draw" 707), (vs "_law_most" 708), (vs "_law_size" 709), (vs "_law_top" 710), (vs "_law_share" 711), (vs "_law_many" 712), (vs "_law_found" 713), (vs "_law_k" 714), (vs "_law_at" 715)]
def o406 : Obj := ob_tu []
def o407 : Obj := ob_fu vn (topS 34) "_law_sections" "_law_sections" 0 vn vn vn vn none vn vn
def o408 : Obj := ob_co [(vs "_law_sections" 704), (vs "_law_sections" 705), (vs "/claim/cut.py" 706), (vi 154 0), (vi 2 0), (vi 0 0), (vi 0 0), (vi 3 0), (vr 403), (.bool true), (vi 181 0), (vr 404), vn, (vr 405), (vr 406), (vr 407), (vi 716 0), (vi 154 0), (vs "/claim/cut.py" 717)]
def o409 : Obj := ob_fu (vt "function") (topS 34) "_law_sections" "_law_sections" 3 vn vn vn (vs "law_readround_k01_books_known" 667) none (vr 408) vn
def o410 : Obj := ob_tu []
def o411 : Obj := ob_fi vn []
def o412 : Obj := ob_tu [(vs "_law_thing" 722), (vs "_law_one" 723)]
def o413 : Obj := ob_tu []
def o414 : Obj := ob_fu vn (topS 35) "_law_is_book" "_law_is_book" 0 vn vn vn vn none vn vn
def o415 : Obj := ob_co [(vs "_law_is_book" 719), (vs "_law_is_book" 720), (vs "/claim/cut.py" 721), (vi 169 0), (vi 1 0), (vi 0 0), (vi 0 0), (vi 3 0), (vr 410), (.bool true), (vi 181 0), (vr 411), vn, (vr 412), (vr 413), (vr 414), (vi 724 0), (vi 169 0), (vs "/claim/cut.py" 725)]
def o416 : Obj := ob_fu (vt "function") (topS 35) "_law_is_book" "_law_is_book" 3 vn vn vn (vs "law_readround_k01_books_known" 667) none (vr 415) vn
def o417 : Obj := ob_tu []
def o418 : Obj := ob_fi vn []
def o419 : Obj := ob_tu [(vs "_law_way" 730), (vs "_law_one" 731), (vs "_law_more" 732), (vs "_law_long" 733), (vs "_law_tied" 734), (vs "_law_some" 735)]
def o420 : Obj := ob_tu []
def o421 : Obj := ob_fu vn (topS 36) "_law_odd_section" "_law_odd_section" 0 vn vn vn vn none vn vn
def o422 : Obj := ob_co [(vs "_law_odd_section" 727), (vs "_law_odd_section" 728), (vs "/claim/cut.py" 729), (vi 178 0), (vi 3 0), (vi 0 0), (vi 0 0), (vi 3 0), (vr 417), (.bool true), (vi 181 0), (vr 418), vn, (vr 419), (vr 420), (vr 421), (vi 736 0), (vi 178 0), (vs "/claim/cut.py" 737)]
def o423 : Obj := ob_fu (vt "function") (topS 36) "_law_odd_section" "_law_odd_section" 3 vn vn vn (vs "law_readround_k01_books_known" 667) none (vr 422) vn
def o424 : Obj := ob_tu []
def o425 : Obj := ob_fi vn []
def o426 : Obj := ob_tu [(vs "_law_draw" 742), (vs "_law_sections_here" 743), (vs "_law_way" 744), (vs "_law_at" 745), (vs "_law_more" 746)]
def o427 : Obj := ob_tu []
def o428 : Obj := ob_fu vn (topS 37) "_law_spoiled" "_law_spoiled" 0 vn vn vn vn none vn vn
def o429 : Obj := ob_co [(vs "_law_spoiled" 739), (vs "_law_spoiled" 740), (vs "/claim/cut.py" 741), (vi 183 0), (vi 2 0), (vi 0 0), (vi 0 0), (vi 3 0), (vr 424), (.bool true), (vi 181 0), (vr 425), vn, (vr 426), (vr 427), (vr 428), (vi 747 0), (vi 183 0), (vs "/claim/cut.py" 748)]
def o430 : Obj := ob_fu (vt "function") (topS 37) "_law_spoiled" "_law_spoiled" 3 vn vn vn (vs "law_readround_k01_books_known" 667) none (vr 429) vn
def o3_3 (P : Params) : Obj := ob_di [en P "__name__" 165 (vs "law_readround_k01_books_known" 667), en P "__doc__" 166 vn, en P "__package__" 167 vn, en P "__loader__" 168 (vb "__main__.__loader__#opaque"), en P "__spec__" 169 vn, en P "__annotations__" 170 (vr 6), en P "__builtins__" 171 (vr 4), en P "__file__" 173 (vs "/claim/cut.py" 172), en P "__cached__" 174 vn, en P "_wall" 193 (vr 21), en P "ReadError" 213 (vr 31), en P "BadBook" 229 (vr 44), en P "BadCalendar" 245 (vr 56), en P "BadFeast" 261 (vr 68), en P "BadRow" 277 (vr 80), en P "BadHouse" 293 (vr 92), en P "BadNumber" 309 (vr 104), en P "NoDay" 325 (vr 116), en P "NoRow" 341 (vr 128), en P "NoPiece" 357 (vr 140), en P "TooTight" 382 (vr 159), en P "NeverDone" 411 (vr 178), en P "TooFar" 427 (vr 190), en P "NoDeed" 443 (vr 202), en P "BadText" 468 (vr 221), en P "is_number" 479 (vr 230), en P "are_numbers" 485 (vr 235), en P "MOST_SECTIONS" 489 (vi 60 488), en P "LONGEST" 493 (vi 1000000000000 492), en P "is_section" 500 (vr 242), en P "are_sections" 506 (vr 247), en P "Book" 578 (vr 304), en P "need_day" 587 (vr 315), en P "Calendar" 666 (vr 372), en P "_law_state" 680 (vr 383), en P "_law_next" 689 (vr 390), en P "_law_pick" 697 (vr 397), en P "_law_word" 703 (vr 402), en P "_law_sections" 718 (vr 409), en P "_law_is_book" 726 (vr 416), en P "_law_odd_section" 738 (vr 423), en P "_law_spoiled" 749 (vr 430), en P "_law_right" 755 (vr 435), en P "_law_equal" 761 (vr 440), en P "law" 773 (vr 447)] 45
def o12_4 : Obj := ob_fi vn [(vi 1 0), (vi 0 0), (vr 20), (vi 5 0), (vi 0 0), (vr 27), (vi 7 0), (vi 0 0), (vr 40), (vi 9 0), (vi 0 0), (vr 52), (vi 11 0), (vi 0 0), (vr 64), (vi 13 0), (vi 0 0), (vr 76), (vi 15 0), (vi 0 0), (vr 88), (vi 17 0), (vi 0 0), (vr 100), (vi 19 0), (vi 0 0), (vr 112), (vi 21 0), (vi 0 0), (vr 124), (vi 23 0), (vi 0 0), (vr 136), (vi 25 0), (vi 0 0), (vr 148), (vi 30 0), (vi 0 0), (vr 167), (vi 37 0), (vi 0 0), (vr 186), (vi 39 0), (vi 0 0), (vr 198), (vi 41 0), (vi 0 0), (vr 210), (vi 47 0), (vi 0 0), (vr 229), (vi 49 0), (vi 0 0), (vr 234), (vi 56 0), (vi 0 0), (vr 241), (vi 60 0), (vi 0 0), (vr 246), (vi 64 0), (vi 0 0), (vr 253), (vi 91 0), (vi 0 0), (vr 314), (vi 94 0), (vi 0 0), (vr 321), (vi 130 0), (vi 0 0), (vr 382), (vi 139 0), (vi 0 0), (vr 389), (vi 143 0), (vi 0 0), (vr 396), (vi 145 0), (vi 0 0), (vr 401), (vi 154 0), (vi 0 0), (vr 408), (vi 169 0), (vi 0 0), (vr 415), (vi 178 0), (vi 0 0), (vr 422), (vi 183 0), (vi 0 0), (vr 429), (vi 200 0), (vi 0 0), (vr 434), (vi 227 0), (vi 0 0), (vr 439), (vi 240 0), (vi 0 0), (vr 446)]
def o431 : Obj := ob_tu []
def o432 : Obj := ob_fi vn []
def o433 : Obj := ob_fu vn (topS 38) "_law_right" "_law_right" 0 vn vn vn vn none vn vn
def o434 : Obj := ob_co [(vs "_law_right" 750), (vs "_law_right" 751), (vs "/claim/cut.py" 752), (vi 200 0), (vi 1 0), (vi 0 0), (vi 0 0), (vi 3 0), (vr 431), (.bool true), (vi 181 0), (vr 432), vn, vn, vn, (vr 433), (vi 753 0), (vi 200 0), (vs "/claim/cut.py" 754)]
def o435 : Obj := ob_fu (vt "function") (topS 38) "_law_right" "_law_right" 3 vn vn vn (vs "law_readround_k01_books_known" 667) none (vr 434) vn
def o436 : Obj := ob_tu []
def o437 : Obj := ob_fi vn []
def o438 : Obj := ob_fu vn (topS 39) "_law_equal" "_law_equal" 0 vn vn vn vn none vn vn
def o439 : Obj := ob_co [(vs "_law_equal" 756), (vs "_law_equal" 757), (vs "/claim/cut.py" 758), (vi 227 0), (vi 2 0), (vi 0 0), (vi 0 0), (vi 3 0), (vr 436), (.bool true), (vi 181 0), (vr 437), vn, vn, vn, (vr 438), (vi 759 0), (vi 227 0), (vs "/claim/cut.py" 760)]
def o440 : Obj := ob_fu (vt "function") (topS 39) "_law_equal" "_law_equal" 3 vn vn vn (vs "law_readround_k01_books_known" 667) none (vr 439) vn
def o441 : Obj := ob_tu []
def o442 : Obj := ob_fi vn []
def o443 : Obj := ob_tu [(vs "_law_script" 765), (vs "_law_k" 766), (vs "_law_draw" 767), (vs "_law_spoil" 768), (vs "_law_at" 769), (vs "_law_sections_here" 770)]
def o444 : Obj := ob_tu []
def o445 : Obj := ob_fu vn (topS 40) "law" "law" 0 vn vn vn vn none vn vn
def o446 : Obj := ob_co [(vs "law" 762), (vs "law" 763), (vs "/claim/cut.py" 764), (vi 240 0), (vi 1 0), (vi 0 0), (vi 0 0), (vi 3 0), (vr 441), (.bool true), (vi 181 0), (vr 442), vn, (vr 443), (vr 444), (vr 445), (vi 771 0), (vi 240 0), (vs "/claim/cut.py" 772)]
def o447 : Obj := ob_fu (vt "function") (topS 40) "law" "law" 3 vn vn vn (vs "law_readround_k01_books_known" 667) none (vr 446) vn
def TB (P : Params) : BT := (bn (boot_o_0 P) (bn (boot_o_1 P) (bn (boot_o_3 P) (bn (boot_o_7 P) bz bz) bz) (bn (boot_o_5 P) (bn (boot_o_9 P) bz bz) bz)) (bn (boot_o_2 P) (bn (boot_o_4 P) (bn (boot_o_8 P) bz bz) bz) (bn (boot_o_6 P) (bn (boot_o_10 P) bz bz) bz)))
def T0 (P : Params) : BT := (bn (boot_o_0 P) (bn (boot_o_1 P) (bn (boot_o_3 P) (bn (boot_o_7 P) bz bz) (bn o11 bz bz)) (bn (boot_o_5 P) (bn (boot_o_9 P) bz bz) (bn o13 bz bz))) (bn (boot_o_2 P) (bn (boot_o_4 P) (bn (boot_o_8 P) bz bz) (bn o12 bz bz)) (bn (boot_o_6 P) (bn (boot_o_10 P) bz bz) (bn o14 bz bz))))
abbrev T1 : Params → BT := T0
def T2 (P : Params) : BT := (bn (boot_o_0 P) (bn (boot_o_1 P) (bn (o3 P) (bn (boot_o_7 P) (bn o15 (bn o31 (bn o63 bz bz) (bn o95 bz bz)) (bn o47 (bn (o79 P) bz bz) bz)) (bn o23 (bn o39 (bn o71 bz bz) (bn (o103 P) bz bz)) (bn (o55 P) (bn o87 bz bz) bz))) (bn o11 (bn o19 (bn o35 (bn (o67 P) bz bz) (bn o99 bz bz)) (bn o51 (bn o83 bz bz) bz)) (bn o27 (bn (o43 P) (bn o75 bz bz) bz) (bn o59 (bn (o91 P) bz bz) bz)))) (bn (boot_o_5 P) (bn (boot_o_9 P) (bn o17 (bn o33 (bn o65 bz bz) (bn (o97 P) bz bz)) (bn (o49 P) (bn o81 bz bz) bz)) (bn o25 (bn o41 (bn (o73 P) bz bz) (bn o105 bz bz)) (bn o57 (bn o89 bz bz) bz))) (bn o13 (bn o21 (bn (o37 P) (bn o69 bz bz) (bn o101 bz bz)) (bn o53 (bn (o85 P) bz bz) bz)) (bn o29 (bn o45 (bn o77 bz bz) bz) (bn (o61 P) (bn o93 bz bz) bz))))) (bn (boot_o_2 P) (bn (boot_o_4 P) (bn (boot_o_8 P) (bn o16 (bn o32 (bn o64 bz bz) (bn o96 bz bz)) (bn o48 (bn o80 bz bz) bz)) (bn (o24 P) (bn o40 (bn o72 bz bz) (bn o104 bz bz)) (bn o56 (bn o88 bz bz) bz))) (bn o12_1 (bn o20 (bn o36 (bn o68 bz bz) (bn o100 bz bz)) (bn o52 (bn o84 bz bz) bz)) (bn o28 (bn o44 (bn o76 bz bz) bz) (bn o60 (bn o92 bz bz) bz)))) (bn (boot_o_6 P) (bn (boot_o_10 P) (bn o18 (bn o34 (bn o66 bz bz) (bn o98 bz bz)) (bn o50 (bn o82 bz bz) bz)) (bn o26 (bn o42 (bn o74 bz bz) (bn o106 bz bz)) (bn o58 (bn o90 bz bz) bz))) (bn o14 (bn o22 (bn o38 (bn o70 bz bz) (bn o102 bz bz)) (bn o54 (bn o86 bz bz) bz)) (bn (o30 P) (bn o46 (bn o78 bz bz) bz) (bn o62 (bn o94 bz bz) bz))))))
def T3 (P : Params) : BT := (bn (boot_o_0 P) (bn (boot_o_1 P) (bn (o3_1 P) (bn (boot_o_7 P) (bn o15 (bn o31_1 (bn o63 (bn (o127 P) bz bz) (bn o191 bz bz)) (bn o95 (bn o159 bz bz) bz)) (bn o47 (bn (o79 P) (bn o143 bz bz) bz) (bn o111 (bn o175 bz bz) bz))) (bn o23 (bn o39 (bn o71 (bn o135 bz bz) (bn o199 bz bz)) (bn (o103 P) (bn o167 bz bz) bz)) (bn (o55 P) (bn o87 (bn o151 bz bz) bz) (bn o119 (bn (o183 P) bz bz) bz)))) (bn o11 (bn o19 (bn o35 (bn (o67 P) (bn o131 bz bz) (bn (o195 P) bz bz)) (bn o99 (bn o163 bz bz) bz)) (bn o51 (bn o83 (bn o147 bz bz) bz) (bn (o115 P) (bn o179 bz bz) bz))) (bn o27 (bn (o43 P) (bn o75 (bn (o139 P) bz bz) (bn o203 bz bz)) (bn o107 (bn o171 bz bz) bz)) (bn o59 (bn (o91 P) (bn o155 bz bz) bz) (bn o123 (bn o187 bz bz) bz))))) (bn (boot_o_5 P) (bn (boot_o_9 P) (bn o17 (bn o33 (bn o65 (bn o129 bz bz) (bn o193 bz bz)) (bn (o97 P) (bn o161 bz bz) bz)) (bn (o49 P) (bn o81 (bn (o145 P) bz bz) bz) (bn o113 (bn (o177 P) bz bz) bz))) (bn o25 (bn o41 (bn (o73 P) (bn o137 bz bz) (bn (o201 P) bz bz)) (bn o105 (bn o169 bz bz) bz)) (bn o57 (bn o89 (bn o153 bz bz) bz) (bn (o121 P) (bn o185 bz bz) bz)))) (bn o13 (bn o21 (bn (o37 P) (bn o69 (bn (o133 P) bz bz) (bn o197 bz bz)) (bn o101 (bn o165 bz bz) bz)) (bn o53 (bn (o85 P) (bn o149 bz bz) bz) (bn o117 (bn o181 bz bz) bz))) (bn o29 (bn o45 (bn o77 (bn o141 bz bz) bz) (bn (o109 P) (bn o173 bz bz) bz)) (bn (o61 P) (bn o93 (bn o157 bz bz) bz) (bn o125 (bn (o189 P) bz bz) bz)))))) (bn (boot_o_2 P) (bn (boot_o_4 P) (bn (boot_o_8 P) (bn o16 (bn o32 (bn o64 (bn o128 bz bz) (bn o192 bz bz)) (bn o96 (bn o160 bz bz) bz)) (bn o48 (bn o80 (bn o144 bz bz) bz) (bn o112 (bn o176 bz bz) bz))) (bn (o24 P) (bn o40 (bn o72 (bn o136 bz bz) (bn o200 bz bz)) (bn o104 (bn o168 bz bz) bz)) (bn o56 (bn o88 (bn o152 bz bz) bz) (bn o120 (bn o184 bz bz) bz)))) (bn o12_2 (bn o20 (bn o36 (bn o68 (bn o132 bz bz) (bn o196 bz bz)) (bn o100 (bn (o164 P) bz bz) bz)) (bn o52 (bn o84 (bn o148 bz bz) bz) (bn o116 (bn o180 bz bz) bz))) (bn o28 (bn o44 (bn o76 (bn o140 bz bz) (bn o204 bz bz)) (bn o108 (bn o172 bz bz) bz)) (bn o60 (bn o92 (bn o156 bz bz) bz) (bn o124 (bn o188 bz bz) bz))))) (bn (boot_o_6 P) (bn (boot_o_10 P) (bn o18 (bn o34 (bn o66 (bn o130 bz bz) (bn o194 bz bz)) (bn o98 (bn o162 bz bz) bz)) (bn o50 (bn o82 (bn o146 bz bz) bz) (bn o114 (bn o178 bz bz) bz))) (bn o26 (bn o42 (bn o74 (bn o138 bz bz) (bn o202 bz bz)) (bn o106 (bn o170 bz bz) bz)) (bn o58 (bn o90 (bn o154 bz bz) bz) (bn o122 (bn o186 bz bz) bz)))) (bn o14 (bn o22 (bn o38 (bn o70 (bn o134 bz bz) (bn o198 bz bz)) (bn o102 (bn o166 bz bz) bz)) (bn o54 (bn o86 (bn o150 bz bz) bz) (bn o118 (bn o182 bz bz) bz))) (bn (o30 P) (bn o46 (bn o78 (bn o142 bz bz) bz) (bn o110 (bn o174 bz bz) bz)) (bn o62 (bn o94 (bn (o158 P) bz bz) bz) (bn o126 (bn o190 bz bz) bz)))))))
def T4 (P : Params) : BT := (bn (boot_o_0 P) (bn (boot_o_1 P) (bn (o3_2 P) (bn (boot_o_7 P) (bn o15 (bn o31_2 (bn o63 (bn (o127 P) (bn o255 bz bz) (bn o383 bz bz)) (bn o191 (bn o319 bz bz) bz)) (bn o95 (bn o159 (bn o287 bz bz) (bn o415 bz bz)) (bn o223 (bn o351 bz bz) bz))) (bn o47 (bn (o79 P) (bn o143 (bn o271 bz bz) (bn o399 bz bz)) (bn (o207 P) (bn o335 bz bz) bz)) (bn o111 (bn o175 (bn (o303 P) bz bz) bz) (bn o239 (bn o367 bz bz) bz)))) (bn o23 (bn o39 (bn o71 (bn o135 (bn o263 bz bz) (bn o391 bz bz)) (bn o199 (bn o327 bz bz) bz)) (bn (o103 P) (bn o167 (bn o295 bz bz) (bn o423 bz bz)) (bn o231 (bn o359 bz bz) bz))) (bn (o55 P) (bn o87 (bn o151 (bn o279 bz bz) (bn o407 bz bz)) (bn o215 (bn o343 bz bz) bz)) (bn o119 (bn (o183 P) (bn o311 bz bz) bz) (bn o247 (bn o375 bz bz) bz))))) (bn o11 (bn o19 (bn o35 (bn (o67 P) (bn o131 (bn o259 bz bz) (bn o387 bz bz)) (bn (o195 P) (bn o323 bz bz) bz)) (bn o99 (bn o163 (bn o291 bz bz) (bn o419 bz bz)) (bn o227 (bn o355 bz bz) bz))) (bn o51 (bn o83 (bn o147 (bn o275 bz bz) (bn o403 bz bz)) (bn o211 (bn o339 bz bz) bz)) (bn (o115 P) (bn o179 (bn o307 bz bz) bz) (bn o243 (bn (o371 P) bz bz) bz)))) (bn o27 (bn (o43 P) (bn o75 (bn (o139 P) (bn o267 bz bz) (bn o395 bz bz)) (bn o203 (bn o331 bz bz) bz)) (bn o107 (bn o171 (bn o299 bz bz) (bn o427 bz bz)) (bn o235 (bn o363 bz bz) bz))) (bn o59 (bn (o91 P) (bn o155 (bn o283 bz bz) (bn o411 bz bz)) (bn o219 (bn o347 bz bz) bz)) (bn o123 (bn o187 (bn o315 bz bz) bz) (bn o251 (bn o379 bz bz) bz)))))) (bn (boot_o_5 P) (bn (boot_o_9 P) (bn o17 (bn o33 (bn o65 (bn o129 (bn o257 bz bz) (bn o385 bz bz)) (bn o193 (bn o321 bz bz) bz)) (bn (o97 P) (bn o161 (bn o289 bz bz) (bn o417 bz bz)) (bn o225 (bn o353 bz bz) bz))) (bn (o49 P) (bn o81 (bn (o145 P) (bn o273 bz bz) (bn o401 bz bz)) (bn o209 (bn o337 bz bz) bz)) (bn o113 (bn (o177 P) (bn o305 bz bz) bz) (bn o241 (bn o369 bz bz) bz)))) (bn o25 (bn o41 (bn (o73 P) (bn o137 (bn o265 bz bz) (bn o393 bz bz)) (bn (o201 P) (bn o329 bz bz) bz)) (bn o105 (bn o169 (bn o297 bz bz) (bn o425 bz bz)) (bn o233 (bn o361 bz bz) bz))) (bn o57 (bn o89 (bn o153 (bn o281 bz bz) (bn o409 bz bz)) (bn o217 (bn o345 bz bz) bz)) (bn (o121 P) (bn o185 (bn o313 bz bz) bz) (bn o249 (bn o377 bz bz) bz))))) (bn o13 (bn o21 (bn (o37 P) (bn o69 (bn (o133 P) (bn o261 bz bz) (bn o389 bz bz)) (bn o197 (bn o325 bz bz) bz)) (bn o101 (bn o165 (bn o293 bz bz) (bn o421 bz bz)) (bn o229 (bn o357 bz bz) bz))) (bn o53 (bn (o85 P) (bn o149 (bn o277 bz bz) (bn o405 bz bz)) (bn o213 (bn o341 bz bz) bz)) (bn o117 (bn o181 (bn o309 bz bz) bz) (bn o245 (bn o373 bz bz) bz)))) (bn o29 (bn o45 (bn o77 (bn o141 (bn o269 bz bz) (bn o397 bz bz)) (bn o205 (bn o333 bz bz) bz)) (bn (o109 P) (bn o173 (bn o301 bz bz) (bn o429 bz bz)) (bn o237 (bn o365 bz bz) bz))) (bn (o61 P) (bn o93 (bn o157 (bn o285 bz bz) (bn o413 bz bz)) (bn o221 (bn o349 bz bz) bz)) (bn o125 (bn (o189 P) (bn o317 bz bz) bz) (bn o253 (bn o381 bz bz) bz))))))) (bn (boot_o_2 P) (bn (boot_o_4 P) (bn (boot_o_8 P) (bn o16 (bn o32 (bn o64 (bn o128 (bn o256 bz bz) (bn o384 bz bz)) (bn o192 (bn o320 bz bz) bz)) (bn o96 (bn o160 (bn o288 bz bz) (bn o416 bz bz)) (bn o224 (bn o352 bz bz) bz))) (bn o48 (bn o80 (bn o144 (bn o272 bz bz) (bn o400 bz bz)) (bn o208 (bn o336 bz bz) bz)) (bn o112 (bn o176 (bn o304 bz bz) bz) (bn o240 (bn o368 bz bz) bz)))) (bn (o24 P) (bn o40 (bn o72 (bn o136 (bn o264 bz bz) (bn o392 bz bz)) (bn o200 (bn o328 bz bz) bz)) (bn o104 (bn o168 (bn o296 bz bz) (bn o424 bz bz)) (bn o232 (bn o360 bz bz) bz))) (bn o56 (bn o88 (bn o152 (bn o280 bz bz) (bn o408 bz bz)) (bn o216 (bn o344 bz bz) bz)) (bn o120 (bn o184 (bn o312 bz bz) bz) (bn o248 (bn o376 bz bz) bz))))) (bn o12_3 (bn o20 (bn o36 (bn o68 (bn o132 (bn o260 bz bz) (bn o388 bz bz)) (bn o196 (bn o324 bz bz) bz)) (bn o100 (bn (o164 P) (bn o292 bz bz) (bn o420 bz bz)) (bn o228 (bn o356 bz bz) bz))) (bn o52 (bn o84 (bn o148 (bn o276 bz bz) (bn o404 bz bz)) (bn o212 (bn o340 bz bz) bz)) (bn o116 (bn o180 (bn o308 bz bz) bz) (bn o244 (bn o372 bz bz) bz)))) (bn o28 (bn o44 (bn o76 (bn o140 (bn o268 bz bz) (bn o396 bz bz)) (bn o204 (bn o332 bz bz) bz)) (bn o108 (bn o172 (bn o300 bz bz) (bn o428 bz bz)) (bn o236 (bn o364 bz bz) bz))) (bn o60 (bn o92 (bn o156 (bn o284 bz bz) (bn o412 bz bz)) (bn (o220 P) (bn o348 bz bz) bz)) (bn o124 (bn o188 (bn o316 bz bz) bz) (bn o252 (bn o380 bz bz) bz)))))) (bn (boot_o_6 P) (bn (boot_o_10 P) (bn o18 (bn o34 (bn o66 (bn o130 (bn o258 bz bz) (bn o386 bz bz)) (bn o194 (bn o322 bz bz) bz)) (bn o98 (bn o162 (bn o290 bz bz) (bn o418 bz bz)) (bn o226 (bn o354 bz bz) bz))) (bn o50 (bn o82 (bn o146 (bn o274 bz bz) (bn o402 bz bz)) (bn o210 (bn o338 bz bz) bz)) (bn o114 (bn o178 (bn o306 bz bz) bz) (bn o242 (bn o370 bz bz) bz)))) (bn o26 (bn o42 (bn o74 (bn o138 (bn o266 bz bz) (bn o394 bz bz)) (bn o202 (bn o330 bz bz) bz)) (bn o106 (bn o170 (bn o298 bz bz) (bn o426 bz bz)) (bn o234 (bn o362 bz bz) bz))) (bn o58 (bn o90 (bn o154 (bn o282 bz bz) (bn o410 bz bz)) (bn o218 (bn o346 bz bz) bz)) (bn o122 (bn o186 (bn o314 bz bz) bz) (bn (o250 P) (bn o378 bz bz) bz))))) (bn o14 (bn o22 (bn o38 (bn o70 (bn o134 (bn o262 bz bz) (bn o390 bz bz)) (bn o198 (bn o326 bz bz) bz)) (bn o102 (bn o166 (bn o294 bz bz) (bn o422 bz bz)) (bn o230 (bn o358 bz bz) bz))) (bn o54 (bn o86 (bn o150 (bn o278 bz bz) (bn o406 bz bz)) (bn o214 (bn o342 bz bz) bz)) (bn o118 (bn o182 (bn o310 bz bz) bz) (bn o246 (bn o374 bz bz) bz)))) (bn (o30 P) (bn o46 (bn o78 (bn o142 (bn o270 bz bz) (bn o398 bz bz)) (bn o206 (bn o334 bz bz) bz)) (bn o110 (bn o174 (bn o302 bz bz) (bn o430 bz bz)) (bn o238 (bn o366 bz bz) bz))) (bn o62 (bn o94 (bn (o158 P) (bn o286 bz bz) (bn o414 bz bz)) (bn o222 (bn o350 bz bz) bz)) (bn o126 (bn o190 (bn (o318 P) bz bz) bz) (bn o254 (bn o382 bz bz) bz))))))))
def T5 (P : Params) : BT := (bn (boot_o_0 P) (bn (boot_o_1 P) (bn (o3_3 P) (bn (boot_o_7 P) (bn o15 (bn o31_2 (bn o63 (bn (o127 P) (bn o255 bz bz) (bn o383 bz bz)) (bn o191 (bn o319 bz bz) (bn o447 bz bz))) (bn o95 (bn o159 (bn o287 bz bz) (bn o415 bz bz)) (bn o223 (bn o351 bz bz) bz))) (bn o47 (bn (o79 P) (bn o143 (bn o271 bz bz) (bn o399 bz bz)) (bn (o207 P) (bn o335 bz bz) bz)) (bn o111 (bn o175 (bn (o303 P) bz bz) (bn o431 bz bz)) (bn o239 (bn o367 bz bz) bz)))) (bn o23 (bn o39 (bn o71 (bn o135 (bn o263 bz bz) (bn o391 bz bz)) (bn o199 (bn o327 bz bz) bz)) (bn (o103 P) (bn o167 (bn o295 bz bz) (bn o423 bz bz)) (bn o231 (bn o359 bz bz) bz))) (bn (o55 P) (bn o87 (bn o151 (bn o279 bz bz) (bn o407 bz bz)) (bn o215 (bn o343 bz bz) bz)) (bn o119 (bn (o183 P) (bn o311 bz bz) (bn o439 bz bz)) (bn o247 (bn o375 bz bz) bz))))) (bn o11 (bn o19 (bn o35 (bn (o67 P) (bn o131 (bn o259 bz bz) (bn o387 bz bz)) (bn (o195 P) (bn o323 bz bz) bz)) (bn o99 (bn o163 (bn o291 bz bz) (bn o419 bz bz)) (bn o227 (bn o355 bz bz) bz))) (bn o51 (bn o83 (bn o147 (bn o275 bz bz) (bn o403 bz bz)) (bn o211 (bn o339 bz bz) bz)) (bn (o115 P) (bn o179 (bn o307 bz bz) (bn o435 bz bz)) (bn o243 (bn (o371 P) bz bz) bz)))) (bn o27 (bn (o43 P) (bn o75 (bn (o139 P) (bn o267 bz bz) (bn o395 bz bz)) (bn o203 (bn o331 bz bz) bz)) (bn o107 (bn o171 (bn o299 bz bz) (bn o427 bz bz)) (bn o235 (bn o363 bz bz) bz))) (bn o59 (bn (o91 P) (bn o155 (bn o283 bz bz) (bn o411 bz bz)) (bn o219 (bn o347 bz bz) bz)) (bn o123 (bn o187 (bn o315 bz bz) (bn o443 bz bz)) (bn o251 (bn o379 bz bz) bz)))))) (bn (boot_o_5 P) (bn (boot_o_9 P) (bn o17 (bn o33 (bn o65 (bn o129 (bn o257 bz bz) (bn o385 bz bz)) (bn o193 (bn o321 bz bz) bz)) (bn (o97 P) (bn o161 (bn o289 bz bz) (bn o417 bz bz)) (bn o225 (bn o353 bz bz) bz))) (bn (o49 P) (bn o81 (bn (o145 P) (bn o273 bz bz) (bn o401 bz bz)) (bn o209 (bn o337 bz bz) bz)) (bn o113 (bn (o177 P) (bn o305 bz bz) (bn o433 bz bz)) (bn o241 (bn o369 bz bz) bz)))) (bn o25 (bn o41 (bn (o73 P) (bn o137 (bn o265 bz bz) (bn o393 bz bz)) (bn (o201 P) (bn o329 bz bz) bz)) (bn o105 (bn o169 (bn o297 bz bz) (bn o425 bz bz)) (bn o233 (bn o361 bz bz) bz))) (bn o57 (bn o89 (bn o153 (bn o281 bz bz) (bn o409 bz bz)) (bn o217 (bn o345 bz bz) bz)) (bn (o121 P) (bn o185 (bn o313 bz bz) (bn o441 bz bz)) (bn o249 (bn o377 bz bz) bz))))) (bn o13 (bn o21 (bn (o37 P) (bn o69 (bn (o133 P) (bn o261 bz bz) (bn o389 bz bz)) (bn o197 (bn o325 bz bz) bz)) (bn o101 (bn o165 (bn o293 bz bz) (bn o421 bz bz)) (bn o229 (bn o357 bz bz) bz))) (bn o53 (bn (o85 P) (bn o149 (bn o277 bz bz) (bn o405 bz bz)) (bn o213 (bn o341 bz bz) bz)) (bn o117 (bn o181 (bn o309 bz bz) (bn o437 bz bz)) (bn o245 (bn o373 bz bz) bz)))) (bn o29 (bn o45 (bn o77 (bn o141 (bn o269 bz bz) (bn o397 bz bz)) (bn o205 (bn o333 bz bz) bz)) (bn (o109 P) (bn o173 (bn o301 bz bz) (bn o429 bz bz)) (bn o237 (bn o365 bz bz) bz))) (bn (o61 P) (bn o93 (bn o157 (bn o285 bz bz) (bn o413 bz bz)) (bn o221 (bn o349 bz bz) bz)) (bn o125 (bn (o189 P) (bn o317 bz bz) (bn o445 bz bz)) (bn o253 (bn o381 bz bz) bz))))))) (bn (boot_o_2 P) (bn (boot_o_4 P) (bn (boot_o_8 P) (bn o16 (bn o32 (bn o64 (bn o128 (bn o256 bz bz) (bn o384 bz bz)) (bn o192 (bn o320 bz bz) bz)) (bn o96 (bn o160 (bn o288 bz bz) (bn o416 bz bz)) (bn o224 (bn o352 bz bz) bz))) (bn o48 (bn o80 (bn o144 (bn o272 bz bz) (bn o400 bz bz)) (bn o208 (bn o336 bz bz) bz)) (bn o112 (bn o176 (bn o304 bz bz) (bn o432 bz bz)) (bn o240 (bn o368 bz bz) bz)))) (bn (o24 P) (bn o40 (bn o72 (bn o136 (bn o264 bz bz) (bn o392 bz bz)) (bn o200 (bn o328 bz bz) bz)) (bn o104 (bn o168 (bn o296 bz bz) (bn o424 bz bz)) (bn o232 (bn o360 bz bz) bz))) (bn o56 (bn o88 (bn o152 (bn o280 bz bz) (bn o408 bz bz)) (bn o216 (bn o344 bz bz) bz)) (bn o120 (bn o184 (bn o312 bz bz) (bn o440 bz bz)) (bn o248 (bn o376 bz bz) bz))))) (bn o12_4 (bn o20 (bn o36 (bn o68 (bn o132 (bn o260 bz bz) (bn o388 bz bz)) (bn o196 (bn o324 bz bz) bz)) (bn o100 (bn (o164 P) (bn o292 bz bz) (bn o420 bz bz)) (bn o228 (bn o356 bz bz) bz))) (bn o52 (bn o84 (bn o148 (bn o276 bz bz) (bn o404 bz bz)) (bn o212 (bn o340 bz bz) bz)) (bn o116 (bn o180 (bn o308 bz bz) (bn o436 bz bz)) (bn o244 (bn o372 bz bz) bz)))) (bn o28 (bn o44 (bn o76 (bn o140 (bn o268 bz bz) (bn o396 bz bz)) (bn o204 (bn o332 bz bz) bz)) (bn o108 (bn o172 (bn o300 bz bz) (bn o428 bz bz)) (bn o236 (bn o364 bz bz) bz))) (bn o60 (bn o92 (bn o156 (bn o284 bz bz) (bn o412 bz bz)) (bn (o220 P) (bn o348 bz bz) bz)) (bn o124 (bn o188 (bn o316 bz bz) (bn o444 bz bz)) (bn o252 (bn o380 bz bz) bz)))))) (bn (boot_o_6 P) (bn (boot_o_10 P) (bn o18 (bn o34 (bn o66 (bn o130 (bn o258 bz bz) (bn o386 bz bz)) (bn o194 (bn o322 bz bz) bz)) (bn o98 (bn o162 (bn o290 bz bz) (bn o418 bz bz)) (bn o226 (bn o354 bz bz) bz))) (bn o50 (bn o82 (bn o146 (bn o274 bz bz) (bn o402 bz bz)) (bn o210 (bn o338 bz bz) bz)) (bn o114 (bn o178 (bn o306 bz bz) (bn o434 bz bz)) (bn o242 (bn o370 bz bz) bz)))) (bn o26 (bn o42 (bn o74 (bn o138 (bn o266 bz bz) (bn o394 bz bz)) (bn o202 (bn o330 bz bz) bz)) (bn o106 (bn o170 (bn o298 bz bz) (bn o426 bz bz)) (bn o234 (bn o362 bz bz) bz))) (bn o58 (bn o90 (bn o154 (bn o282 bz bz) (bn o410 bz bz)) (bn o218 (bn o346 bz bz) bz)) (bn o122 (bn o186 (bn o314 bz bz) (bn o442 bz bz)) (bn (o250 P) (bn o378 bz bz) bz))))) (bn o14 (bn o22 (bn o38 (bn o70 (bn o134 (bn o262 bz bz) (bn o390 bz bz)) (bn o198 (bn o326 bz bz) bz)) (bn o102 (bn o166 (bn o294 bz bz) (bn o422 bz bz)) (bn o230 (bn o358 bz bz) bz))) (bn o54 (bn o86 (bn o150 (bn o278 bz bz) (bn o406 bz bz)) (bn o214 (bn o342 bz bz) bz)) (bn o118 (bn o182 (bn o310 bz bz) (bn o438 bz bz)) (bn o246 (bn o374 bz bz) bz)))) (bn (o30 P) (bn o46 (bn o78 (bn o142 (bn o270 bz bz) (bn o398 bz bz)) (bn o206 (bn o334 bz bz) bz)) (bn o110 (bn o174 (bn o302 bz bz) (bn o430 bz bz)) (bn o238 (bn o366 bz bz) bz))) (bn o62 (bn o94 (bn (o158 P) (bn o286 bz bz) (bn o414 bz bz)) (bn o222 (bn o350 bz bz) bz)) (bn o126 (bn o190 (bn (o318 P) bz bz) (bn o446 bz bz)) (bn o254 (bn o382 bz bz) bz))))))))
noncomputable abbrev S0 (w : World) (os : OsState) : SharedT := stA' T0 15 187 w os
noncomputable abbrev S1 (w : World) (os : OsState) : SharedT := stA' T1 15 187 w os
noncomputable abbrev S2 (w : World) (os : OsState) : SharedT := stA' T2 107 310 w os
noncomputable abbrev S3 (w : World) (os : OsState) : SharedT := stA' T3 205 444 w os
noncomputable abbrev S4 (w : World) (os : OsState) : SharedT := stA' T4 431 750 w os
noncomputable abbrev S5 (w : World) (os : OsState) : SharedT := stA' T5 448 774 w os
theorem cpB (w : World) : putAll (boot_heap w.params).objs.toList .nil 0 = some (TB w.params, 11) := by kernel_rfl
theorem cpP (w : World) (os : OsState) : stepsF (stQ R.prog w) 11 (bootAnn w) 12 (bootT w os (TB w.params, 11)) (topStub R.prog) = some (S0 w os, ⟨denQ tabQ (cdOf R.prog env0), cdOf R.prog env0, ⟨0, 0, 0, 0⟩, [topFrame ⟨0, 0, 0, 0⟩]⟩) := by kernel_rfl
theorem cpK (w : World) (os : OsState) : pieceF (stQ R.prog w) 11 (bootAnn w) 1 1 (S0 w os) (blockOf (behindTheImports R.prog) env0 (cdOf R.prog env0) ⟨0, 0, 0, 0⟩ [topFrame ⟨0, 0, 0, 0⟩]) = some (.next, S1 w os, cdOf R.prog env0, ⟨0, 0, 0, 0⟩) := by kernel_rfl
set_option maxHeartbeats 0 in
theorem cp1 (w : World) (os : OsState) : pieceF (stQ R.prog w) 11 (bootAnn w) 1 1503 (S1 w os) (piecesOf (((behindTheImports R.prog).drop 0).take 9) env0 (cdOf R.prog env0) ⟨0, 0, 0, 0⟩ [topFrame ⟨0, 0, 0, 0⟩]) = some (.next, S2 w os, cdOf R.prog env0, ⟨17, 0, 18, 8⟩) := by kernel_rfl
set_option maxHeartbeats 0 in
theorem cp2 (w : World) (os : OsState) : pieceF (stQ R.prog w) 11 (bootAnn w) 1 1560 (S2 w os) (piecesOf (((behindTheImports R.prog).drop 9).take 7) env0 (cdOf R.prog env0) ⟨17, 0, 18, 8⟩ [topFrame ⟨0, 0, 0, 0⟩]) = some (.next, S3 w os, cdOf R.prog env0, ⟨39, 0, 40, 8⟩) := by kernel_rfl
set_option maxHeartbeats 0 in
theorem cp3 (w : World) (os : OsState) : pieceF (stQ R.prog w) 11 (bootAnn w) 1 1533 (S3 w os) (piecesOf (((behindTheImports R.prog).drop 16).take 22) env0 (cdOf R.prog env0) ⟨39, 0, 40, 8⟩ [topFrame ⟨0, 0, 0, 0⟩]) = some (.next, S4 w os, cdOf R.prog env0, ⟨183, 0, 199, 74⟩) := by kernel_rfl
set_option maxHeartbeats 0 in
theorem cp4 (w : World) (os : OsState) : pieceF (stQ R.prog w) 11 (bootAnn w) 1 87 (S4 w os) (piecesOf (((behindTheImports R.prog).drop 38).take 3) env0 (cdOf R.prog env0) ⟨183, 0, 199, 74⟩ [topFrame ⟨0, 0, 0, 0⟩]) = some (.next, S5 w os, cdOf R.prog env0, ⟨240, 0, 250, 15⟩) := by kernel_rfl
theorem cpL (w : World) (os : OsState) : goF (stQ R.prog w) 11 (bootAnn w) 5 (S5 w os) ⟨doneF .next, cdOf R.prog env0, ⟨240, 0, 250, 15⟩, [topFrame ⟨0, 0, 0, 0⟩]⟩ = some (S5 w os) := by kernel_rfl
noncomputable abbrev SE (w : World) (os : OsState) : SharedT := S5 w os
set_option maxHeartbeats 0 in
theorem cpTop (w : World) (os : OsState) : topRun treeTable R.prog w (boot_heap w.params).objs.size (bootAnn w) 100000 ⟨boot_heap w.params, #[], boot_drawn, boot_toks, os⟩ (topStub R.prog) = some (SE w os).abs :=
  cp_mono (N := 4701) rfl (cp_boot (cpB w) (cp_pre (cpP w os) (cp_block (cpK w os) (cp_piece (cp1 w os) (cp_piece (cp2 w os) (cp_piece (cp3 w os) (cp_piece (cp4 w os) (cp_last (by kernel_rfl) (cpL w os)))))))))
end
abbrev s_law_state : Stmt := topS 30
abbrev s_law_next : Stmt := topS 31
abbrev s_law_pick : Stmt := topS 32
abbrev s_law_sections : Stmt := topS 34
abbrev s_is_number : Stmt := topS 18
abbrev s_is_section : Stmt := topS 23
abbrev s_are_sections : Stmt := topS 24
abbrev s_Book_init : Stmt := inClass (topS 25) 0
abbrev s_law_is_book : Stmt := topS 35
abbrev s_law_word : Stmt := topS 33
abbrev s_Book_sections : Stmt := inClass (topS 25) 4
abbrev s_Book_many : Stmt := inClass (topS 25) 3
abbrev s_law_right : Stmt := topS 38
abbrev s_law_odd_section : Stmt := topS 36
abbrev s_law_spoiled : Stmt := topS 37
abbrev s_Book_eq : Stmt := inClass (topS 25) 1
abbrev s_are_numbers : Stmt := topS 19
abbrev s_Calendar_init : Stmt := inClass (topS 28) 0
abbrev s_Calendar_eq : Stmt := inClass (topS 28) 1
abbrev s_Book_len : Stmt := inClass (topS 25) 2
abbrev s_law_equal : Stmt := topS 39
abbrev s_law : Stmt := topS 40
def dd_law_state : He.DefD := ⟨("_law_state", none), "_law_state", "_law_state", defArgs s_law_state, defBody s_law_state, defScope s_law_state, [], []⟩
def dd_law_next : He.DefD := ⟨("_law_next", none), "_law_next", "_law_next", defArgs s_law_next, defBody s_law_next, defScope s_law_next, [], []⟩
def dd_law_pick : He.DefD := ⟨("_law_pick", none), "_law_pick", "_law_pick", defArgs s_law_pick, defBody s_law_pick, defScope s_law_pick, [], []⟩
def dd_law_sections : He.DefD := ⟨("_law_sections", none), "_law_sections", "_law_sections", defArgs s_law_sections, defBody s_law_sections, defScope s_law_sections, [], []⟩
def dd_is_number : He.DefD := ⟨("is_number", none), "is_number", "is_number", defArgs s_is_number, defBody s_is_number, defScope s_is_number, [], []⟩
def dd_is_section : He.DefD := ⟨("is_section", none), "is_section", "is_section", defArgs s_is_section, defBody s_is_section, defScope s_is_section, [], []⟩
def dd_are_sections : He.DefD := ⟨("are_sections", none), "are_sections", "are_sections", defArgs s_are_sections, defBody s_are_sections, defScope s_are_sections, [], []⟩
def dd_Book_init : He.DefD := ⟨("Book", some "__init__"), "__init__", "Book.__init__", defArgs s_Book_init, defBody s_Book_init, defScope s_Book_init, [], []⟩
def dd_law_is_book : He.DefD := ⟨("_law_is_book", none), "_law_is_book", "_law_is_book", defArgs s_law_is_book, defBody s_law_is_book, defScope s_law_is_book, [], []⟩
def dd_law_word : He.DefD := ⟨("_law_word", none), "_law_word", "_law_word", defArgs s_law_word, defBody s_law_word, defScope s_law_word, [], []⟩
def dd_Book_sections : He.DefD := ⟨("Book", some "sections"), "sections", "Book.sections", defArgs s_Book_sections, defBody s_Book_sections, defScope s_Book_sections, [], []⟩
def dd_Book_many : He.DefD := ⟨("Book", some "many"), "many", "Book.many", defArgs s_Book_many, defBody s_Book_many, defScope s_Book_many, [], []⟩
def dd_law_right : He.DefD := ⟨("_law_right", none), "_law_right", "_law_right", defArgs s_law_right, defBody s_law_right, defScope s_law_right, [], []⟩
def dd_law_odd_section : He.DefD := ⟨("_law_odd_section", none), "_law_odd_section", "_law_odd_section", defArgs s_law_odd_section, defBody s_law_odd_section, defScope s_law_odd_section, [], []⟩
def dd_law_spoiled : He.DefD := ⟨("_law_spoiled", none), "_law_spoiled", "_law_spoiled", defArgs s_law_spoiled, defBody s_law_spoiled, defScope s_law_spoiled, [], []⟩
def dd_Book_eq : He.DefD := ⟨("Book", some "__eq__"), "__eq__", "Book.__eq__", defArgs s_Book_eq, defBody s_Book_eq, defScope s_Book_eq, [], []⟩
def dd_are_numbers : He.DefD := ⟨("are_numbers", none), "are_numbers", "are_numbers", defArgs s_are_numbers, defBody s_are_numbers, defScope s_are_numbers, [], []⟩
def dd_Calendar_init : He.DefD := ⟨("Calendar", some "__init__"), "__init__", "Calendar.__init__", defArgs s_Calendar_init, defBody s_Calendar_init, defScope s_Calendar_init, [], []⟩
def dd_Calendar_eq : He.DefD := ⟨("Calendar", some "__eq__"), "__eq__", "Calendar.__eq__", defArgs s_Calendar_eq, defBody s_Calendar_eq, defScope s_Calendar_eq, [], []⟩
def dd_Book_len : He.DefD := ⟨("Book", some "__len__"), "__len__", "Book.__len__", defArgs s_Book_len, defBody s_Book_len, defScope s_Book_len, [], []⟩
def dd_law_equal : He.DefD := ⟨("_law_equal", none), "_law_equal", "_law_equal", defArgs s_law_equal, defBody s_law_equal, defScope s_law_equal, [], []⟩
def dd_law : He.DefD := ⟨("law", none), "law", "law", defArgs s_law, defBody s_law, defScope s_law, [], []⟩
def fns : List He.DefD := [dd_law_state, dd_law_next, dd_law_pick, dd_law_sections, dd_is_number, dd_is_section, dd_are_sections, dd_Book_init, dd_law_is_book, dd_law_word, dd_Book_sections, dd_Book_many, dd_law_right, dd_law_odd_section, dd_law_spoiled, dd_Book_eq, dd_are_numbers, dd_Calendar_init, dd_Calendar_eq, dd_Book_len, dd_law_equal, dd_law]
def fas : List He.Fa := [.free "len", .free "range", .glo "_law_next", .glo "_law_pick", .free "int", .free "isinstance", .free "bool", .glo "is_number", .free "tuple", .int "LONGEST" 1000000000000, .glo "is_section", .free "list", .int "MOST_SECTIONS" 60, .free "all", .glo "are_sections", .exc "BadBook", .glo "BadBook", .cls "Book", .noat "Book" "parts", .glo "BadRow", .glo "BadFeast", .glo "BadCalendar", .glo "NoRow", .glo "NoDay", .glo "BadNumber", .glo "BadHouse", .glo "NeverDone", .glo "TooTight", .glo "NoPiece", .glo "BadText", .glo "NoDeed", .glo "TooFar", .free "zip", .free "ValueError", .mkr "Book", .glo "_law_is_book", .glo "_law_word", .glo "ReadError", .glo "Book", .meth "Book" "sections", .meth "Book" "many", .free "str", .glo "_law_odd_section", .glo "are_numbers", .exc "BadCalendar", .cls "Calendar", .noat "Calendar" "lengths", .noat "Calendar" "begins", .noat "Calendar" "whole", .glo "Calendar", .mkr "Calendar", .meth "Book" "__eq__", .meth "Calendar" "__eq__", .meth "Book" "__len__", .glo "_law_state", .glo "_law_sections", .glo "_law_right", .glo "_law_spoiled", .glo "_law_equal", .free "min", .free "max", .glo "law"]
def loose : List PySem.Str := (["_wall", "ReadError", "BadBook", "BadCalendar", "BadFeast", "BadRow", "BadHouse", "BadNumber", "NoDay", "NoRow", "NoPiece", "TooTight", "NeverDone", "TooFar", "NoDeed", "BadText", "is_number", "are_numbers", "MOST_SECTIONS", "LONGEST", "is_section", "are_sections", "Book", "need_day", "Calendar", "_law_state", "_law_next", "_law_pick", "_law_word", "_law_sections"] : List PySem.Str) ++ (["_law_is_book", "_law_odd_section", "_law_spoiled", "_law_right", "_law_equal"] : List PySem.Str)
def adrs : List Addr := [3, 6, 4, 21, 31, 44, 56, 68, 80, 92, 104, 116, 128, 140, 159, 178, 190, 202, 221, 230, 235, 242, 247, 304, 315, 372, 383, 390, 397, 402, 409, 416, 423, 430, 435, 440, 447, 0, 20, 30, 43, 55, 67, 79, 91, 103, 115, 127, 139, 158, 177, 189, 201, 220, 229, 234, 241, 246, 303, 314, 371, 382, 389, 396, 401, 408, 415, 422, 429, 434, 439, 446, 15, 16, 17, 18, 19, 29, 32, 42, 54, 66, 78, 90, 102, 114, 126, 138, 156, 157, 175, 176, 188, 200, 218, 219, 224, 225, 226, 227, 228, 231, 232, 233, 236, 237, 238, 239, 240, 243, 244, 245, 261, 268, 275, 282, 289, 294, 301, 302, 305, 306, 309, 310, 311, 312, 313, 329, 336, 343, 350, 357, 364, 369, 370, 373, 374, 377, 378, 379, 380, 381, 384, 385, 386, 387, 388, 391, 392, 393, 394, 395, 398, 399, 400, 403, 404, 405, 406, 407, 410, 411, 412, 413, 414, 417, 418, 419, 420, 421, 424, 425, 426, 427, 428, 431, 432, 433, 436, 437, 438, 441, 442, 443, 444, 445, 155, 174, 217, 260, 267, 274, 281, 288, 293, 300, 328, 335, 342, 349, 356, 363, 368, 150, 151, 152, 153, 154, 169, 170, 171, 172, 173, 212, 213, 214, 215, 216, 255, 256, 257, 258, 259, 262, 263, 264, 265, 266, 269, 270, 271, 272, 273, 276, 277, 278, 279, 280, 283, 284, 285, 286, 287, 290, 291, 292, 295, 296, 297, 298, 299, 323, 324, 325, 326, 327, 330, 331, 332, 333, 334, 337, 338, 339, 340, 341, 344, 345, 346, 347, 348, 351, 352, 353, 354, 355, 358, 359, 360, 361, 362, 365, 366, 367, 2]
def exs : List (PySem.W.Frag → Bool) := [kexcB excNames, keqB "Book", keqB "Calendar", neB "Book", kneB "Book" "Calendar", kneB "Calendar" "Book"]
abbrev hk : PySem.W.Hook := hookL adrs fas fns exs
def ob (s : PySem.W.SharedT) : AlX := obsLG adrs fas fns exs (HandSHeadRun.getT s)
theorem ob_eq (s : PySem.W.SharedT) : ob s = hk.obs s.abs := obsLG_eq (HandSHeadRun.getT_eq s)
set_option maxHeartbeats 0 in
open PySem.W PySem.Calls HandSHeadRun in
theorem look1 (w : World) (os : OsState) : HandSHeadRun.looksF R.prog (PySem.W.boot_heap w.params) (SE w os).abs = true := by kernel_rfl
set_option maxHeartbeats 0 in
open PySem.W PySem.Calls HandSHeadRun in
theorem look2 (w : World) (os : OsState) : HandSHeadRun.seenQ (PySem.W.view R.prog [40]) loose (importedModules R.prog.main.body) (fun s => PySem.W.xlAt (PySem.W.view R.prog [40]) [] s && PySem.W.recOk R.toRowW.records s) (SE w os).abs = PySem.W.openGood (PySem.W.view R.prog [40]) loose := by kernel_rfl
set_option maxHeartbeats 0 in
open PySem.W PySem.Calls HandSHeadRun in
theorem look3 (w : World) (os : OsState) : ob (SE w os) = hk.val w := by kernel_rfl
open PySem.W PySem.Calls HandSHeadRun in
theorem topEnd (w : World) (os : OsState) : ∃ s, TopEnd R (PySem.W.view R.prog [40]) loose hk ob 100000 w os s := ⟨SE w os, cpTop w os, look1 w os, look2 w os, look3 w os⟩
end Dl
section
open PySem PySem.W PySem.Calls PyProof.Rows
set_option maxRecDepth 100000
set_option maxHeartbeats 0
theorem Dl.law_name : (HandSHeadRun.topDef (OpenLaw.row PySem.Challenge.rw_readround_k01_books_known).prog 40).name = ("law" : PySem.Str) := by kernel_rfl
theorem Dl.law_dflt : (HandSHeadRun.topDef (OpenLaw.row PySem.Challenge.rw_readround_k01_books_known).prog 40).params.defaults = [] := by kernel_rfl
theorem Dl.lawOf (hc : WalkO (view (OpenLaw.row PySem.Challenge.rw_readround_k01_books_known).prog [40]) Dl.loose (XL (view (OpenLaw.row PySem.Challenge.rw_readround_k01_books_known).prog [40]) []) Dl.hk.says (OpenLaw.row PySem.Challenge.rw_readround_k01_books_known).toRowW (HandSHeadRun.topDef (OpenLaw.row PySem.Challenge.rw_readround_k01_books_known).prog 40) [] (fun f vs => PySem.call f vs)) : PySem.Challenge.rw_readround_k01_books_known.Holds := by
  w_on; o_law
  refine Dl.head_cp (r := OpenLaw.row PySem.Challenge.rw_readround_k01_books_known) (q := view (OpenLaw.row PySem.Challenge.rw_readround_k01_books_known).prog [40]) (H := Dl.hk) (ob := Dl.ob) (M := 100000) (loose := Dl.loose) (d := HandSHeadRun.topDef (OpenLaw.row PySem.Challenge.rw_readround_k01_books_known).prog 40) (kwd := []) Dl.ob_eq
    (by kernel_rfl) (fun s => by kernel_rfl) Dl.topEnd (by kernel_rfl) (by kernel_rfl) (by kernel_rfl) (by rfl) (by first | assumption | decide +kernel) (by decide +kernel) ⟨rfl, rfl, rfl, rfl, rfl, by decide +kernel⟩ ?hw ?hc
  case hw => w_witness2
  case hc => exact hc
end
namespace Dl
open PySem L2 PyProof.Rows
set_option Elab.async false
set_option linter.all false
set_option maxRecDepth 100000
open PySem L2 PyProof.Rows
/-! ### kinds, books: contracts -/
mutual
/-- data through and through -/
def D.dat : D → Bool
  | .non => true
  | .bl _ => true
  | .int _ => true
  | .str _ => true
  | .tup xs => datL xs
  | .lst xs => datL xs
  | .dct _ => true
  | _ => false
def datL : List D → Bool
  | [] => true
  | x :: xs => D.dat x && datL xs
end
theorem datL_iff {xs : List D} : datL xs = true ↔ ∀ x ∈ xs, x.dat = true := by
  induction xs with
  | nil => simp [datL]
  | cons x xs ih => simp [datL, ih]
/-- isinstance of data and a built-in type -/
def isTy : D → String → Bool
  | .bl _, n => n == "bool" || n == "int"
  | .int _, n => n == "int"
  | .str _, n => n == "str"
  | .tup _, n => n == "tuple"
  | .lst _, n => n == "list"
  | .dct _, n => n == "dict"
  | _, _ => false
theorem rc_isiD {K : PySem.W.Frag} {μ : Mu} {P : D → Mu → Prop} {x : D} {n : String} (hd : x.dat = true) (hn : n = "int" ∨ n = "bool" ∨ n = "str" ∨ n = "list" ∨ n = "tuple") (h : P (.bl (isTy x n)) μ) : RC K (rIsi K) [x, .ty n] μ P := by
  cases x <;> (try (simp [D.dat] at hd; done)) <;> rcases hn with rfl | rfl | rfl | rfl | rfl <;> exact rc_isiB rfl (by rfl) h
theorem isTy_int {x : D} (h : isTy x "int" = true) (h2 : isTy x "bool" = false) : ∃ i, x = .int i := by
  cases x <;> simp_all [isTy]
theorem isTy_bool {x : D} (h : isTy x "bool" = true) : ∃ i, x = .bl i := by
  cases x <;> simp_all [isTy]
theorem isTy_list {x : D} (h : isTy x "list" = true) : ∃ i, x = .lst i := by
  cases x <;> simp_all [isTy]
theorem isTy_tuple {x : D} (h : isTy x "tuple" = true) : ∃ i, x = .tup i := by
  cases x <;> simp_all [isTy]
def isNum : D → Int → Int → Bool
  | .int i, lo, hi => decide (lo ≤ i) && decide (i ≤ hi)
  | _, _, _ => false
def c_is_number (K : PySem.W.Frag) : CT := fun ds μ P PX => ∃ x lo hi, ds = [x, .int lo, .int hi] ∧ x.dat = true ∧ P (.bl (isNum x lo hi)) μ
def isSec : D → Bool
  | .tup [x, .bl _] => isNum x 1 1000000000000
  | _ => false
def c_is_section (K : PySem.W.Frag) : CT := fun ds μ P PX => ∃ x, ds = [x] ∧ x.dat = true ∧ P (.bl (isSec x)) μ
def secTied : D → Bool
  | .tup [_, .bl b] => b
  | _ => true
def areSecs : D → Bool
  | .lst xs => decide (1 ≤ xs.length) && decide (xs.length ≤ 60) && xs.all isSec && (match xs.getLast? with
    | some x => !secTied x
    | none => false)
  | _ => false
def c_are_sections (K : PySem.W.Frag) : CT := fun ds μ P PX => ∃ x d, ds = [x] ∧ Fz μ x d ∧ d.dat = true ∧ P (.bl (areSecs d)) μ
abbrev cBook (K : PySem.W.Frag) : Addr := He.ga K "Book"
def c_Book_init (K : PySem.W.Frag) : CT := fun ds μ P PX => ∃ k x d, ds = [.own k, x] ∧ μ[k]? = some (.ins (cBook K) []) ∧ Fz μ x d ∧ d.dat = true ∧
  (areSecs d = true → ∀ xs, d = .lst xs → P .non (μ.set k (.ins (cBook K) [("parts", .lst xs)]))) ∧ (areSecs d = false → PX (He.ga K "BadBook") [] μ)
/-- a section: how long, whether tied -/
abbrev Sec := Int × Bool
def secD (s : Sec) : D := .tup [.int s.1, .bl s.2]
def secsD (ss : List Sec) : D := .lst (ss.map secD)
def bookD (K : PySem.W.Frag) (ss : List Sec) : D := .obj (cBook K) [("parts", secsD ss)]
structure Good (ss : List Sec) : Prop where
  pos : 0 < ss.length
  most : ss.length ≤ 60
  long : ∀ s ∈ ss, 1 ≤ s.1 ∧ s.1 ≤ 1000000000000
  last : ∀ s, ss.getLast? = some s → s.2 = false
structure KBook (K : PySem.W.Frag) : Prop where
  cl : Cls K (cBook K)
  parts : NoAttr K (cBook K) "parts"
def c_Book_sections (K : PySem.W.Frag) : CT := fun ds μ P PX => ∃ ss, ds = [bookD K ss] ∧ Fresh (ss.map secD) μ P
def t_is_number (K : PySem.W.Frag) (E : XK) : TS :=
    (tRet (tAndV (tCB (rIsi K) (tCons (tVar 0) (tCons (tC (.ty "int")) tNil))) (tAndV (tNotV (tCB (rIsi K) (tCons (tVar 0) (tCons (tC (.ty "bool")) tNil)))) (tChain (rI0 fun i j => .bl (decide (i ≤ j))) (rI0 fun i j => .bl (decide (i ≤ j))) (tVar 1) (tVar 0) (tVar 2)))))
def t_is_section (K : PySem.W.Frag) (E : XK) : TS :=
    (tSeq (tIfS (tOr (tNot (tTruth K (tCB (rIsi K) (tCons (tVar 0) (tCons (tC (.ty "tuple")) tNil))))) (tOr (tTest (tOp (rNeD K) (tCB (rLen K) (tCons (tVar 0) tNil)) (tC (.int 2)))) (tNot (tTruth K (tCB (rIsi K) (tCons (tOp (rIx K) (tVar 0) (tC (.int 1))) (tCons (tC (.ty "bool")) tNil))))))) (tRet (tC (.bl false))) tNext)
      (tRet (tCall (spD K (c_is_number K)) [] E (tCons (tOp (rIx K) (tVar 0) (tC (.int 0))) (tCons (tC (.int 1)) (tCons (tC (.int 1000000000000)) tNil))))))
def t_are_sections (K : PySem.W.Frag) (E : XK) : TS :=
    (tSeq (tIfS (tOr (tNot (tTruth K (tCB (rIsi K) (tCons (tVar 0) (tCons (tC (.ty "list")) tNil))))) (tNot (tTest (tChain (rI0 fun i j => .bl (decide (i ≤ j))) (rI0 fun i j => .bl (decide (i ≤ j))) (tC (.int 1)) (tCB (rLen K) (tCons (tVar 0) tNil)) (tC (.int 60)))))) (tRet (tC (.bl false))) tNext)
      (tRet (tAndV (tCB (rAll K) (tCons (tLc (iAny K (tVar 0)) (gName 1) tYes (tCall (spD K (c_is_section K)) [] E0 (tCons (tVar 1) tNil)) [1]) tNil)) (tNotV (tOp (rIx K) (tOp (rIx K) (tVar 0) (tUn (rU fun i => .int (-i)) (tC (.int 1)))) (tC (.int 1)))))))
def t_Book_init (K : PySem.W.Frag) (E : XK) : TS :=
    (tSeq (tIfS (tNot (tTruth K (tCall (spD K (c_are_sections K)) [] E (tCons (tVar 1) tNil)))) (tRaise0 (He.ga K "BadBook") E) tNext)
      (sFld K (tVar 0) (tCB (rListOf K) (tCons (tVar 1) tNil)) "parts"))
def t_Book_sections (K : PySem.W.Frag) (E : XK) : TS :=
    (tRet (tCB (rListOf K) (tCons (tFld K (tVar 0) "parts") tNil)))
local macro_rules | `(tactic| wtm_at "dS") => `(tactic| with_reducible (show DS _ _ _ _ _ _; first
  | refine q_set ?_
  | refine q_when ?_
  | refine ds_ret ?_
  | refine ds_set ?_
  | refine q_drop ?_
  | refine q_if ?_
  | refine q_asg ?_
  | refine q_par ?_
  | refine q_fld ?_
  | refine ds_drop ?_
  | refine s_when ?_
  | refine ds_if ?_
  | refine ds_asg ?_
  | refine ds_next ?_
  | refine ds_par ?_
  | refine ds_fld ?_
  | refine ds_retN ?_))
local macro_rules | `(tactic| wtm_at "dE") => `(tactic| with_reducible (show DE _ _ _ _ _ _; first
  | refine de_op ?_
  | refine de_int ?_
  | refine de_cb ?_
  | refine de_bl ?_
  | refine de_non ?_
  | refine de_str ?_
  | refine de_ty ?_
  | refine de_loc ?_
  | refine de_un ?_
  | refine de_andV ?_
  | refine de_orV ?_
  | refine de_notV ?_
  | refine de_if ?_
  | refine de_chain ?_
  | refine de_chain3 ?_
  | refine de_isN ?_
  | refine de_notN ?_
  | refine de_sl ?_
  | refine de_bm ?_
  | refine de_bm0 ?_))
local macro_rules | `(tactic| wtm_at "dT") => `(tactic| with_reducible (show DT _ _ _ _ _ _; first
  | refine dt_test ?_
  | refine dt_truth ?_
  | refine dt_and ?_
  | refine dt_or ?_
  | refine dt_not ?_
  | refine dt_B ?_
  | refine dt_yes ?_))
local macro_rules | `(tactic| wtm_at "dO") => `(tactic| with_reducible (first
  | refine da_cons ?_
  | refine da_nil ?_
  | refine ro_i ?_
  | refine ro_b ?_
  | refine ro_addI ?_
  | refine ro_eqI ?_
  | refine ro_neI ?_
  | refine ru_i ?_
  | refine ro_ip ?_
  | refine rc_max2' ?_
  | refine rc_min2' ?_
  | refine ro_eqB ?_
  | refine ro_neB ?_
  | refine ro_isB ?_
  | refine ro_notB ?_
  | refine do_no ?_
  | refine do_part ?_
  | refine dg_name ?_
  | refine dgs_cons ?_
  | refine dgs_nil ?_
  | refine dg_sub ?_
  | refine di_range1 ?_
  | refine di_range2 ?_
  | refine di_any ?_
  | refine di_enum' ?_))
local macro_rules | `(tactic| wtm_at "v") => `(tactic| ((with_reducible show DE _ _ (tVar _) _ _ _); refine de_var (by first | rfl | assumption) ?_))
local macro_rules | `(tactic| wtm_at "h") => `(tactic| with_reducible refine ⟨_, rfl, ?_⟩)
local macro_rules | `(tactic| wtm_at "b") => `(tactic| ((first | refine ⟨_, rfl, br ?_ ?_⟩ | refine ⟨_, rfl, br' ?_ ?_⟩ | refine br ?_ ?_ | refine br' ?_ ?_ | fail) <;> intro hb <;> (try contradiction) <;> (try (simp only [decide_eq_true_eq, decide_eq_false_iff_not, Bool.not_eq_true', Bool.not_eq_false', Bool.not_true, Bool.not_false, Bool.not_eq_eq_eq_not, reduceCtorEq, List.length_map] at hb)) <;> (try (exfalso; omega; done))))
local macro_rules | `(tactic| wtm_at "i") => `(tactic| first | refine rc_isiD (by assumption) (by decide) ?_ | refine rc_isiB rfl (by first | rfl | decide +kernel) ?_)
local macro_rules | `(tactic| wtm_at "r") => `(tactic| refine ret_same0 (Nat.le_refl _) (by assumption) (by first | rfl | simp [D.cl, clL]) ?_)
local macro_rules | `(tactic| wtm_at "g") => `(tactic| repeat' first | wtm_at "v" | wtm_at "dE" | wtm_at "dO" | wtm_at "dT" | wtm_at "dS" | fail)
local macro_rules | `(tactic| wtm_at "a") => `(tactic| repeat' first | wtm_at "v" | wtm_at "dE" | wtm_at "dO" | wtm_at "dT" | wtm_at "dS" | wtm_at "i" | wtm_at "l" | wtm_at "x" | wtm_at "h" | wtm_at "b" | fail)
local macro_rules | `(tactic| wtm_at "l") => `(tactic| ((with_reducible show RC _ (rLen _) _ _ _); first | refine rc_lenL (.lst _) ?_ | refine rc_lenT' (.tup _) ?_ | refine rc_lenL (.rdl _) ?_ | refine rc_lenL (.own (by first | assumption | with_reducible exact mu_last)) ?_))
local macro_rules | `(tactic| wtm_at "x") => `(tactic| refine ro_ixT (.tup _) rfl ?_)
local macro_rules | `(tactic| wtm_at "ow") => `(tactic| first | assumption | with_reducible exact mu_last | exact mu_old (by assumption) | (simp; done) | fail)
local macro_rules | `(tactic| wtm_at "m") => `(tactic| refine ⟨ty_list (.own (by wtm_at "ow")), ?_⟩)
local macro_rules | `(tactic| wtm_at "e") => `(tactic| repeat' first | wtm_at "v" | wtm_at "dE" | wtm_at "dO" | wtm_at "dT" | wtm_at "i" | wtm_at "l" | wtm_at "x" | wtm_at "h" | wtm_at "b" | fail)
local macro_rules | `(tactic| wtm_at "sz") => `(tactic| ((with_reducible show Sz _ ∧ _); refine And.intro (by unfold Sz; first | decide | (simp; done) | (simp; omega) | omega) ?_))
local macro_rules | `(tactic| wtm_at "d2") => `(tactic| with_reducible (first
  | refine de_tupZ ?_
  | refine de_revL ?_
  | refine de_call (by assumption) ?_))
local macro_rules | `(tactic| wtm_at "o2") => `(tactic| first
  | refine ro_mod (by first | decide | omega) ?_
  | refine ro_pow ⟨by decide, by decide, by decide⟩ ?_
  | refine rs_anyL (.lst _) ?_
  | refine ro_mulI (by first | exact .inl ⟨by omega, by omega⟩ | exact .inr ⟨by omega, by omega⟩) ?_
  | refine rc_list (.lst _) ?_
  | refine dg_tup rfl ?_
  | fail)
local macro_rules | `(tactic| wtm_at "h2") => `(tactic| with_reducible (first | refine two_i ?_ | refine ⟨_, Ls.lst _, ?_⟩))
local macro_rules | `(tactic| wtm_at "sP") => `(tactic| with_reducible (first | refine q_parZ ?_ | refine ds_parZ ?_))
local macro_rules | `(tactic| wtm_at "f3") => `(tactic| with_reducible (first
  | refine de_fldZ ?_
  | refine de_methZ (by assumption) ?_))
local macro_rules | `(tactic| wtm_at "p3") => `(tactic| first
  | refine fp_obj (by assumption) (by assumption) (by rfl) ?_
  | refine fp_own (by assumption) (by assumption) (by assumption) (by rfl) ?_
  | refine mp_obj (by rfl) ?_
  | refine mp_own (by assumption) (by rfl) ?_)
local macro_rules | `(tactic| wtm_at "s3") => `(tactic| with_reducible (first | refine q_fldZ ?_ | refine ds_fldZ ?_))
local macro_rules | `(tactic| wtm_at "f4") => `(tactic| with_reducible (first | refine de_isNZ ?_ | refine de_notNZ ?_ | refine np_t ?_))
local macro_rules | `(tactic| wtm_at "g4") => `(tactic| first | refine np_int ?_ | refine np_lst ?_ | refine np_tup ?_ | refine np_obj ?_ | refine np_own ?_ | refine np_str ?_ | refine np_bl ?_)
local macro_rules | `(tactic| wtm_at "s5") => `(tactic| with_reducible (first | refine q_par3 ?_ | refine ds_par3 ?_ | refine three_i ?_ | refine di_range2W ?_))
local macro_rules | `(tactic| wtm_at "o5") => `(tactic| first | refine ro_eqNI ?_ | fail)
local macro_rules | `(tactic| wtm_at "d6") => `(tactic| with_reducible (first | refine de_dget ?_ | refine de_din ?_ | refine de_dnin ?_ | refine rc_abs ?_))
local macro_rules | `(tactic| wtm_at "g6") => `(tactic| first | refine dgp_s (.own (by assumption)) (by rfl) ?_ | refine dgp_s (.dct _) (by rfl) ?_)
local macro_rules | `(tactic| wtm_at "Q") => `(tactic| wtm_at "b")
local macro_rules | `(tactic| wtm_at "Q") => `(tactic| wtm_at "g4")
local macro_rules | `(tactic| wtm_at "Q") => `(tactic| wtm_at "p3")
local macro_rules | `(tactic| wtm_at "Q") => `(tactic| wtm_at "g6")
local macro_rules | `(tactic| wtm_at "Q") => `(tactic| wtm_at "sz")
local macro_rules | `(tactic| wtm_at "Q") => `(tactic| wtm_at "h2")
local macro_rules | `(tactic| wtm_at "Q") => `(tactic| wtm_at "h")
local macro_rules | `(tactic| wtm_at "Q") => `(tactic| wtm_at "o5")
local macro_rules | `(tactic| wtm_at "Q") => `(tactic| wtm_at "o2")
local macro_rules | `(tactic| wtm_at "Q") => `(tactic| wtm_at "x")
local macro_rules | `(tactic| wtm_at "Q") => `(tactic| wtm_at "l")
local macro_rules | `(tactic| wtm_at "Q") => `(tactic| wtm_at "i")
local macro_rules | `(tactic| wtm_at "Q") => `(tactic| wtm_at "f3")
local macro_rules | `(tactic| wtm_at "Q") => `(tactic| wtm_at "d2")
local macro_rules | `(tactic| wtm_at "Q") => `(tactic| wtm_at "dT")
local macro_rules | `(tactic| wtm_at "Q") => `(tactic| wtm_at "dO")
local macro_rules | `(tactic| wtm_at "Q") => `(tactic| wtm_at "d6")
local macro_rules | `(tactic| wtm_at "Q") => `(tactic| wtm_at "dE")
local macro_rules | `(tactic| wtm_at "Q") => `(tactic| wtm_at "f4")
local macro_rules | `(tactic| wtm_at "Q") => `(tactic| wtm_at "v")
local macro_rules | `(tactic| wtm_at "E") => `(tactic| repeat' first | wtm_at "Q" | fail)
local macro_rules | `(tactic| wtm_at "Qs") => `(tactic| wtm_at "dS")
local macro_rules | `(tactic| wtm_at "Qs") => `(tactic| wtm_at "s3")
local macro_rules | `(tactic| wtm_at "Qs") => `(tactic| wtm_at "sP")
local macro_rules | `(tactic| wtm_at "Qs") => `(tactic| wtm_at "s5")
local macro_rules | `(tactic| wtm_at "QA") => `(tactic| wtm_at "Q")
local macro_rules | `(tactic| wtm_at "QA") => `(tactic| wtm_at "Qs")
local macro_rules | `(tactic| wtm_at "A") => `(tactic| repeat' first | wtm_at "QA" | fail)
section
variable {K : PySem.W.Frag}
theorem d_is_number : ∀ ds μ P PX, c_is_number K ds μ P PX → MuCl μ μ.length → clL ds μ.length = true → ∀ B E, XAg K B (RetX μ.length PX) E → DS K B (t_is_number K E) (startD ["thing", "least", "most"] ds) μ (fnE μ.length P) := by
  intro ds μ P PX h hm hc B E hE
  obtain ⟨x, lo, hi, rfl, hd, h⟩ := h
  show DS K B _ [some x, some (.int lo), some (.int hi)] μ _
  unfold t_is_number
  wtm_at "a"
  · obtain ⟨i, rfl⟩ := isTy_int ‹_› ‹_›
    wtm_at "a" <;> wtm_at "r" <;> simp_all [isNum]
  · wtm_at "r"
    cases x <;> simp_all [isNum, isTy]
  · wtm_at "r"
    cases x <;> simp_all [isNum, isTy]
theorem d_is_section : ∀ ds μ P PX, c_is_section K ds μ P PX → MuCl μ μ.length → clL ds μ.length = true → ∀ B E, XAg K B (RetX μ.length PX) E → DS K B (t_is_section K E) (startD ["thing"] ds) μ (fnE μ.length P) := by
  intro ds μ P PX h hm hc B E hE
  obtain ⟨x, rfl, hd, h⟩ := h
  show DS K B _ [some x] μ _
  unfold t_is_section
  wtm_at "a"
  · obtain ⟨xs, rfl⟩ := isTy_tuple ‹_›
    wtm_at "a"
    · match xs, ‹(xs.length : Int) = 2› with
      | [a, b], _ =>
        have hd' : a.dat = true ∧ b.dat = true := by simpa [D.dat, datL] using hd
        obtain ⟨hd1, hd2⟩ := hd'
        wtm_at "a"
        · wtm_at "r"
          have : isSec (.tup [a, b]) = false := by cases b <;> simp_all [isSec, isTy]
          rw [this] at h
          exact h
        · obtain ⟨b, rfl⟩ := isTy_bool ‹_›
          refine de_call (PX := RetX μ.length PX) hE ?_
          wtm_at "a"
          refine ⟨a, 1, 1000000000000, rfl, hd1, ?_⟩
          wtm_at "r"
          exact h
      | [], q => exact absurd q (by decide)
      | [_], q => exact absurd q (by simp)
      | _ :: _ :: _ :: _, q => exact absurd q (by simp only [List.length_cons]; omega)
    · -- of another length
      wtm_at "r"
      have : isSec (.tup xs) = false := by
        unfold isSec
        split
        · rename_i e
          cases e
          simp at *
        · rfl
      rw [this] at h
      exact h
  · wtm_at "r"
    have : isSec x = false := by cases x <;> simp_all [isSec, isTy]
    rw [this] at h
    exact h
theorem atI_neg1 {α : Type} {xs : List α} {z : α} (h : xs.getLast? = some z) : atI xs (-1) = some z := by
  obtain ⟨ys, rfl⟩ := List.getLast?_eq_some_iff.mp h
  exact atI_last ys z
theorem d_are_sections : ∀ ds μ P PX, c_are_sections K ds μ P PX → MuCl μ μ.length → clL ds μ.length = true → ∀ B E, XAg K B (RetX μ.length PX) E → DS K B (t_are_sections K E) (startD ["thing", "one"] ds) μ (fnE μ.length P) := by
  intro ds μ P PX h hm hc B E hE
  obtain ⟨x, d, rfl, fz, hd, h⟩ := h
  show DS K B _ [some x, none] μ _
  -- a list, frozen or not
  have key : ∀ xs, d = .lst xs → tyD μ x = some "list" → Ls μ x xs → DS K B (t_are_sections K E) [some x, none] μ (fnE μ.length P) := by
    rintro xs rfl ht hl
    have hdx : ∀ y ∈ xs, y.dat = true := by
      unfold D.dat at hd
      exact datL_iff.mp hd
    obtain ⟨S, wk⟩ := hl.wk
    unfold t_are_sections
    wtm_at "g"
    refine rc_isiB ht (by rfl) ?_
    wtm_at "a"
    refine rc_lenL hl ?_
    have hf : ¬ (1 ≤ xs.length ∧ xs.length ≤ 60) → Ret μ.length P (.bl false) μ := fun hn => by
      wtm_at "r"
      have : areSecs (.lst xs) = false := by
        simp [areSecs]
        omega
      rw [this] at h
      exact h
    wtm_at "a"
    · exact hf (by omega)
    · refine lc_map (fun d => .bl (isSec d)) (gw_name (by simp)) ?_
      wtm_at "g"
      refine ⟨xs, S, wk, wk.now, by omega, fun i d hd' => ?_, fun out ho => ?_⟩
      · wtm_at "g"
        refine ⟨rfl, de_call XAg.none ?_⟩
        wtm_at "g"
        exact ⟨d, rfl, hdx d (List.mem_of_getElem? hd'), rfl, rfl⟩
      · wtm_at "g"
        refine rc_all (bs := xs.map isSec) (by rw [← ho, List.map_map]; exact .lst _) ?_
        have hlen : 0 < xs.length := by omega
        obtain ⟨z, hz⟩ : ∃ z, xs.getLast? = some z := by
          cases q : xs.getLast? with
          | none => rw [List.getLast?_eq_none_iff] at q; subst q; simp at hlen
          | some z => exact ⟨z, rfl⟩
        have hz1 := atI_neg1 hz
        wtm_at "a"
        · rename_i hall
          have hsec : isSec z = true := by
            rw [List.all_eq_true] at hall
            have := hall (isSec z) (List.mem_map.mpr ⟨z, List.mem_of_getLast? hz, rfl⟩)
            simpa using this
          obtain ⟨n, b, rfl⟩ : ∃ n b, z = .tup [.int n, .bl b] := by
            unfold isSec at hsec
            split at hsec
            · rename_i y b
              cases y <;> simp [isNum] at hsec
              exact ⟨_, _, rfl⟩
            · cases hsec
          refine ro_ixL hl hz1 ?_
          wtm_at "a"
          wtm_at "r"
          have : areSecs (.lst xs) = !b := by
            have h1 : xs.all isSec = true := by
              rw [List.all_eq_true]
              intro y hy
              rw [List.all_eq_true] at hall
              have := hall (isSec y) (List.mem_map.mpr ⟨y, hy, rfl⟩)
              simpa using this
            simp [areSecs, h1, hz, secTied]
            omega
          rw [this] at h
          exact h
        · rename_i hall
          wtm_at "r"
          have : areSecs (.lst xs) = false := by
            have h1 : xs.all isSec = false := by
              rw [← hall, List.all_map]
              rfl
            simp only [areSecs, h1, Bool.and_false, Bool.false_and]
          rw [this] at h
          exact h
    · exact hf (by omega)
  cases fz with
  | id =>
    by_cases hl : isTy x "list" = true
    · obtain ⟨xs, rfl⟩ := isTy_list hl
      exact key xs rfl rfl (.lst xs)
    · unfold t_are_sections
      wtm_at "a"
      · exact absurd ‹_› hl
      · wtm_at "r"
        have : areSecs x = false := by cases x <;> simp_all [areSecs, isTy]
        rw [this] at h
        exact h
  | own hk => exact key _ rfl (by simp [tyD, hk]) (.own hk)
theorem d_Book_init (kb : KBook K) : ∀ ds μ P PX, c_Book_init K ds μ P PX → MuCl μ μ.length → clL ds μ.length = true → ∀ B E, XAg K B (RetX μ.length PX) E → DS K B (t_Book_init K E) (startD ["self", "sections"] ds) μ (fnE μ.length P) := by
  intro ds μ P PX h hm hc B E hE
  obtain ⟨k, x, d, rfl, hk, fz, hd, h1, h2⟩ := h
  show DS K B _ [some (.own k), some x] μ _
  unfold t_Book_init
  wtm_at "g"
  refine de_call (PX := RetX μ.length PX) hE ?_
  wtm_at "g"
  refine ⟨x, d, rfl, fz, hd, ?_⟩
  wtm_at "a"
  · -- raise
    exact ds_raise0 hE (retx_same0 hm rfl (h2 ‹_›))
  · rename_i hs
    obtain ⟨xs, rfl⟩ : ∃ xs, d = .lst xs := by
      cases d <;> simp [areSecs] at hs
      exact ⟨_, rfl⟩
    have hl : Ls μ x xs := by
      cases fz with
      | id => exact .lst xs
      | own h => exact .own h
    refine rc_list hl ?_
    wtm_at "g"
    refine ⟨k, cBook K, [], rfl, hk, kb.cl, kb.parts, by decide, ?_⟩
    have hcl : clL xs μ.length = true := by
      cases fz with
      | id => simp [clL, D.cl] at hc; exact hc.2
      | own h => exact hm.get h
    refine ⟨_, [], by rw [List.append_nil]; rfl, by simp, ?_, rfl, h1 hs xs rfl⟩
    rw [List.length_set]
    exact hm.set (by simp [MO.cl, clF, D.cl, hcl])
theorem d_Book_sections (kb : KBook K) : ∀ ds μ P PX, c_Book_sections K ds μ P PX → MuCl μ μ.length → clL ds μ.length = true → ∀ B E, XAg K B (RetX μ.length PX) E → DS K B (t_Book_sections K E) (startD ["self"] ds) μ (fnE μ.length P) := by
  intro ds μ P PX h hm hc B E hE
  obtain ⟨ss, rfl, h⟩ := h
  show DS K B _ [some (bookD K ss)] μ _
  unfold t_Book_sections
  have hcl : ∀ n, clL (ss.map secD) n = true := fun n => clL_map fun x _ => by simp [secD, D.cl, clL]
  wtm_at "g"
  refine de_fld ?_
  wtm_at "g"
  refine ⟨cBook K, _, _, .inl rfl, kb.cl, kb.parts, rfl, ?_⟩
  wtm_at "g"
  rcases h with h | h
  · refine rc_list (.lst _) ?_
    exact ret_same0 (Nat.le_refl _) hm (by simp [D.cl, hcl]) h
  · refine rc_listO (.lst _) ?_
    exact ret_same0 (by simp) (hm.app (by simp [MO.cl, hcl])) (by simp [D.cl]) h
end
def c_Book_many (K : PySem.W.Frag) : CT := fun ds μ P PX => ∃ ss : List Sec, ds = [bookD K ss] ∧ P (.int ss.length) μ
def t_Book_many (K : PySem.W.Frag) (E : XK) : TS :=
    (tRet (tCB (rLen K) (tCons (tFld K (tVar 0) "parts") tNil)))
section
variable {K : PySem.W.Frag}
theorem d_Book_many (kb : KBook K) : ∀ ds μ P PX, c_Book_many K ds μ P PX → MuCl μ μ.length → clL ds μ.length = true → ∀ B E, XAg K B (RetX μ.length PX) E → DS K B (t_Book_many K E) (startD ["self"] ds) μ (fnE μ.length P) := by
  intro ds μ P PX h hm hc B E hE
  obtain ⟨ss, rfl, h⟩ := h
  show DS K B _ [some (bookD K ss)] μ _
  unfold t_Book_many
  wtm_at "A"
  first | refine de_fld ?_ | skip
  wtm_at "A"
  refine ⟨cBook K, _, _, .inl rfl, kb.cl, kb.parts, rfl, ?_⟩
  wtm_at "A"
  wtm_at "r"
  simpa using h
theorem good_dat (ss : List Sec) : (D.lst (ss.map secD)).dat = true := by
  unfold D.dat
  rw [datL_iff]
  intro x hx
  obtain ⟨s, _, rfl⟩ := List.mem_map.mp hx
  simp [secD, D.dat, datL]
theorem good_secs {ss : List Sec} (h : Good ss) : areSecs (.lst (ss.map secD)) = true := by
  have h1 : (ss.map secD).all isSec = true := by
    rw [List.all_eq_true]
    intro x hx
    obtain ⟨s, hs, rfl⟩ := List.mem_map.mp hx
    have := h.long s hs
    simp [isSec, secD, isNum]
    omega
  have := h.pos
  have := h.most
  cases q : ss.getLast? with
  | none => rw [List.getLast?_eq_none_iff] at q; have := h.pos; rw [q] at this; simp at this
  | some s =>
    have h2 := h.last s q
    have h3 : (ss.map secD).getLast? = some (secD s) := by rw [List.getLast?_map, q]; rfl
    simp only [areSecs, h1, h3, List.length_map]
    simp [secD, secTied, h2]
    omega
theorem de_book {B : Bs} {E : XK} {PX : PXT} {ts : TA} {ρ : En} {μ : Mu} {P : D → Mu → Prop} {ss : List Sec} (hE : XAg K B PX E) (hg : Good ss) (h : DA K B ts ρ μ fun ds μ1 => ds = [secsD ss] ∧ P (bookD K ss) μ1) : DE K B (tMake (He.ga K "Book") (spD K (c_Book_init K)) [] E ts) ρ μ P := by
  refine de_make hE da_nd ?_
  refine fun σ G H al hB hσ hA Q hQ => h σ G H al hB hσ hA Q fun vs ds μ1 G1 H1 al1 n1 A1 r1 p1 => hQ vs ds μ1 G1 H1 al1 n1 A1 r1 ?_
  obtain ⟨rfl, p⟩ := p1
  refine ⟨_, _, .lst (ss.map secD), rfl, mu_last, .id _, good_dat ss, fun _ xs e => ⟨rfl, [("parts", .lst xs)], ?_, ?_, ?_⟩, fun e => ?_⟩
  · cases e; exact set_last
  · cases e; simp [clF, D.cl]; exact clL_map fun x _ => by simp [secD, D.cl, clL]
  · cases e; exact p
  · exact absurd (good_secs hg) (by rw [e]; simp)
end
/-! ### draws: contracts -/
/-- a frozen list -/
inductive Lf : D → List D → Prop
  | lst (ds : List D) : Lf (.lst ds) ds
  | rdl (ds : List D) : Lf (.rdl ds) ds
theorem Lf.ls {x : D} {ds : List D} (h : Lf x ds) (μ : Mu) : Ls μ x ds := by
  cases h with
  | lst => exact .lst _
  | rdl => exact .rdl _
def c_law_state (K : PySem.W.Frag) : CT := fun ds μ P PX => ∃ (ns : List Int) (k : Int), ds = [.rdl (ns.map D.int), .int k] ∧ 0 ≤ k ∧ k < 100000 ∧ ∀ n : Int, P (.own μ.length) (μ ++ [.lst [.int n]])
def c_law_next (K : PySem.W.Frag) : CT := fun ds μ P PX => ∃ k n m, ds = [.own k, .int m] ∧ μ[k]? = some (.lst [.int n]) ∧ 0 < m ∧ m < 2 ^ 200 ∧ ∀ r n' : Int, 0 ≤ r → r < m → P (.int r) (μ.set k (.lst [.int n']))
def c_law_pick (K : PySem.W.Frag) : CT := fun ds μ P PX => ∃ k n x xs, ds = [.own k, x] ∧ μ[k]? = some (.lst [.int n]) ∧ Lf x xs ∧ 0 < xs.length ∧ xs.length ≤ 100000 ∧ ∀ d n', d ∈ xs → P d (μ.set k (.lst [.int n']))
def c_law_sections (K : PySem.W.Frag) : CT := fun ds μ P PX => ∃ k n most, ds = [.own k, .int most] ∧ μ[k]? = some (.lst [.int n]) ∧ 1 ≤ most ∧ most ≤ 60 ∧ ∀ ss n', Good ss → (ss.length : Int) ≤ max 9 most → Fresh (ss.map secD) (μ.set k (.lst [.int n'])) P
def t_law_state (K : PySem.W.Frag) (E : XK) : TS :=
    (tSeq (tAsg (tIf (tTest (tOp (rI0 fun i j => .bl (decide (i < j))) (tVar 1) (tCB (rLen K) (tCons (tVar 0) tNil)))) (tOp (rIx K) (tVar 0) (tVar 1)) (tOp rMulA (tC (.int 7)) (tVar 1))) (gName 2))
      (tSeq (tIfS (tTest (tOp (rI0 fun i j => .bl (decide (j ≤ i))) (tVar 2) (tOp (rI CPow fun i j => .int (i ^ j.toNat)) (tC (.int 10)) (tC (.int 18))))) (tRet (tLst (tCons (tOp (rI0 fun i j => .int (i - j)) (tVar 2) (tOp (rI CPow fun i j => .int (i ^ j.toNat)) (tC (.int 10)) (tC (.int 18)))) tNil))) tNext)
      (tSeq (tAsg (tC (.int 0)) (gName 3))
      (tSeq (tFor (iRng1 (tCons (tC (.int 90)) tNil)) (gName 4) (tSeq (tAsg (tOp rModA (tOp rMulA (tOp (rAddA K) (tVar 2) (tOp rMulA (tC (.int 7919)) (tOp (rAddA K) (tOp (rAddA K) (tOp rMulA (tC (.int 90)) (tVar 1)) (tVar 4)) (tC (.int 1))))) (tC (.int 48271))) (tC (.int 2147483647))) (gName 5))
      (tAsg (tOp (rAddA K) (tOp rMulA (tVar 3) (tC (.int 2147483629))) (tOp rModA (tOp rMulA (tVar 5) (tOp (rAddA K) (tOp (rAddA K) (tVar 5) (tOp rMulA (tC (.int 2)) (tVar 4))) (tC (.int 1)))) (tC (.int 2147483629)))) (gName 3))))
      (tRet (tLst (tCons (tVar 3) tNil)))))))
def t_law_next (K : PySem.W.Frag) (E : XK) : TS :=
    (tSeq (tAsg (tOp rModA (tOp (rIx K) (tVar 0) (tC (.int 0))) (tVar 1)) (gName 2))
      (tSeq (tAsg (tOp rFdivA (tOp (rIx K) (tVar 0) (tC (.int 0))) (tVar 1)) (gSub (tVar 0) (tC (.int 0)) rSetL))
      (tRet (tVar 2))))
def t_law_pick (K : PySem.W.Frag) (E : XK) : TS :=
    (tRet (tOp (rIx K) (tVar 1) (tCall (spD K (c_law_next K)) [] E (tCons (tVar 0) (tCons (tCB (rLen K) (tCons (tVar 1) tNil)) tNil)))))
def t_law_sections (K : PySem.W.Frag) (E : XK) : TS :=
    (tSeq (tAsg (tCall (spD K (c_law_pick K)) [] E (tCons (tVar 0) (tCons (tLst (tCons (tC (.int 4)) (tCons (tC (.int 4)) (tCons (tC (.int 9)) (tCons (tVar 1) (tCons (tVar 1) tNil)))))) tNil))) (gName 2))
      (tSeq (tAsg (tCall (spD K (c_law_pick K)) [] E (tCons (tVar 0) (tCons (tLst (tCons (tC (.int 1)) (tCons (tC (.int 3)) (tCons (tC (.int 9)) (tCons (tC (.int 100)) (tCons (tOp (rI CPow fun i j => .int (i ^ j.toNat)) (tC (.int 10)) (tC (.int 12))) tNil)))))) tNil))) (gName 3))
      (tSeq (tAsg (tCall (spD K (c_law_pick K)) [] E (tCons (tVar 0) (tCons (tLst (tCons (tC (.int 0)) (tCons (tC (.int 1)) (tCons (tC (.int 2)) (tCons (tC (.int 4)) tNil))))) tNil))) (gName 4))
      (tSeq (tAsg (tOp (rAddA K) (tC (.int 1)) (tCall (spD K (c_law_next K)) [] E (tCons (tVar 0) (tCons (tVar 2) tNil)))) (gName 5))
      (tSeq (tIfS (tAnd (tTest (tOp (rEqD K) (tVar 2) (tVar 1))) (tTest (tOp (rEqD K) (tOp rModA (tVar 5) (tC (.int 4))) (tC (.int 0))))) (tAsg (tVar 1) (gName 5)) tNext)
      (tSeq (tAsg (tLst tNil) (gName 6))
      (tSeq (tFor (iRng1 (tCons (tVar 5) tNil)) (gName 7) (tDrop (tBM K "list" rAppend (tVar 6) (tCons (tTup (tCons (tOp (rAddA K) (tC (.int 1)) (tCall (spD K (c_law_next K)) [] E (tCons (tVar 0) (tCons (tVar 3) tNil)))) (tCons (tOp (rI0 fun i j => .bl (decide (i < j))) (tCall (spD K (c_law_next K)) [] E (tCons (tVar 0) (tCons (tC (.int 5)) tNil))) (tVar 4)) tNil))) tNil))))
      (tSeq (tIfS (tAnd (tTest (tOp (rEqD K) (tVar 3) (tOp (rI CPow fun i j => .int (i ^ j.toNat)) (tC (.int 10)) (tC (.int 12))))) (tTest (tOp (rEqD K) (tCall (spD K (c_law_next K)) [] E (tCons (tVar 0) (tCons (tC (.int 2)) tNil))) (tC (.int 0))))) (tSeq (tAsg (tCall (spD K (c_law_next K)) [] E (tCons (tVar 0) (tCons (tVar 5) tNil))) (gName 8))
      (tAsg (tTup (tCons (tVar 3) (tCons (tOp (rIx K) (tOp (rIx K) (tVar 6) (tVar 8)) (tC (.int 1))) tNil))) (gSub (tVar 6) (tVar 8) rSetL))) tNext)
      (tSeq (tAsg (tTup (tCons (tOp (rIx K) (tOp (rIx K) (tVar 6) (tUn (rU fun i => .int (-i)) (tC (.int 1)))) (tC (.int 0))) (tCons (tC (.bl false)) tNil))) (gSub (tVar 6) (tUn (rU fun i => .int (-i)) (tC (.int 1))) rSetL))
      (tRet (tVar 6)))))))))))
section
variable {K : PySem.W.Frag}
theorem at_of' {α : Type} {xs : List α} {z : Int} {j : Nat} {v : α} (e : z = (j : Int)) (h : xs[j]? = some v) : atI xs z = some v := by
  rw [e]
  exact atI_nat h
theorem atI_nn {α : Type} {xs : List α} {i : Int} (h0 : 0 ≤ i) (h1 : i < xs.length) : ∃ x, atI xs i = some x ∧ xs[i.toNat]? = some x := by
  have h : i.toNat < xs.length := by omega
  refine ⟨xs[i.toNat], ?_, List.getElem?_eq_getElem h⟩
  exact at_of' (by omega) (List.getElem?_eq_getElem h)
theorem log2_small {m : Int} (h0 : 0 < m) (h : m < 2 ^ 200) : m.natAbs.log2 < 9000 := by
  have h1 : m.natAbs < 2 ^ 200 := by omega
  have : m.natAbs.log2 < 200 := (Nat.log2_lt (by omega)).mpr h1
  omega
theorem d_law_state : ∀ ds μ P PX, c_law_state K ds μ P PX → MuCl μ μ.length → clL ds μ.length = true → ∀ B E, XAg K B (RetX μ.length PX) E → DS K B (t_law_state K E) (startD ["_law_script", "_law_k", "_law_cell", "_law_found", "_law_j", "_law_one"] ds) μ (fnE μ.length P) := by
  intro ds μ P PX h hm hc B E hE
  obtain ⟨ns, k, rfl, hk0, hk1, h⟩ := h
  show DS K B _ [some (.rdl (ns.map D.int)), some (.int k), none, none, none, none] μ _
  unfold t_law_state
  -- the cell
  have cell : DE K B (tIf (tTest (tOp (rI0 fun i j => .bl (decide (i < j))) (tVar 1) (tCB (rLen K) (tCons (tVar 0) tNil)))) (tOp (rIx K) (tVar 0) (tVar 1)) (tOp rMulA (tC (.int 7)) (tVar 1))) [some (.rdl (ns.map D.int)), some (.int k), none, none, none, none] μ (fun d μ' => ∃ c, d = .int c ∧ μ = μ') := by
    wtm_at "a"
    · rename_i hb
      try rw [List.length_map] at hb
      obtain ⟨x, hx, _⟩ := atI_nn (xs := ns) hk0 hb
      refine ro_ixL (.rdl _) (d := .int x) ?_ ⟨x, rfl, rfl⟩
      unfold atI at hx ⊢
      rw [List.length_map]
      cases q : ixN ns.length k with
      | none => rw [q] at hx; cases hx
      | some j =>
        rw [q] at hx
        have hx' : ns[j]? = some x := hx
        show (ns.map D.int)[j]? = some (D.int x)
        rw [List.getElem?_map, hx']
        rfl
    · exact ro_mulI (.inl ⟨by decide, by decide⟩) ⟨_, rfl, rfl⟩
  refine q_set (cell.imp ?_)
  rintro d μ' ⟨c, rfl, rfl⟩
  wtm_at "a"
  · refine ro_pow ⟨by decide, by decide, by decide⟩ ?_
    wtm_at "a"
    · refine de_lstO ?_
      wtm_at "a"
      refine ro_pow ⟨by decide, by decide, by decide⟩ ?_
      wtm_at "a"
      refine ⟨by simp, ?_⟩
      exact ret_same0 (by simp) (hm.app (by simp [MO.cl, clL, D.cl])) (by simp [D.cl]) (h _)
    · refine q_for ?_
      wtm_at "a"
      refine ⟨by decide, by decide, fun i ρ μ' => ∃ f y4 y5, ρ = [some (.rdl (ns.map D.int)), some (.int k), some (.int c), some (.int f), y4, y5] ∧ μ = μ', ⟨0, none, none, rfl, rfl⟩, fun _ _ _ _ _ => trivial, ?_, ?_⟩
      · rintro i d ρ μ' hd ⟨f, y4, y5, rfl, rfl⟩
        obtain ⟨hi, rfl⟩ := rangeD_some hd
        wtm_at "a"
        refine ro_mulI (.inl ⟨by decide, by decide⟩) ?_
        wtm_at "a"
        refine ro_mulI (.inl ⟨by decide, by decide⟩) ?_
        wtm_at "a"
        refine ro_mulI (.inr ⟨by decide, by decide⟩) ?_
        wtm_at "a"
        refine ro_mod (by decide) ?_
        wtm_at "a"
        refine ro_mulI (.inr ⟨by decide, by decide⟩) ?_
        wtm_at "a"
        refine ro_mulI (.inl ⟨by decide, by decide⟩) ?_
        wtm_at "a"
        refine ro_mulI (.inl ⟨?_, ?_⟩) ?_
        · have := Int.emod_nonneg ((c + 7919 * (90 * k + (0 + (i : Int)) + 1)) * 48271) (b := 2147483647) (by decide)
          omega
        · have := Int.emod_lt_of_pos ((c + 7919 * (90 * k + (0 + (i : Int)) + 1)) * 48271) (b := 2147483647) (by decide)
          omega
        wtm_at "a"
        refine ro_mod (by decide) ?_
        wtm_at "a"
        exact ⟨_, _, _, rfl, rfl⟩
      · rintro ρ μ' ⟨f, y4, y5, rfl, rfl⟩
        wtm_at "a"
        refine de_lstO ?_
        wtm_at "a"
        refine ⟨by simp, ?_⟩
        exact ret_same0 (by simp) (hm.app (by simp [MO.cl, clL, D.cl])) (by simp [D.cl]) (h _)
theorem d_law_next : ∀ ds μ P PX, c_law_next K ds μ P PX → MuCl μ μ.length → clL ds μ.length = true → ∀ B E, XAg K B (RetX μ.length PX) E → DS K B (t_law_next K E) (startD ["_law_draw", "_law_amount", "_law_found"] ds) μ (fnE μ.length P) := by
  intro ds μ P PX h hm hc B E hE
  obtain ⟨k, n, m, rfl, hk, h0, h1, h⟩ := h
  show DS K B _ [some (.own k), some (.int m), none] μ _
  unfold t_law_next
  wtm_at "a"
  refine ro_ixL (.own hk) (d := .int n) rfl ?_
  wtm_at "a"
  refine ro_mod h0 ?_
  wtm_at "a"
  refine ro_ixL (.own hk) (d := .int n) rfl ?_
  wtm_at "a"
  refine ro_fdiv h0 (log2_small h0 h1) ?_
  wtm_at "a"
  refine rset_lst hk (j := 0) rfl ?_
  wtm_at "a"
  refine ret_same0 (by simp) ?_ (by simp [D.cl]) (h _ (n / m) (Int.emod_nonneg _ (by omega)) (Int.emod_lt_of_pos _ h0))
  rw [List.length_set]
  exact hm.set (by simp [MO.cl, clL, D.cl])
theorem d_law_pick : ∀ ds μ P PX, c_law_pick K ds μ P PX → MuCl μ μ.length → clL ds μ.length = true → ∀ B E, XAg K B (RetX μ.length PX) E → DS K B (t_law_pick K E) (startD ["_law_draw", "_law_some"] ds) μ (fnE μ.length P) := by
  intro ds μ P PX h hm hc B E hE
  obtain ⟨k, n, x, xs, rfl, hk, lf, h0, h1, h⟩ := h
  show DS K B _ [some (.own k), some x] μ _
  unfold t_law_pick
  have hcx : clL xs μ.length = true := by
    cases lf <;> simp [clL, D.cl] at hc <;> exact hc.2
  wtm_at "a"
  refine de_call (PX := RetX μ.length PX) hE ?_
  wtm_at "a"
  refine rc_lenL (lf.ls _) ?_
  wtm_at "a"
  refine ⟨k, n, _, rfl, hk, by omega, by omega, fun r n' hr0 hr1 => ?_⟩
  obtain ⟨d, hd, hd2⟩ := atI_nn hr0 hr1
  have hmem := List.mem_of_getElem? hd2
  refine ro_ixL (lf.ls _) hd ?_
  refine ret_same0 (by simp) ?_ ?_ (h d n' hmem)
  · rw [List.length_set]
    exact hm.set (by simp [MO.cl, clL, D.cl])
  · rw [List.length_set]
    exact clL_iff.mp hcx d hmem
theorem d_law_sections : ∀ ds μ P PX, c_law_sections K ds μ P PX → MuCl μ μ.length → clL ds μ.length = true → ∀ B E, XAg K B (RetX μ.length PX) E → DS K B (t_law_sections K E) (startD ["_law_draw", "_law_most", "_law_size", "_law_top", "_law_share", "_law_many", "_law_found", "_law_k", "_law_at"] ds) μ (fnE μ.length P) := by
  intro ds μ P PX h hm hc B E hE
  obtain ⟨k, n, most, rfl, hk, hm1, hm2, h⟩ := h
  show DS K B _ [some (.own k), some (.int most), none, none, none, none, none, none, none] μ _
  unfold t_law_sections
  have hset : ∀ z : Int, (μ.set k (.lst [.int z]))[k]? = some (.lst [.int z]) := fun z => set_get hk
  have hlen : ∀ z : MO, (List.set μ k z).length = μ.length := fun z => by simp
  have hcl : ∀ z : Int, MuCl (μ.set k (.lst [.int z])) μ.length := fun z => hm.set (by simp [MO.cl, clL, D.cl])
  -- size
  wtm_at "a"
  refine de_call (PX := RetX μ.length PX) hE ?_
  wtm_at "a"
  refine de_lst ?_
  wtm_at "a"
  refine ⟨by simp, ?_⟩
  wtm_at "a"
  refine ⟨k, n, _, _, rfl, hk, .lst _, by simp, by simp, fun d n1 hd => ?_⟩
  obtain ⟨size, rfl, hs1, hs2⟩ : ∃ size, d = .int size ∧ 1 ≤ size ∧ size ≤ max 9 most := by
    simp at hd
    rcases hd with rfl | rfl | rfl | rfl | rfl <;> exact ⟨_, rfl, by omega, by omega⟩
  clear hd
  -- top
  wtm_at "a"
  refine de_call (PX := RetX μ.length PX) hE ?_
  wtm_at "a"
  refine de_lst ?_
  wtm_at "a"
  refine ro_pow ⟨by decide, by decide, by decide⟩ ?_
  wtm_at "a"
  refine ⟨by simp, ?_⟩
  wtm_at "a"
  refine ⟨k, n1, _, _, rfl, hset n1, .lst _, by simp, by simp, fun d n2 hd => ?_⟩
  obtain ⟨top, rfl, ht1, ht2⟩ : ∃ top, d = .int top ∧ 1 ≤ top ∧ top ≤ 1000000000000 := by
    simp at hd
    rcases hd with rfl | rfl | rfl | rfl | rfl <;> exact ⟨_, rfl, by decide, by decide⟩
  clear hd
  rw [set_set']
  -- share
  wtm_at "a"
  refine de_call (PX := RetX μ.length PX) hE ?_
  wtm_at "a"
  refine de_lst ?_
  wtm_at "a"
  refine ⟨by simp, ?_⟩
  wtm_at "a"
  refine ⟨k, n2, _, _, rfl, hset n2, .lst _, by simp, by simp, fun d n3 hd => ?_⟩
  obtain ⟨share, rfl⟩ : ∃ share, d = .int share := by
    simp at hd
    rcases hd with rfl | rfl | rfl | rfl <;> exact ⟨_, rfl⟩
  clear hd
  rw [set_set']
  -- many
  wtm_at "a"
  refine de_call (PX := RetX μ.length PX) hE ?_
  wtm_at "a"
  refine ⟨k, n3, size, rfl, hset n3, by omega, by omega, fun r n4 hr0 hr1 => ?_⟩
  rw [set_set']
  wtm_at "e"
  refine ds_cut (M := fun ρ' μ' => ∃ many, 1 ≤ many ∧ many ≤ max 9 most ∧ ρ' = [some (.own k), some (.int most), some (.int size), some (.int top), some (.int share), some (.int many), none, none, none] ∧ μ' = μ.set k (.lst [.int n4])) ?_ ?_
  · wtm_at "a"
    · refine ro_mod (by decide) ?_
      wtm_at "a"
      · exact ⟨most, hm1, by omega, rfl, rfl⟩
      · exact ⟨1 + r, by omega, by omega, rfl, rfl⟩
    · exact ⟨1 + r, by omega, by omega, rfl, rfl⟩
  rintro ρ' μ' ⟨many, hy1, hy2, rfl, rfl⟩
  wtm_at "a"
  refine de_lstO ?_
  wtm_at "a"
  refine ⟨by simp, ?_⟩
  rw [hlen]
  wtm_at "a"
  refine q_for ?_
  wtm_at "a"
  refine ⟨by omega, by omega, fun i ρ μ' => ∃ (z : Int) (fnd : List Sec) (y7 : Option D), ρ = [some (.own k), some (.int most), some (.int size), some (.int top), some (.int share), some (.int many), some (.own μ.length), y7, none] ∧ μ' = μ.set k (.lst [.int z]) ++ [.lst (fnd.map secD)] ∧ fnd.length = i ∧ ∀ s ∈ fnd, 1 ≤ s.1 ∧ s.1 ≤ 1000000000000,
    ⟨n4, [], none, rfl, rfl, rfl, by simp⟩, fun _ _ _ _ _ => trivial, ?_, ?_⟩
  · rintro i d ρ μ' hd ⟨z, fnd, y7, rfl, rfl, hfl, hfs⟩
    obtain ⟨hi, rfl⟩ := rangeD_some hd
    wtm_at "a"
    have hlast : ∀ z : Int, ∀ o : MO, (μ.set k (.lst [.int z]) ++ [o])[μ.length]? = some o := fun z o => by rw [← hlen (.lst [.int z])]; exact mu_last
    refine ⟨ty_list (.own (hlast _ _)), ?_⟩
    wtm_at "a"
    refine de_tup ?_
    wtm_at "a"
    refine de_call (PX := RetX μ.length PX) hE ?_
    wtm_at "a"
    refine ⟨k, z, top, rfl, mu_old (hset z), by omega, by omega, fun r1 z1 h10 h11 => ?_⟩
    rw [set_old (hset z), set_set']
    wtm_at "a"
    refine de_call (PX := RetX μ.length PX) hE ?_
    wtm_at "a"
    refine ⟨k, z1, 5, rfl, mu_old (hset z1), by omega, by omega, fun r2 z2 h20 h21 => ?_⟩
    rw [set_old (hset z1), set_set']
    wtm_at "a"
    refine ⟨by simp, ?_⟩
    wtm_at "a"
    refine rm_app (hlast _ _) (by simp; omega) ?_
    rw [← hlen (.lst [.int z2]), set_last]
    refine ⟨z2, fnd ++ [(1 + r1, decide (r2 < share))], _, by rw [hlen]; rfl, by simp [secD], by simp [hfl], fun s hs => ?_⟩
    rcases List.mem_append.mp hs with m | m
    · exact hfs s m
    · simp at m; subst m; exact ⟨by show 1 ≤ 1 + r1; omega, by show 1 + r1 ≤ _; omega⟩
  · rintro ρ μ' ⟨z, fnd, y7, rfl, rfl, hfl, hfs⟩
    rw [rangeD_length] at hfl
    have hlast : ∀ z : Int, ∀ o : MO, (μ.set k (.lst [.int z]) ++ [o])[μ.length]? = some o := fun z o => by rw [← hlen (.lst [.int z])]; exact mu_last
    have hsetl : ∀ z : Int, ∀ o o' : MO, (μ.set k (.lst [.int z]) ++ [o]).set μ.length o' = μ.set k (.lst [.int z]) ++ [o'] := fun z o o' => by rw [← hlen (.lst [.int z])]; exact set_last
    -- if top == 10 ** 12 and ..
    refine ds_cut (M := fun ρ' μ' => ∃ (z : Int) (fnd : List Sec) (y7 y8 : Option D), ρ' = [some (.own k), some (.int most), some (.int size), some (.int top), some (.int share), some (.int many), some (.own μ.length), y7, y8] ∧ μ' = μ.set k (.lst [.int z]) ++ [.lst (fnd.map secD)] ∧ fnd.length = many.toNat ∧ ∀ s ∈ fnd, 1 ≤ s.1 ∧ s.1 ≤ 1000000000000) ?_ ?_
    · wtm_at "a"
      refine ro_pow ⟨by decide, by decide, by decide⟩ ?_
      wtm_at "a"
      · refine de_call (PX := RetX μ.length PX) hE ?_
        wtm_at "a"
        refine ⟨k, z, 2, rfl, mu_old (hset z), by omega, by omega, fun r1 z1 h10 h11 => ?_⟩
        rw [set_old (hset z), set_set']
        wtm_at "a"
        · refine de_call (PX := RetX μ.length PX) hE ?_
          wtm_at "a"
          refine ⟨k, z1, many, rfl, mu_old (hset z1), by omega, by omega, fun r2 z2 h20 h21 => ?_⟩
          rw [set_old (hset z1), set_set']
          obtain ⟨s, hs, hs'⟩ := atI_nn (xs := fnd) (i := r2) h20 (by omega)
          have hsD : atI (fnd.map secD) r2 = some (secD s) := at_of' (j := r2.toNat) (by omega) (by rw [List.getElem?_map, hs']; rfl)
          wtm_at "a"
          refine de_tup ?_
          wtm_at "a"
          refine ro_ixL (.own (hlast _ _)) hsD ?_
          wtm_at "a"
          refine ⟨by simp, ?_⟩
          wtm_at "a"
          refine rset_lst (hlast _ _) (j := r2.toNat) (by unfold ixN; rw [if_pos h20, if_pos (by rw [List.length_map]; omega)]) ?_
          rw [hsetl]
          refine ⟨z2, fnd.set r2.toNat (top, s.2), _, _, rfl, ?_, by simp [hfl], fun y hy => ?_⟩
          · rw [List.map_set]; rfl
          · rcases List.mem_or_eq_of_mem_set hy with m | m
            · exact hfs y m
            · subst m; exact ⟨ht1, ht2⟩
        · exact ⟨z1, fnd, _, _, rfl, rfl, hfl, hfs⟩
      · exact ⟨z, fnd, _, _, rfl, rfl, hfl, hfs⟩
    rintro ρ' μ' ⟨z, fnd, y7, y8, rfl, rfl, hfl, hfs⟩
    -- the last one is not tied
    obtain ⟨ini, s, rfl⟩ : ∃ ini s, fnd = ini ++ [s] := by
      rcases List.eq_nil_or_concat fnd with e | ⟨ini, s, e⟩
      · subst e; simp at hfl; omega
      · exact ⟨ini, s, by simpa using e⟩
    have hat : atI ((ini ++ [s]).map secD) (-1) = some (secD s) := by
      rw [List.map_append]
      exact atI_last _ _
    wtm_at "a"
    refine de_tup ?_
    wtm_at "a"
    refine ro_ixL (.own (hlast _ _)) hat ?_
    wtm_at "a"
    refine ⟨by simp, ?_⟩
    wtm_at "a"
    refine rset_lst (hlast _ _) (j := ini.length) (by unfold ixN; simp; omega) ?_
    rw [hsetl]
    have hnew' : (((ini ++ [s]).map secD).set ini.length (.tup [.int s.1, .bl false])) = (ini ++ [(s.1, false)]).map secD := by
      rw [List.map_append, List.set_append_right _ _ (by simp)]
      simp [secD]
    rw [hnew']
    have hgood : Good (ini ++ [(s.1, false)]) := by
      have hl2 : (ini ++ [(s.1, false)]).length = many.toNat := by rw [← hfl]; simp
      refine ⟨by omega, by omega, fun y hy => ?_, fun y hy => ?_⟩
      · rcases List.mem_append.mp hy with m | m
        · exact hfs y (List.mem_append_left _ m)
        · simp at m; subst m; exact hfs s (List.mem_append_right _ (by simp))
      · rw [List.getLast?_append] at hy
        simp at hy
        subst hy
        rfl
    have hres := h _ z hgood (by have : (ini ++ [(s.1, false)]).length = many.toNat := by (rw [← hfl]; simp)
                                 omega)
    have hclS : ∀ n, clL ((ini ++ [(s.1, false)]).map secD) n = true := fun n => clL_map fun x _ => by simp [secD, D.cl, clL]
    rcases hres with hres | hres
    · refine ds_ret (de_frz ?_)
      wtm_at "a"
      refine ⟨_, _, rfl, hlast _ _, ?_⟩
      rw [hsetl]
      exact ret_same (by simp) (by rw [hlen]; exact hcl z) (by unfold D.cl; exact hclS _) hres
    · rw [hlen] at hres
      wtm_at "a"
      refine ret_same0 (by simp) ?_ (by simp [D.cl]) hres
      refine MuCl.app (by rw [hlen]; exact hcl z) (by simp only [MO.cl]; exact hclS _)
end
/-! ### cuts: contracts and their plain law -/
def c_law_word (K : PySem.W.Frag) : CT := fun ds μ P PX => ∃ x gs, ds = [.exc (He.ga K x) gs] ∧ x ∈ excNames ∧ P (.str x) μ
/-! the blocks of a book lie side by side -/
def BlkCh (n : Int) : Int → List (Int × Int) → Prop
  | a, [] => a = n
  | a, (f, e) :: r => f = a ∧ a < e ∧ BlkCh n e r
theorem BlkCh.le {n : Int} : ∀ {bs : List (Int × Int)} {a : Int}, BlkCh n a bs → a ≤ n
  | [], a, h => by simp [BlkCh] at h; omega
  | (f, e) :: r, a, h => by
    have := h.2.2.le
    have := h.2.1
    omega
theorem BlkCh.mem {n : Int} : ∀ {bs : List (Int × Int)} {a : Int}, BlkCh n a bs → ∀ p ∈ bs, a ≤ p.1 ∧ p.1 < p.2 ∧ p.2 ≤ n
  | [], a, h, p, hp => by simp at hp
  | (f, e) :: r, a, h, p, hp => by
    obtain ⟨h1, h2, h3⟩ := h
    rcases List.mem_cons.mp hp with m | m
    · subst m; exact ⟨by show a ≤ f; omega, by show f < e; omega, h3.le⟩
    · have := h3.mem p m; omega
def t_law_word (K : PySem.W.Frag) (E : XK) : TS :=
    (tSeq (tAsg (tLst (tCons (tCB (rIsX K) (tCons (tVar 0) (tCons (tC (.ref (He.ga K "BadBook"))) tNil))) (tCons (tCB (rIsX K) (tCons (tVar 0) (tCons (tC (.ref (He.ga K "BadCalendar"))) tNil))) (tCons (tCB (rIsX K) (tCons (tVar 0) (tCons (tC (.ref (He.ga K "BadFeast"))) tNil))) (tCons (tCB (rIsX K) (tCons (tVar 0) (tCons (tC (.ref (He.ga K "BadRow"))) tNil))) tNil))))) (gName 1))
      (tSeq (tAsg (tOp (rAddA K) (tVar 1) (tLst (tCons (tCB (rIsX K) (tCons (tVar 0) (tCons (tC (.ref (He.ga K "BadHouse"))) tNil))) (tCons (tCB (rIsX K) (tCons (tVar 0) (tCons (tC (.ref (He.ga K "BadNumber"))) tNil))) (tCons (tCB (rIsX K) (tCons (tVar 0) (tCons (tC (.ref (He.ga K "NoDay"))) tNil))) (tCons (tCB (rIsX K) (tCons (tVar 0) (tCons (tC (.ref (He.ga K "NoRow"))) tNil))) tNil)))))) (gName 1))
      (tSeq (tAsg (tOp (rAddA K) (tVar 1) (tLst (tCons (tCB (rIsX K) (tCons (tVar 0) (tCons (tC (.ref (He.ga K "NoPiece"))) tNil))) (tCons (tCB (rIsX K) (tCons (tVar 0) (tCons (tC (.ref (He.ga K "TooTight"))) tNil))) (tCons (tCB (rIsX K) (tCons (tVar 0) (tCons (tC (.ref (He.ga K "NeverDone"))) tNil))) tNil))))) (gName 1))
      (tSeq (tAsg (tOp (rAddA K) (tVar 1) (tLst (tCons (tCB (rIsX K) (tCons (tVar 0) (tCons (tC (.ref (He.ga K "TooFar"))) tNil))) (tCons (tCB (rIsX K) (tCons (tVar 0) (tCons (tC (.ref (He.ga K "NoDeed"))) tNil))) (tCons (tCB (rIsX K) (tCons (tVar 0) (tCons (tC (.ref (He.ga K "BadText"))) tNil))) tNil))))) (gName 1))
      (tSeq (tAsg (tLst (tCons (tC (.str "BadBook")) (tCons (tC (.str "BadCalendar")) (tCons (tC (.str "BadFeast")) (tCons (tC (.str "BadRow")) (tCons (tC (.str "BadHouse")) (tCons (tC (.str "BadNumber")) (tCons (tC (.str "NoDay")) (tCons (tC (.str "NoRow")) (tCons (tC (.str "NoPiece")) tNil)))))))))) (gName 2))
      (tSeq (tAsg (tOp (rAddA K) (tVar 2) (tLst (tCons (tC (.str "TooTight")) (tCons (tC (.str "NeverDone")) (tCons (tC (.str "TooFar")) (tCons (tC (.str "NoDeed")) (tCons (tC (.str "BadText")) tNil))))))) (gName 2))
      (tSeq (tAsg (tLc (iZip K (tCons (tVar 2) (tCons (tVar 1) tNil))) (gTup K 2 (gCons (gName 4) (gCons (gName 5) gNil))) (tTruth K (tVar 5)) (tVar 4) [4, 5]) (gName 3))
      (tRet (tIf (tAnd (tTest (tOp (rEqD K) (tCB (rLen K) (tCons (tVar 3) tNil)) (tC (.int 1)))) (tTruth K (tCB (rIsX K) (tCons (tVar 0) (tCons (tC (.ty "ValueError")) tNil))))) (tOp (rIx K) (tVar 3) (tC (.int 0))) (tC (.str "other")))))))))))
/-! ### the greedy way, plainly: marks 0..k, L i j how long it is from mark i to mark j -/
/-! the marks of a book -/
theorem BlkCh.mono {n : Int} : ∀ {bs : List (Int × Int)} {a : Int}, BlkCh n a bs → ∀ i j, i ≤ j → j ≤ bs.length → a ≤ (a :: bs.map (·.2)).getD i 0 ∧ (a :: bs.map (·.2)).getD i 0 ≤ (a :: bs.map (·.2)).getD j 0 ∧ (a :: bs.map (·.2)).getD j 0 ≤ n
  | [], a, h, i, j, h1, h2 => by
    have : i = 0 ∧ j = 0 := by simp at h2; omega
    obtain ⟨rfl, rfl⟩ := this
    have : a = n := h
    simp; omega
  | (f, e) :: r, a, ⟨h1, h2, h3⟩, i, j, hi, hj => by
    have q0 := h3.le
    cases j with
    | zero =>
      have : i = 0 := by omega
      subst this
      simp; omega
    | succ j =>
      simp at hj
      cases i with
      | zero =>
        have := h3.mono 0 j (by omega) hj
        simp at this ⊢
        omega
      | succ i =>
        have := h3.mono i j (by omega) hj
        simp at this ⊢
        omega
section
variable {K : PySem.W.Frag}
theorem d_law_word (kx : KExc K excNames) : ∀ ds μ P PX, c_law_word K ds μ P PX → MuCl μ μ.length → clL ds μ.length = true → ∀ B E, XAg K B (RetX μ.length PX) E → DS K B (t_law_word K E) (startD ["_law_e", "_law_found", "_law_words", "_law_some", "_law_word_here", "_law_good"] ds) μ (fnE μ.length P) := by
  intro ds μ P PX h hm hc B E hE
  obtain ⟨x, gs, rfl, hx, h⟩ := h
  show DS K B _ [some (.exc (He.ga K x) gs), none, none, none, none, none] μ _
  unfold t_law_word
  have is : ∀ {y : Str} {Q : D → Mu → Prop}, y ∈ excNames → Q (.bl (decide (x = y))) μ → RC K (rIsX K) [.exc (He.ga K x) gs, .loc (He.ga K y)] μ Q := fun hy q => rc_isX (kx.ec x hx) (.loc _) (kx.is x hx _ hy) q
  have L4 : ∀ {a b c d : Str} {ρ : En} {Q : D → Mu → Prop}, ρ[0]? = some (some (.exc (He.ga K x) gs)) → a ∈ excNames → b ∈ excNames → c ∈ excNames → d ∈ excNames → Q (.lst [.bl (decide (x = a)), .bl (decide (x = b)), .bl (decide (x = c)), .bl (decide (x = d))]) μ →
      DE K B (tLst (tCons (tCB (rIsX K) (tCons (tVar 0) (tCons (tC (.ref (He.ga K a))) tNil))) (tCons (tCB (rIsX K) (tCons (tVar 0) (tCons (tC (.ref (He.ga K b))) tNil))) (tCons (tCB (rIsX K) (tCons (tVar 0) (tCons (tC (.ref (He.ga K c))) tNil))) (tCons (tCB (rIsX K) (tCons (tVar 0) (tCons (tC (.ref (He.ga K d))) tNil))) tNil))))) ρ μ Q := by
    intro a b c d ρ Q hρ ha hb hc hd q
    refine de_lstZ ?_
    wtm_at "A"
    refine is ha ?_
    wtm_at "A"
    refine is hb ?_
    wtm_at "A"
    refine is hc ?_
    wtm_at "A"
    refine is hd ?_
    wtm_at "A"
    exact q
  have L3 : ∀ {a b c : Str} {ρ : En} {Q : D → Mu → Prop}, ρ[0]? = some (some (.exc (He.ga K x) gs)) → a ∈ excNames → b ∈ excNames → c ∈ excNames → Q (.lst [.bl (decide (x = a)), .bl (decide (x = b)), .bl (decide (x = c))]) μ →
      DE K B (tLst (tCons (tCB (rIsX K) (tCons (tVar 0) (tCons (tC (.ref (He.ga K a))) tNil))) (tCons (tCB (rIsX K) (tCons (tVar 0) (tCons (tC (.ref (He.ga K b))) tNil))) (tCons (tCB (rIsX K) (tCons (tVar 0) (tCons (tC (.ref (He.ga K c))) tNil))) tNil)))) ρ μ Q := by
    intro a b c ρ Q hρ ha hb hc q
    refine de_lstZ ?_
    wtm_at "A"
    refine is ha ?_
    wtm_at "A"
    refine is hb ?_
    wtm_at "A"
    refine is hc ?_
    wtm_at "A"
    exact q
  wtm_at "A"
  refine L4 rfl (by simp [excNames]) (by simp [excNames]) (by simp [excNames]) (by simp [excNames]) ?_
  wtm_at "A"
  refine L4 rfl (by simp [excNames]) (by simp [excNames]) (by simp [excNames]) (by simp [excNames]) ?_
  wtm_at "A"
  refine ro_addL (.lst _) (.lst _) (by simp) ?_
  wtm_at "A"
  refine L3 rfl (by simp [excNames]) (by simp [excNames]) (by simp [excNames]) ?_
  wtm_at "A"
  refine ro_addL (.lst _) (.lst _) (by simp) ?_
  wtm_at "A"
  refine L3 rfl (by simp [excNames]) (by simp [excNames]) (by simp [excNames]) ?_
  wtm_at "A"
  refine ro_addL (.lst _) (.lst _) (by simp) ?_
  wtm_at "A"
  refine de_lstZ ?_
  wtm_at "A"
  refine de_lstZ ?_
  wtm_at "A"
  refine ro_addL (.lst _) (.lst _) (by simp) ?_
  wtm_at "A"
  refine lc_filt (fun d => match d with | .tup [_, .bl b] => b | _ => false) (fun d => match d with | .tup [.str s, _] => .str s | _ => .non) (gw_tup (gws_cons (i := 4) (vs := [4, 5]) (by simp) (gws_cons (i := 5) (by simp) gws_nil))) ?_
  refine di_zip ?_
  wtm_at "A"
  refine ⟨_, _, rfl, trivial, by simp [zipD], fun j d hj => ?_, fun out ho => ?_⟩
  · obtain ⟨a, b, ha, hb, rfl⟩ := zipD_some hj
    have hb' : ∃ v, b = .bl v := by
      have := List.mem_of_getElem? hb
      simp at this
      rcases this with h | h | h | h | h | h | h | h | h | h | h | h | h | h <;> exact ⟨_, h⟩
    have ha' : ∃ v, a = .str v := by
      have := List.mem_of_getElem? ha
      simp at this
      rcases this with h | h | h | h | h | h | h | h | h | h | h | h | h | h <;> exact ⟨_, h⟩
    obtain ⟨v, rfl⟩ := hb'
    obtain ⟨u, rfl⟩ := ha'
    wtm_at "A"
    refine ⟨rfl, ?_⟩
    wtm_at "A"
    refine ⟨rfl, rfl, fun hv => ?_⟩
    wtm_at "A"
    exact ⟨rfl, rfl⟩
  have ho' : out = [.str x] := by
    rw [← ho]
    simp only [excNames, List.mem_cons, List.not_mem_nil, or_false] at hx
    rcases hx with h | h | h | h | h | h | h | h | h | h | h | h | h | h <;> subst h <;> kernel_rfl
  subst ho'
  wtm_at "A"
  refine rc_isX (kx.ec x hx) (.ty _) (kx.ve x hx) ?_
  wtm_at "A"
  refine ro_ixL (.lst _) rfl ?_
  wtm_at "r"
  exact h
end
/-! ### calendars: contracts -/
def areNums : D → Int → Int → Int → Bool
  | .lst xs, long, lo, hi => decide (1 ≤ xs.length) && decide ((xs.length : Int) ≤ long) && xs.all (fun x => isNum x lo hi)
  | _, _, _, _ => false
def c_are_numbers (K : PySem.W.Frag) : CT := fun ds μ P PX => ∃ (x d : D) (long lo hi : Int), ds = [x, .int long, .int lo, .int hi] ∧ Fz μ x d ∧ d.dat = true ∧ long ≤ 100000 ∧ P (.bl (areNums d long lo hi)) μ
abbrev cCal (K : PySem.W.Frag) : Addr := He.ga K "Calendar"
/-- days ahead of the i-th year -/
def preY (ls : List Int) (i : Nat) : Int := (ls.take i).sum
def begins (ls : List Int) : List Int := (List.range ls.length).map (preY ls)
def intsD (ls : List Int) : D := .lst (ls.map D.int)
def calF (ls : List Int) : List (Str × D) := [("lengths", intsD ls), ("begins", intsD (begins ls)), ("whole", .int ls.sum)]
def calD (K : PySem.W.Frag) (ls : List Int) : D := .obj (cCal K) (calF ls)
/-- the days of the years of a calendar -/
structure GCal (ls : List Int) : Prop where
  pos : 0 < ls.length
  most : ls.length ≤ 20
  each : ∀ x ∈ ls, 1 ≤ x ∧ x ≤ 400
structure KCal (K : PySem.W.Frag) : Prop where
  cl : Cls K (cCal K)
  lengths : NoAttr K (cCal K) "lengths"
  begins : NoAttr K (cCal K) "begins"
  whole : NoAttr K (cCal K) "whole"
def c_Calendar_init (K : PySem.W.Frag) : CT := fun ds μ P PX => ∃ k x d, ds = [.own k, x] ∧ μ[k]? = some (.ins (cCal K) []) ∧ Fz μ x d ∧ d.dat = true ∧
  (∀ ls, d = intsD ls → GCal ls → P .non (μ.set k (.ins (cCal K) (calF ls)))) ∧ (areNums d 20 1 400 = false → PX (He.ga K "BadCalendar") [] μ)
/-- how long the year is -/
def longY (ls : List Int) (y : Int) : Int := ls.getD (y % ls.length).toNat 0
def firstY (ls : List Int) (y : Int) : Int := y / ls.length * ls.sum + preY ls (y % ls.length).toNat
/-! ### .. in plain numbers -/
theorem preY_zero (ls : List Int) : preY ls 0 = 0 := by simp [preY]
theorem preY_succ {ls : List Int} {i : Nat} {x : Int} (h : ls[i]? = some x) : preY ls (i + 1) = preY ls i + x := by
  unfold preY
  rw [List.take_add_one, h]
  simp
theorem preY_all (ls : List Int) : preY ls ls.length = ls.sum := by simp [preY]
/-- day d is the s-th one of the year y -/
structure PosY (ls : List Int) (y s d : Int) : Prop where
  y0 : 0 ≤ y
  s0 : 0 ≤ s
  s1 : s < longY ls y
  d : d = firstY ls y + s
theorem longY_get {ls : List Int} (h : GCal ls) {y : Int} (hy : 0 ≤ y) : ls[(y % ls.length).toNat]? = some (longY ls y) := by
  have hp := h.pos
  have h1 := Int.emod_nonneg y (b := (ls.length : Int)) (by omega)
  have h2 := Int.emod_lt_of_pos y (b := (ls.length : Int)) (by omega)
  unfold longY
  rw [List.getD_eq_getElem?_getD, List.getElem?_eq_getElem (by omega)]
  rfl
theorem longY_bd {ls : List Int} (h : GCal ls) {y : Int} (hy : 0 ≤ y) : 1 ≤ longY ls y ∧ longY ls y ≤ 400 := h.each _ (List.mem_of_getElem? (longY_get h hy))
theorem firstY_succ {ls : List Int} (h : GCal ls) {y : Int} (hy : 0 ≤ y) : firstY ls (y + 1) = firstY ls y + longY ls y := by
  have hp := h.pos
  have h1 := Int.emod_nonneg y (b := (ls.length : Int)) (by omega)
  have h2 := Int.emod_lt_of_pos y (b := (ls.length : Int)) (by omega)
  have hy' := Int.ediv_mul_add_emod y ls.length
  have hs := preY_succ (longY_get h hy)
  by_cases hc : y % ls.length + 1 < ls.length
  · have e : y + 1 = ls.length * (y / ls.length) + (y % ls.length + 1) := by rw [Int.mul_comm]; omega
    have e1 : (y + 1) / ls.length = y / ls.length := by
      have z : (y % ls.length + 1) / ls.length = 0 := Int.ediv_eq_zero_of_lt (by omega) (by omega)
      rw [e, Int.mul_add_ediv_left _ _ (by omega), z]; simp
    have e2 : (y + 1) % ls.length = y % ls.length + 1 := by
      have z : (y % ls.length + 1) % ls.length = y % ls.length + 1 := Int.emod_eq_of_lt (by omega) (by omega)
      rw [e, Int.mul_add_emod_self_left, z]
    unfold firstY
    rw [e1, e2]
    have e3 : (y % ls.length + 1).toNat = (y % ls.length).toNat + 1 := by omega
    rw [e3, hs]
    omega
  · have hl : y % ls.length + 1 = ls.length := by omega
    have e : y + 1 = ls.length * (y / ls.length + 1) := by rw [Int.mul_add, Int.mul_one, Int.mul_comm]; omega
    have e1 : (y + 1) / ls.length = y / ls.length + 1 := by
      rw [e, Int.mul_ediv_cancel_left _ (by omega)]
    have e2 : (y + 1) % ls.length = 0 := by rw [e]; simp
    unfold firstY
    rw [e1, e2]
    have e3 : (y % ls.length).toNat + 1 = ls.length := by omega
    rw [e3, preY_all] at hs
    show (y / ls.length + 1) * ls.sum + preY ls 0 = _
    rw [preY_zero, Int.add_mul, Int.one_mul]
    omega
theorem PosY.next {ls : List Int} (h : GCal ls) {y s d : Int} (p : PosY ls y s d) : if s + 1 = longY ls y then PosY ls (y + 1) 0 (d + 1) else PosY ls y (s + 1) (d + 1) := by
  have := p.y0; have := p.s0; have := p.s1; have := p.d
  split
  · refine ⟨by omega, by omega, ?_, ?_⟩
    · have := longY_bd h (y := y + 1) (by omega); omega
    · rw [firstY_succ h p.y0]; omega
  · exact ⟨by omega, by omega, by omega, by omega⟩
def t_are_numbers (K : PySem.W.Frag) (E : XK) : TS :=
    (tSeq (tIfS (tOr (tNot (tTruth K (tCB (rIsi K) (tCons (tVar 0) (tCons (tC (.ty "list")) tNil))))) (tNot (tTest (tChain (rI0 fun i j => .bl (decide (i ≤ j))) (rI0 fun i j => .bl (decide (i ≤ j))) (tC (.int 1)) (tCB (rLen K) (tCons (tVar 0) tNil)) (tVar 1))))) (tRet (tC (.bl false))) tNext)
      (tRet (tCB (rAll K) (tCons (tLc (iAny K (tVar 0)) (gName 4) tYes (tCall (spD K (c_is_number K)) [] E0 (tCons (tVar 4) (tCons (tVar 2) (tCons (tVar 3) tNil)))) [4]) tNil))))
def t_Calendar_init (K : PySem.W.Frag) (E : XK) : TS :=
    (tSeq (tIfS (tNot (tTruth K (tCall (spD K (c_are_numbers K)) [] E (tCons (tVar 1) (tCons (tC (.int 20)) (tCons (tC (.int 1)) (tCons (tC (.int 400)) tNil))))))) (tRaise0 (He.ga K "BadCalendar") E) tNext)
      (tSeq (sFld K (tVar 0) (tCB (rListOf K) (tCons (tVar 1) tNil)) "lengths")
      (tSeq (sFld K (tVar 0) (tLst tNil) "begins")
      (tSeq (sFld K (tVar 0) (tC (.int 0)) "whole")
      (tFor (iAny K (tFld K (tVar 0) "lengths")) (gName 2) (tSeq (tDrop (tBM K "list" rAppend (tFld K (tVar 0) "begins") (tCons (tFld K (tVar 0) "whole") tNil)))
      (sFldAug K (tVar 0) (tVar 2) rAdd "whole")))))))
section
variable {K : PySem.W.Frag}
theorem d_are_numbers : ∀ ds μ P PX, c_are_numbers K ds μ P PX → MuCl μ μ.length → clL ds μ.length = true → ∀ B E, XAg K B (RetX μ.length PX) E → DS K B (t_are_numbers K E) (startD ["thing", "long", "least", "most", "one"] ds) μ (fnE μ.length P) := by
  intro ds μ P PX h hm hc B E hE
  obtain ⟨x, d, long, lo, hi, rfl, fz, hd, hlong, h⟩ := h
  show DS K B _ [some x, some (.int long), some (.int lo), some (.int hi), none] μ _
  have key : ∀ xs, d = .lst xs → tyD μ x = some "list" → Ls μ x xs → DS K B (t_are_numbers K E) [some x, some (.int long), some (.int lo), some (.int hi), none] μ (fnE μ.length P) := by
    rintro xs rfl ht hl
    have hdx : ∀ y ∈ xs, y.dat = true := by
      unfold D.dat at hd
      exact datL_iff.mp hd
    obtain ⟨S, wk⟩ := hl.wk
    unfold t_are_numbers
    wtm_at "g"
    refine rc_isiB ht (by rfl) ?_
    wtm_at "A"
    refine rc_lenL hl ?_
    have hf : ¬ (1 ≤ xs.length ∧ (xs.length : Int) ≤ long) → Ret μ.length P (.bl false) μ := fun hn => by
      wtm_at "r"
      have : areNums (.lst xs) long lo hi = false := by
        simp [areNums]
        omega
      rw [this] at h
      exact h
    wtm_at "A"
    · exact hf (by omega)
    · refine lc_map (fun d => .bl (isNum d lo hi)) (gw_name (by simp)) ?_
      wtm_at "A"
      refine ⟨xs, S, wk, wk.now, by omega, fun i d hd' => ?_, fun out ho => ?_⟩
      · wtm_at "A"
        refine ⟨rfl, de_call XAg.none ?_⟩
        wtm_at "A"
        exact ⟨d, lo, hi, rfl, hdx d (List.mem_of_getElem? hd'), rfl, rfl⟩
      · wtm_at "A"
        refine rc_all (bs := xs.map (isNum · lo hi)) (by rw [← ho, List.map_map]; exact .lst _) ?_
        wtm_at "r"
        have : areNums (.lst xs) long lo hi = (xs.map (isNum · lo hi)).all id := by
          simp only [areNums, List.all_map]
          rename_i hb
          simp [show 1 ≤ xs.length by omega, show (xs.length : Int) ≤ long by omega]
        rw [this] at h
        exact h
    · exact hf (by omega)
  cases fz with
  | id =>
    by_cases hl : isTy x "list" = true
    · obtain ⟨xs, rfl⟩ := isTy_list hl
      exact key xs rfl rfl (.lst xs)
    · unfold t_are_numbers
      wtm_at "A"
      · exact absurd ‹_› hl
      · wtm_at "r"
        have : areNums x long lo hi = false := by cases x <;> simp_all [areNums, isTy]
        rw [this] at h
        exact h
  | own hk => exact key _ rfl (by simp [tyD, hk]) (.own hk)
theorem nums_ints : ∀ {xs : List D} {lo hi : Int}, xs.all (fun x => isNum x lo hi) = true → ∃ ls : List Int, xs = ls.map D.int ∧ ∀ x ∈ ls, lo ≤ x ∧ x ≤ hi
  | [], _, _, _ => ⟨[], rfl, by simp⟩
  | x :: xs, lo, hi, h => by
    rw [List.all_cons, Bool.and_eq_true] at h
    obtain ⟨ls, rfl, hl⟩ := nums_ints h.2
    cases x <;> simp [isNum] at h
    rename_i n
    exact ⟨n :: ls, rfl, fun y hy => by
      rcases List.mem_cons.mp hy with m | m
      · subst m; exact h.1
      · exact hl y m⟩
theorem areNums_cal {d : D} (h : areNums d 20 1 400 = true) : ∃ ls, d = intsD ls ∧ GCal ls := by
  cases d <;> simp [areNums] at h
  rename_i xs
  obtain ⟨ls, rfl, hl⟩ := nums_ints (lo := 1) (hi := 400) (xs := xs) (by rw [List.all_eq_true]; exact h.2)
  simp at h
  exact ⟨ls, rfl, by omega, by omega, hl⟩
theorem areNums_of {ls : List Int} (h : GCal ls) : areNums (intsD ls) 20 1 400 = true := by
  have := h.pos; have := h.most
  simp [areNums, intsD]
  refine ⟨by omega, fun x hx => ?_⟩
  have := h.each x hx
  simp [isNum]; omega
theorem cl_ints (ls : List Int) (n : Nat) : clL (ls.map D.int) n = true := clL_map fun x _ => by simp [D.cl]
theorem d_Calendar_init (kc : KCal K) : ∀ ds μ P PX, c_Calendar_init K ds μ P PX → MuCl μ μ.length → clL ds μ.length = true → ∀ B E, XAg K B (RetX μ.length PX) E → DS K B (t_Calendar_init K E) (startD ["self", "years", "days"] ds) μ (fnE μ.length P) := by
  intro ds μ P PX h hm hc B E hE
  obtain ⟨k, x, d, rfl, hk, fz, hd, h1, h2⟩ := h
  show DS K B _ [some (.own k), some x, none] μ _
  have c1 := kc.cl; have c2 := kc.lengths; have c3 := kc.begins; have c4 := kc.whole
  unfold t_Calendar_init
  wtm_at "A"
  refine ⟨x, d, 20, 1, 400, rfl, fz, hd, by decide, ?_⟩
  wtm_at "A"
  · exact ds_raise0 hE (retx_same0 hm rfl (h2 ‹_›))
  · rename_i hs
    obtain ⟨ls, rfl, hg⟩ := areNums_cal hs
    have hl : Ls μ x (ls.map D.int) := by
      cases fz with
      | id => exact .lst _
      | own h => exact .own h
    have kl := (List.getElem?_eq_some_iff.mp hk).1
    have hset : ∀ z, (μ.set k z)[k]? = some z := fun z => set_get hk
    have hlen : ∀ z : MO, (List.set μ k z).length = μ.length := fun z => by simp
    refine rc_list hl ?_
    wtm_at "A"
    refine pp_own hk c1 c2 (of_decide_eq_true (by rfl)) ?_
    wtm_at "A"
    refine de_lstOZ ?_
    wtm_at "A"
    rw [hlen]
    refine pp_own (mu_old (hset _)) c1 c3 (of_decide_eq_true (by rfl)) ?_
    rw [set_old (hset _), set_set']
    wtm_at "A"
    refine pp_own (mu_old (hset _)) c1 c4 (of_decide_eq_true (by rfl)) ?_
    rw [set_old (hset _), set_set']
    refine ds_ghostN ?_
    refine ds_for ?_
    wtm_at "A"
    refine fp_own (mu_old (hset _)) c1 c2 rfl ?_
    refine ⟨_, _, .lst _, fun i ρ μ' => ∃ y2, ρ = [some (.own k), some x, y2] ∧ μ' = μ.set k (.ins (cCal K) [("lengths", intsD ls), ("begins", .own μ.length), ("whole", .int (preY ls i))]) ++ [.lst (((List.range i).map (preY ls)).map D.int)],
      ⟨none, rfl, rfl⟩, fun _ _ _ _ _ => trivial, ?_, ?_⟩
    · rintro i d ρ μ' hd' ⟨y2, rfl, rfl⟩
      rw [List.getElem?_map] at hd'
      cases q : ls[i]? with
      | none => rw [q] at hd'; cases hd'
      | some n =>
        rw [q] at hd'
        obtain rfl : D.int n = d := Option.some.inj hd'
        have hi := (List.getElem?_eq_some_iff.mp q).1
        have hmost := hg.most
        have hlast : ∀ z : MO, ∀ o : MO, (μ.set k z ++ [o])[μ.length]? = some o := fun z o => by rw [← hlen z]; exact mu_last
        have hsetl : ∀ z : MO, ∀ o o' : MO, (μ.set k z ++ [o]).set μ.length o' = μ.set k z ++ [o'] := fun z o o' => by rw [← hlen z]; exact set_last
        wtm_at "A"
        refine fp_own (mu_old (hset _)) c1 c3 rfl ?_
        refine ⟨ty_list (.own (hlast _ _)), ?_⟩
        wtm_at "A"
        refine fp_own (mu_old (hset _)) c1 c4 rfl ?_
        wtm_at "A"
        refine rm_app (hlast _ _) (by simp; omega) ?_
        rw [hsetl]
        refine ds_fldAug ?_
        wtm_at "A"
        refine ⟨k, _, _, _, rfl, mu_old (hset _), c1, c4, rfl, ?_⟩
        wtm_at "A"
        refine ro_add ?_
        refine ⟨_, mu_old (hset _), by simp, ?_⟩
        rw [set_old (hset _), set_set']
        refine ⟨_, rfl, ?_⟩
        rw [← preY_succ q, List.range_succ, List.map_append, List.map_append]
        rfl
    · rintro ρ μ' ⟨y2, rfl, rfl⟩
      rw [List.length_map]
      have hlast : ∀ z : MO, ∀ o : MO, (μ.set k z ++ [o])[μ.length]? = some o := fun z o => by rw [← hlen z]; exact mu_last
      have hsetl : ∀ z : MO, ∀ o o' : MO, (μ.set k z ++ [o]).set μ.length o' = μ.set k z ++ [o'] := fun z o o' => by rw [← hlen z]; exact set_last
      refine ⟨_, gh_fld (f := "begins") (mu_old (hset _)) rfl (hlast _ _), ?_⟩
      rw [hsetl, set_old (hset _), set_set', preY_all]
      refine ret_same (by simp) ?_ rfl (h1 ls rfl hg)
      rw [hlen]
      refine hm.set ?_
      show clF (calF ls) _ = true
      simp only [clF, calF, D.cl, intsD, cl_ints, Bool.and_self]
end
/-! ### draws of the calendar laws: contracts -/
/-- what is held: how many draws so far, the cells -/
structure Hd (k k2 : Nat) (c : Int) (ns : List Int) (μ : Mu) : Prop where
  a : μ[k]? = some (.lst [.int c, .own k2])
  b : μ[k2]? = some (.lst (ns.map D.int))
  ne : k ≠ k2
  c0 : 0 ≤ c
  n0 : 0 < ns.length
  n1 : ns.length ≤ 1000
def hold (μ : Mu) (k k2 : Nat) (c : Int) (ns : List Int) : Mu := (μ.set k (.lst [.int c, .own k2])).set k2 (.lst (ns.map D.int))
theorem hold_len {μ : Mu} {k k2 : Nat} {c : Int} {ns : List Int} : (hold μ k k2 c ns).length = μ.length := by simp [hold]
theorem Hd.app {μ : Mu} {k k2 : Nat} {c : Int} {ns : List Int} (h : Hd k k2 c ns μ) (ext : Mu) : Hd k k2 c ns (μ ++ ext) := ⟨mu_old h.a, mu_old h.b, h.ne, h.c0, h.n0, h.n1⟩
theorem Hd.cl {μ : Mu} {k k2 : Nat} {c c' : Int} {ns ns' : List Int} (h : Hd k k2 c ns μ) (hm : MuCl μ μ.length) : MuCl (Dl.hold μ k k2 c' ns') (Dl.hold μ k k2 c' ns').length := by
  have h2 := (List.getElem?_eq_some_iff.mp h.b).1
  rw [hold_len]
  unfold Dl.hold
  refine (hm.set ?_).set ?_
  · simp [MO.cl, clL, D.cl, h2]
  · simp only [MO.cl]
    exact clL_map fun x _ => by simp [D.cl]
/-- a list, a tuple of whole numbers -/
inductive SeqI (μ : Mu) : Bool → D → List Int → Prop
  | lst (xs : List Int) : SeqI μ true (.lst (xs.map D.int)) xs
  | own {k : Nat} {xs : List Int} (h : μ[k]? = some (.lst (xs.map D.int))) : SeqI μ true (.own k) xs
  | tup (xs : List Int) : SeqI μ false (.tup (xs.map D.int)) xs
section
variable {K : PySem.W.Frag}
theorem SeqI.len {μ : Mu} {b : Bool} {x : D} {xs : List Int} {P : D → Mu → Prop} (h : SeqI μ b x xs) (p : P (.int (xs.length : Int)) μ) : RC K (rLen K) [x] μ P := by
  have e : ((xs.map D.int).length : Int) = (xs.length : Int) := by rw [List.length_map]
  cases h with
  | lst => exact rc_lenL (.lst _) (by rw [e]; exact p)
  | own h => exact rc_lenL (.own h) (by rw [e]; exact p)
  | tup => exact rc_lenT' (.tup _) (by rw [e]; exact p)
end
section
variable {K : PySem.W.Frag}
theorem cal_dat (ls : List Int) : (intsD ls).dat = true := by
  unfold intsD D.dat
  rw [datL_iff]
  intro x hx
  obtain ⟨s, _, rfl⟩ := List.mem_map.mp hx
  rfl
theorem clF_cal (ls : List Int) (n : Nat) : clF (calF ls) n = true := by simp only [clF, calF, D.cl, intsD, cl_ints, Bool.and_self]
theorem Fz.app {μ : Mu} {x d : D} (h : Fz μ x d) (ext : Mu) : Fz (μ ++ ext) x d := by
  cases h with
  | id => exact .id _
  | own h => exact .own (mu_old h)
/-- Calendar(..) -/
theorem de_cal {B : Bs} {E : XK} {PX : PXT} {ts : TA} {ρ : En} {μ : Mu} {P : D → Mu → Prop} (hE : XAg K B PX E) (h : DA K B ts ρ μ fun ds μ1 => ∃ x ls, ds = [x] ∧ Fz μ1 x (intsD ls) ∧ GCal ls ∧ P (calD K ls) μ1) : DE K B (tMake (He.ga K "Calendar") (spD K (c_Calendar_init K)) [] E ts) ρ μ P := by
  refine de_make hE da_nd ?_
  refine fun σ G H al hB hσ hA Q hQ => h σ G H al hB hσ hA Q fun vs ds μ1 G1 H1 al1 n1 A1 r1 p1 => hQ vs ds μ1 G1 H1 al1 n1 A1 r1 ?_
  obtain ⟨x, ls, rfl, fz, hg, p⟩ := p1
  have fz' := fz.app [MO.ins (He.ga K "Calendar") []]
  refine ⟨_, x, intsD ls, rfl, mu_last, fz', cal_dat ls, fun ls' e hg' => ⟨rfl, calF ls, ?_, clF_cal ls _, p⟩, fun e => ?_⟩
  · have : ls' = ls := by
      unfold intsD at e
      injection e with e
      exact (List.map_inj_right (fun a b h => by injection h)).mp e.symm
    subst this
    exact set_last
  · exact absurd (areNums_of hg) (by rw [e]; simp)
end
/-! ### == of calendars -/
def c_Calendar_eq (K : PySem.W.Frag) : CT := fun ds μ P PX => ∃ (ls : List Int) (y : D), ds = [calD K ls, y] ∧ ((∃ ms, y = calD K ms ∧ P (.bl (decide (ls = ms))) μ) ∨ ∃ t, TyDV K μ y t ∧ PySem.W.kitOne K t (.ref (cCal K)) = some false ∧ P (.bl false) μ)
def t_Calendar_eq (K : PySem.W.Frag) (E : XK) : TS :=
    (tRet (tAndV (tCB (rIsi K) (tCons (tVar 1) (tCons (tC (.ref (He.ga K "Calendar"))) tNil))) (tOp (rEqD K) (tFld K (tVar 0) "lengths") (tFld K (tVar 1) "lengths"))))
local macro_rules | `(tactic| wtm_at "d7") => `(tactic| with_reducible (first | refine de_xfZ ?_ | refine np_exc ?_))
local macro_rules | `(tactic| wtm_at "g7") => `(tactic| first | refine xf_i (by assumption) (by simp) (by rfl) ?_ | refine ro_eqSS (by decide +kernel) ?_ | refine ro_neSS (by decide +kernel) ?_ | refine ro_eqSd (by decide +kernel) (by decide +kernel) (by decide +kernel) ?_ | refine ro_neSd (by decide +kernel) (by decide +kernel) (by decide +kernel) ?_)
local macro_rules | `(tactic| wtm_at "Q7") => `(tactic| wtm_at "g7")
local macro_rules | `(tactic| wtm_at "Q7") => `(tactic| wtm_at "d7")
local macro_rules | `(tactic| wtm_at "Q7") => `(tactic| wtm_at "Q")
local macro_rules | `(tactic| wtm_at "E") => `(tactic| repeat' first | wtm_at "Q7" | fail)
local macro_rules | `(tactic| wtm_at "QA7") => `(tactic| wtm_at "Q7")
local macro_rules | `(tactic| wtm_at "QA7") => `(tactic| wtm_at "Qs")
local macro_rules | `(tactic| wtm_at "A") => `(tactic| repeat' first | wtm_at "QA7" | fail)
theorem shp_ints (ls : List Int) : (intsD ls).shp 1 = true := by
  unfold intsD
  simp only [D.shp]
  exact shpL_map fun _ _ => rfl
theorem eqv_ints (ls ms : List Int) : eqvD (intsD ls) (intsD ms) = decide (ls = ms) := by
  unfold intsD
  rw [eqvD_lst]
  exact eqvL_map (fun a b => eqvD_int a b) ls ms
section
variable {K : PySem.W.Frag}
theorem d_Calendar_eq (kc : KCal K) (kq : KEq K "Calendar") : ∀ ds μ P PX, c_Calendar_eq K ds μ P PX → MuCl μ μ.length → clL ds μ.length = true → ∀ B E, XAg K B (RetX μ.length PX) E → DS K B (t_Calendar_eq K E) (startD ["self", "other"] ds) μ (fnE μ.length P) := by
  intro ds μ P PX h hm hc B E hE
  obtain ⟨ls, y, rfl, h⟩ := h
  obtain ⟨_, _, _, _⟩ := kc
  show DS K B _ [some (calD K ls), some y] μ _
  unfold t_Calendar_eq
  refine ds_ret (de_andV (de_cb ?_))
  wtm_at "g"
  rcases h with ⟨ms, rfl, h⟩ | ⟨t, ht, hk, h⟩
  · refine rc_isi (.obj kq.ob) (.loc _) kq.is ?_
    refine ⟨true, rfl, fun _ => ?_, fun e => (nomatch e)⟩
    unfold calD
    wtm_at "E"
    refine ro_eqD (n := 1) (m := 1) (.id _) (.id _) (shp_ints _) (shp_ints _) ?_
    rw [eqv_ints]
    exact ret_same0 (Nat.le_refl _) hm rfl h
  · refine rc_isi ht (.loc _) hk ?_
    exact ⟨false, rfl, fun e => (nomatch e), fun _ => ret_same0 (Nat.le_refl _) hm rfl h⟩
/-- .. and no thing of another class -/
theorem ro_calO {E : XK} {μ : Mu} {P : D → Mu → Prop} {ls : List Int} {y : Str} {gs : List (Str × D)} (kn : KNe K "Calendar" y) (h : P (.bl false) μ) : RO K (rEqO K (He.ga K "Calendar") (spD K (c_Calendar_eq K)) E) (calD K ls) (.obj (He.ga K y) gs) μ P :=
  ro_eqO ⟨_, .inl rfl⟩ (.obj kn.ob) kn.nf ⟨ls, _, rfl, .inr ⟨_, .obj kn.ob, kn.is, _, rfl, h⟩⟩
end
/-! ### books known: contracts -/
def c_Book_eq (K : PySem.W.Frag) : CT := fun ds μ P PX => ∃ (ss : List Sec) (y : D), ds = [bookD K ss, y] ∧ ((∃ ts, y = bookD K ts ∧ P (.bl (decide (ss = ts))) μ) ∨ ∃ t, TyDV K μ y t ∧ PySem.W.kitOne K t (.ref (cBook K)) = some false ∧ P (.bl false) μ)
def c_Book_len (K : PySem.W.Frag) : CT := fun ds μ P PX => ∃ ss : List Sec, ds = [bookD K ss] ∧ P (.int (ss.length : Nat)) μ
/-- what is handed to a book in this law -/
structure ThD (d : D) : Prop where
  dat : d.dat = true
  shp : d.shp 6 = true ∨ d = .dct []
  few : ∀ xs, d = .lst xs → xs.length ≤ 1000
def c_law_is_book (K : PySem.W.Frag) : CT := fun ds μ P PX => ∃ d : D, ds = [d] ∧ ThD d ∧ P (.bl (areSecs d)) μ
def c_law_odd_section (K : PySem.W.Frag) : CT := fun ds μ P PX => ∃ (w : Int) (s : Sec) (m : Int), ds = [.int w, secD s, .int m] ∧ 0 ≤ w ∧ w < 17 ∧ 1 ≤ s.1 ∧ s.1 ≤ 1000000000000 ∧ ∀ d : D, d.dat = true → d.shp 5 = true → P d μ
def c_law_spoiled (K : PySem.W.Frag) : CT := fun ds μ P PX => ∃ (k : Nat) (n : Int) (ss : List Sec), ds = [.own k, secsD ss] ∧ μ[k]? = some (.lst [.int n]) ∧ Good ss ∧ ∀ (d : D) (n' : Int), ThD d → P d (μ.set k (.lst [.int n']))
def c_law_right (K : PySem.W.Frag) : CT := fun ds μ P PX => ∃ d : D, ds = [d] ∧ ThD d ∧ P (.bl true) μ
def c_law_equal (K : PySem.W.Frag) : CT := fun ds μ P PX => ∃ (ss : List Sec) (i : Nat), ds = [secsD ss, .int (i : Int)] ∧ Good ss ∧ i < ss.length ∧ P (.bl true) μ
theorem isSec_of {e : D} (h : isSec e = true) : ∃ s : Sec, e = secD s ∧ 1 ≤ s.1 ∧ s.1 ≤ 1000000000000 := by
  unfold isSec at h
  split at h
  · rename_i x b
    cases x with
    | int i =>
      simp [isNum] at h
      exact ⟨(i, b), rfl, h.1, h.2⟩
    | _ => simp [isNum] at h
  · cases h
def lastS (xs : List D) : Bool := match xs.getLast? with
  | some x => !secTied x
  | none => false
theorem areSecs_lst (xs : List D) : areSecs (.lst xs) = (decide (1 ≤ xs.length) && decide (xs.length ≤ 60) && xs.all isSec && lastS xs) := rfl
theorem areSecs_ss {xs : List D} (h : areSecs (.lst xs) = true) : ∃ ss : List Sec, xs = ss.map secD ∧ Good ss := by
  unfold areSecs at h
  simp only [Bool.and_eq_true, decide_eq_true_eq] at h
  obtain ⟨⟨⟨h1, h2⟩, h3⟩, h4⟩ := h
  have key : ∀ xs : List D, xs.all isSec = true → ∃ ss : List Sec, xs = ss.map secD ∧ ∀ s ∈ ss, 1 ≤ s.1 ∧ s.1 ≤ 1000000000000 := fun xs => by
    induction xs with
    | nil => exact fun _ => ⟨[], rfl, by simp⟩
    | cons e t ih =>
      intro h
      rw [List.all_cons, Bool.and_eq_true] at h
      obtain ⟨s, rfl, hs⟩ := isSec_of h.1
      obtain ⟨ss, rfl, hss⟩ := ih h.2
      exact ⟨s :: ss, rfl, fun q hq => by
        rcases List.mem_cons.mp hq with rfl | hq
        · exact hs
        · exact hss q hq⟩
  obtain ⟨ss, rfl, hss⟩ := key xs h3
  rw [List.length_map] at h1 h2
  refine ⟨ss, rfl, by omega, by omega, hss, fun s hs => ?_⟩
  rw [List.getLast?_map, hs] at h4
  simpa [secTied, secD] using h4
theorem secs_shp (ss : List Sec) (n : Nat) : (D.lst (ss.map secD)).shp (n + 2) = true := by
  rw [D.shp]
  simp only [Bool.and_eq_true, decide_eq_true_eq]
  refine ⟨by omega, shpL_map fun s _ => ?_⟩
  simp [secD, D.shp, shpL]
theorem secs_dat (ss : List Sec) : (D.lst (ss.map secD)).dat = true := by
  rw [D.dat, datL_iff]
  intro x hx
  obtain ⟨s, _, rfl⟩ := List.mem_map.mp hx
  rfl
theorem secs_th {ss : List Sec} (h : ss.length ≤ 1000) : ThD (.lst (ss.map secD)) := ⟨secs_dat ss, .inl (secs_shp ss 4), fun xs e => by cases e; rw [List.length_map]; exact h⟩
theorem eqv_secs (ss ts : List Sec) : eqvD (.lst (ss.map secD)) (.lst (ts.map secD)) = decide (ss = ts) := by
  rw [eqvD_lst]
  refine eqvL_map (fun a b => ?_) ss ts
  obtain ⟨a1, a2⟩ := a
  obtain ⟨b1, b2⟩ := b
  simp only [secD, eqvD_tup, eqvL_cons, eqvD_int, eqvD_bl, eqvL_nil, Bool.and_true, Prod.mk.injEq, Bool.decide_and]
theorem ro_bookEq {K : PySem.W.Frag} {E : XK} {μ : Mu} {P : D → Mu → Prop} {ss ts : List Sec} (kq : KEq K "Book") (h : P (.bl (decide (ss = ts))) μ) : RO K (rEqO K (He.ga K "Book") (spD K (c_Book_eq K)) E) (bookD K ss) (bookD K ts) μ P :=
  ro_eqO ⟨_, .inl rfl⟩ (.obj kq.ob) kq.nf ⟨ss, _, rfl, .inl ⟨ts, rfl, _, rfl, h⟩⟩
theorem ro_bookNe {K : PySem.W.Frag} {E : XK} {μ : Mu} {P : D → Mu → Prop} {ss ts : List Sec} (kq : KEq K "Book") (h : P (.bl (!decide (ss = ts))) μ) : RO K (rNeO K (He.ga K "Book") (spD K (c_Book_eq K)) E) (bookD K ss) (bookD K ts) μ P :=
  ro_neO ⟨_, .inl rfl⟩ (.obj kq.ob) kq.nf ⟨ss, _, rfl, .inl ⟨ts, rfl, _, rfl, h⟩⟩
theorem ro_bookO {K : PySem.W.Frag} {E : XK} {μ : Mu} {P : D → Mu → Prop} {ss : List Sec} {y : Str} {gs : List (Str × D)} (kn : KNe K "Book" y) (h : P (.bl false) μ) : RO K (rEqO K (He.ga K "Book") (spD K (c_Book_eq K)) E) (bookD K ss) (.obj (He.ga K y) gs) μ P :=
  ro_eqO ⟨_, .inl rfl⟩ (.obj kn.ob) kn.nf ⟨ss, _, rfl, .inr ⟨_, .obj kn.ob, kn.is, _, rfl, h⟩⟩
theorem cut_upN (xs : List D) (n : Nat) : cutD xs none (some (n : Int)) = xs.take n := by
  unfold cutD
  rw [HT.sIx_none, HT.sIx_nat, List.drop_zero, Nat.sub_zero]
  rcases Nat.le_total n xs.length with h | h
  · rw [Nat.min_eq_left h]
  · rw [Nat.min_eq_right h, List.take_of_length_le (Nat.le_refl _), List.take_of_length_le h]
theorem cut_frN {xs : List D} {n : Nat} (h : n ≤ xs.length) : cutD xs (some (n : Int)) none = xs.drop n := by
  unfold cutD
  rw [HT.sIx_none, HT.sIx_nat, Nat.min_eq_left h, List.take_of_length_le (by simp)]
theorem num_logW {i : Int} (h0 : -(10 ^ 13) < i) (h1 : i < 10 ^ 13) : i.natAbs.log2 < 1920 := by
  by_cases z : i = 0
  · subst z
    decide
  · rw [Nat.log2_lt (by omega)]
    have : (2 : Nat) ^ 44 ≤ 2 ^ 1920 := Nat.pow_le_pow_right (by decide) (by decide)
    omega
theorem num_okW {i : Int} (h : 0 ≤ i) : PyData.strOk (toString i : Str) = true := by
  obtain ⟨m, rfl⟩ : ∃ m : Nat, i = m := ⟨i.toNat, by omega⟩
  refine strOk_iff.mpr fun c hc => ?_
  have e : (toString (m : Int) : Str).cps.toList = (Nat.toDigits 10 m).map Char.toNat := PySem.W.KIN.signs_num m
  rw [e] at hc
  obtain ⟨ch, hch, rfl⟩ := List.mem_map.mp hc
  have h := Nat.isDigit_of_mem_toDigits (b := 10) (n := m) (by decide) (by decide) hch
  simp only [Char.isDigit, Bool.and_eq_true, decide_eq_true_eq] at h
  have h2 : 48 ≤ ch.toNat ∧ ch.toNat ≤ 57 := ⟨h.1, h.2⟩
  omega
mutual
theorem shp_clT : ∀ {d : D} {n : Nat} (m : Nat), d.shp n = true → d.cl m = true
  | .non, _, _, _ => rfl
  | .bl _, _, _, _ => rfl
  | .int _, _, _, _ => rfl
  | .str _, _, _, _ => rfl
  | .tup xs, n, m, h => by
    rw [D.shp, Bool.and_eq_true] at h
    rw [D.cl]
    exact shpL_clT m h.2
  | .lst xs, n, m, h => by
    rw [D.shp, Bool.and_eq_true] at h
    rw [D.cl]
    exact shpL_clT m h.2
  | .rdl xs, n, m, h => by
    rw [D.shp, Bool.and_eq_true] at h
    rw [D.cl]
    exact shpL_clT m h.2
  | .rdt xs, n, m, h => by
    rw [D.shp, Bool.and_eq_true] at h
    rw [D.cl]
    exact shpL_clT m h.2
  | .ty _, _, _, h => by simp [D.shp] at h
  | .obj _ _, _, _, h => by simp [D.shp] at h
  | .dct _, _, _, h => by simp [D.shp] at h
  | .own _, _, _, h => by simp [D.shp] at h
  | .loc _, _, _, h => by simp [D.shp] at h
  | .exc _ _, _, _, h => by simp [D.shp] at h
theorem shpL_clT : ∀ {ds : List D} {n : Nat} (m : Nat), shpL ds n = true → clL ds m = true
  | [], _, _, _ => rfl
  | x :: xs, n, m, h => by
    rw [shpL, Bool.and_eq_true] at h
    rw [clL, shp_clT m h.1, shpL_clT m h.2]
    rfl
end
theorem ThD.cl {d : D} (h : ThD d) (m : Nat) : d.cl m = true := by
  rcases h.shp with q | rfl
  · exact shp_clT m q
  · rfl
theorem th_lst {xs : List D} (h : ∀ e ∈ xs, e.dat = true ∧ e.shp 5 = true) (hl : xs.length ≤ 1000) : ThD (.lst xs) := by
  refine ⟨?_, .inl ?_, fun ys e => by cases e; exact hl⟩
  · rw [D.dat, datL_iff]
    exact fun x hx => (h x hx).1
  · rw [D.shp]
    simp only [Bool.and_eq_true, decide_eq_true_eq]
    exact ⟨by decide, shpL_iff.mpr fun x hx => (h x hx).2⟩
theorem sec_th (s : Sec) : (secD s).dat = true ∧ (secD s).shp 5 = true := ⟨rfl, rfl⟩
theorem cut_mem {xs : List D} {lo hi : Option Int} {x : D} (h : x ∈ cutD xs lo hi) : x ∈ xs := List.mem_of_mem_drop (List.mem_of_mem_take h)
theorem cut_len (xs : List D) (lo hi : Option Int) : (cutD xs lo hi).length ≤ xs.length := by
  unfold cutD
  rw [List.length_take, List.length_drop]
  omega
theorem rep_mem {e x : D} {k : Int} (h : x ∈ repD [e] k) : x = e := by
  unfold repD at h
  obtain ⟨l, hl, hx⟩ := List.mem_flatten.mp h
  have := List.eq_of_mem_replicate hl
  subst this
  simpa using hx
theorem rep_len (e : D) (k : Int) : (repD [e] k).length = k.toNat := by
  unfold repD
  simp
theorem last_at {ss : List Sec} (h : 0 < ss.length) : ∃ s, ss.getLast? = some s ∧ atI (ss.map secD) (-1) = some (secD s) := by
  have hl : ss.length - 1 < ss.length := by omega
  refine ⟨ss[ss.length - 1], by rw [List.getLast?_eq_getElem?, List.getElem?_eq_getElem hl], ?_⟩
  unfold atI
  have e1 : ixN (ss.map secD).length (-1) = some (ss.length - 1) := by
    unfold ixN
    simp
    omega
  rw [e1]
  simp [List.getElem?_eq_getElem hl]
theorem at_natB {α : Type} {xs : List α} {j : Nat} {x : α} (h : xs[j]? = some x) : atI xs (j : Int) = some x := by
  have hl := (List.getElem?_eq_some_iff.mp h).1
  have e : ixN xs.length (j : Int) = some j := by
    unfold ixN
    simp
    omega
  unfold atI
  rw [e]
  exact h
def t_Book_eq (K : PySem.W.Frag) (E : XK) : TS :=
    (tRet (tAndV (tCB (rIsi K) (tCons (tVar 1) (tCons (tC (.ref (He.ga K "Book"))) tNil))) (tOp (rEqD K) (tMeth (He.ga K "Book") "sections" (spD K (c_Book_sections K)) [] E (tVar 0) tNil) (tMeth (He.ga K "Book") "sections" (spD K (c_Book_sections K)) [] E (tVar 1) tNil))))
def t_Book_len (K : PySem.W.Frag) (E : XK) : TS :=
    (tRet (tCB (rLen K) (tCons (tFld K (tVar 0) "parts") tNil)))
def t_law_is_book (K : PySem.W.Frag) (E : XK) : TS :=
    (tSeq (tIfS (tOr (tNot (tTruth K (tCB (rIsi K) (tCons (tVar 0) (tCons (tC (.ty "list")) tNil))))) (tNot (tTest (tChain (rI0 fun i j => .bl (decide (i ≤ j))) (rI0 fun i j => .bl (decide (i ≤ j))) (tC (.int 1)) (tCB (rLen K) (tCons (tVar 0) tNil)) (tC (.int 60)))))) (tRet (tC (.bl false))) tNext)
      (tSeq (tFor (iAny K (tVar 0)) (gName 1) (tSeq (tIfS (tOr (tNot (tTruth K (tCB (rIsi K) (tCons (tVar 1) (tCons (tC (.ty "tuple")) tNil))))) (tOr (tTest (tOp (rNeD K) (tCB (rLen K) (tCons (tVar 1) tNil)) (tC (.int 2)))) (tNot (tTruth K (tCB (rIsi K) (tCons (tOp (rIx K) (tVar 1) (tC (.int 1))) (tCons (tC (.ty "bool")) tNil))))))) (tRet (tC (.bl false))) tNext)
      (tIfS (tOr (tNot (tTruth K (tCB (rIsi K) (tCons (tOp (rIx K) (tVar 1) (tC (.int 0))) (tCons (tC (.ty "int")) tNil))))) (tOr (tTruth K (tCB (rIsi K) (tCons (tOp (rIx K) (tVar 1) (tC (.int 0))) (tCons (tC (.ty "bool")) tNil)))) (tNot (tTest (tChain (rI0 fun i j => .bl (decide (i ≤ j))) (rI0 fun i j => .bl (decide (i ≤ j))) (tC (.int 1)) (tOp (rIx K) (tVar 1) (tC (.int 0))) (tOp (rI CPow fun i j => .int (i ^ j.toNat)) (tC (.int 10)) (tC (.int 12)))))))) (tRet (tC (.bl false))) tNext)))
      (tRet (tNotV (tOp (rIx K) (tOp (rIx K) (tVar 0) (tUn (rU fun i => .int (-i)) (tC (.int 1)))) (tC (.int 1)))))))
def t_law_odd_section (K : PySem.W.Frag) (E : XK) : TS :=
    (tSeq (tAsg (tVar 1) (gTup K 2 (gCons (gName 3) (gCons (gName 4) gNil))))
      (tSeq (tAsg (tLst (tCons (tTup (tCons (tC (.int 0)) (tCons (tVar 4) tNil))) (tCons (tTup (tCons (tUn (rU fun i => .int (-i)) (tVar 3)) (tCons (tVar 4) tNil))) (tCons (tTup (tCons (tOp (rAddA K) (tOp (rAddA K) (tOp (rI CPow fun i j => .int (i ^ j.toNat)) (tC (.int 10)) (tC (.int 12))) (tC (.int 1))) (tVar 2)) (tCons (tVar 4) tNil))) (tCons (tTup (tCons (tC (.bl true)) (tCons (tVar 4) tNil))) (tCons (tTup (tCons (tCB rStrI (tCons (tVar 3) tNil)) (tCons (tVar 4) tNil))) (tCons (tTup (tCons (tC .non) (tCons (tVar 4) tNil))) tNil))))))) (gName 5))
      (tSeq (tAsg (tOp (rAddA K) (tVar 5) (tLst (tCons (tTup (tCons (tVar 3) (tCons (tC (.int 0)) tNil))) (tCons (tTup (tCons (tVar 3) (tCons (tC (.int 1)) tNil))) (tCons (tTup (tCons (tVar 3) (tCons (tC .non) tNil))) (tCons (tLst (tCons (tVar 3) (tCons (tVar 4) tNil))) (tCons (tTup (tCons (tVar 3) tNil)) (tCons (tTup (tCons (tVar 3) (tCons (tVar 4) (tCons (tVar 4) tNil)))) (tCons (tC .non) (tCons (tVar 3) tNil)))))))))) (gName 5))
      (tRet (tOp (rIx K) (tOp (rAddA K) (tVar 5) (tLst (tCons (tTup (tCons (tVar 4) (tCons (tVar 3) tNil))) (tCons (tTup (tCons (tTup (tCons (tVar 3) (tCons (tVar 4) tNil))) tNil)) (tCons (tTup (tCons (tVar 3) (tCons (tLst tNil) tNil))) tNil))))) (tVar 0))))))
def t_law_spoiled (K : PySem.W.Frag) (E : XK) : TS :=
    (tSeq (tAsg (tCall (spD K (c_law_next K)) [] E (tCons (tVar 0) (tCons (tC (.int 24)) tNil))) (gName 2))
      (tSeq (tAsg (tCall (spD K (c_law_next K)) [] E (tCons (tVar 0) (tCons (tCB (rLen K) (tCons (tVar 1) tNil)) tNil))) (gName 3))
      (tSeq (tAsg (tCall (spD K (c_law_next K)) [] E (tCons (tVar 0) (tCons (tOp (rI CPow fun i j => .int (i ^ j.toNat)) (tC (.int 10)) (tC (.int 6))) tNil))) (gName 4))
      (tSeq (tIfS (tTest (tOp (rI0 fun i j => .bl (decide (i < j))) (tVar 2) (tC (.int 17)))) (tRet (tOp (rAddA K) (tOp (rAddA K) (tSl (rSlA K) (tVar 1) tNoPart (tPart (tVar 3))) (tLst (tCons (tCall (spD K (c_law_odd_section K)) [] E (tCons (tVar 2) (tCons (tOp (rIx K) (tVar 1) (tVar 3)) (tCons (tVar 4) tNil)))) tNil))) (tSl (rSlA K) (tVar 1) (tPart (tOp (rAddA K) (tVar 3) (tC (.int 1)))) tNoPart))) tNext)
      (tSeq (tIfS (tTest (tOp (rI0 fun i j => .bl (decide (i < j))) (tVar 2) (tC (.int 19)))) (tRet (tOp (rAddA K) (tSl (rSlA K) (tVar 1) tNoPart (tPart (tUn (rU fun i => .int (-i)) (tC (.int 1))))) (tLst (tCons (tTup (tCons (tOp (rIx K) (tOp (rIx K) (tVar 1) (tUn (rU fun i => .int (-i)) (tC (.int 1)))) (tC (.int 0))) (tCons (tC (.bl true)) tNil))) tNil)))) tNext)
      (tSeq (tIfS (tTest (tOp (rEqD K) (tVar 2) (tC (.int 19)))) (tRet (tThen (tVar 1) (kTup K))) tNext)
      (tSeq (tIfS (tTest (tOp (rEqD K) (tVar 2) (tC (.int 20)))) (tRet (tOp (rAddA K) (tOp rMulA (tLst (tCons (tTup (tCons (tOp (rAddA K) (tC (.int 1)) (tVar 4)) (tCons (tC (.bl false)) tNil))) tNil)) (tOp (rI0 fun i j => .int (i - j)) (tOp (rAddA K) (tC (.int 60)) (tOp rModA (tVar 4) (tC (.int 3)))) (tCB (rLen K) (tCons (tVar 1) tNil)))) (tVar 1))) tNext)
      (tSeq (tIfS (tTest (tOp (rEqD K) (tVar 2) (tC (.int 21)))) (tRet (tOp (rAddA K) (tVar 1) (tOp rMulA (tLst (tCons (tTup (tCons (tC (.int 1)) (tCons (tC (.bl false)) tNil))) tNil)) (tOp (rAddA K) (tOp (rI0 fun i j => .int (i - j)) (tC (.int 61)) (tCB (rLen K) (tCons (tVar 1) tNil))) (tOp rModA (tVar 4) (tC (.int 40))))))) tNext)
      (tSeq (tIfS (tTest (tOp (rEqD K) (tVar 2) (tC (.int 22)))) (tRet (tOp (rIx K) (tLst (tCons (tLst tNil) (tCons (tC .non) (tCons (tC (.int 5)) (tCons (tC (.str "ab")) (tCons tDNewK (tCons (tTup tNil) (tCons (tLst (tCons (tLst tNil) tNil)) (tCons (tC (.bl true)) tNil))))))))) (tOp rModA (tVar 4) (tC (.int 8))))) tNext)
      (tRet (tOp (rAddA K) (tSl (rSlA K) (tVar 1) tNoPart (tPart (tVar 3))) (tSl (rSlA K) (tVar 1) (tPart (tOp (rAddA K) (tVar 3) (tC (.int 1)))) tNoPart))))))))))))
def t_law_right (K : PySem.W.Frag) (E : XK) : TS :=
    (tSeq (tAsg (tIf (tTruth K (tCB (rIsi K) (tCons (tVar 0) (tCons (tC (.ty "list")) tNil)))) (tCB (rListOf K) (tCons (tVar 0) tNil)) (tVar 0)) (gName 1))
      (tSeq (tAsg (tC .non) (gName 2))
      (tSeq (tAsg (tC .non) (gName 3))
      (tSeq (tTry K (.ref (He.ga K "ReadError")) 4 (fun W => (tAsg (tMakeS (He.ga K "Book") (spD K (c_Book_init K)) [] (WE W) (tCons (tVar 1) tNil)) (gName 2))) (tAsg (tVar 4) (gName 3)) (fun _ _ _ _ => False))
      (tSeq (tIfS (tTest (tOp (rOr (rNeD K) rNeD0) (tVar 1) (tVar 0))) (tRet (tC (.bl false))) tNext)
      (tSeq (tIfS (tNot (tTruth K (tCall (spD K (c_law_is_book K)) [] E (tCons (tVar 0) tNil)))) (tRet (tAndV (tNotN (tVar 3)) (tOp (rEqD K) (tCall (spD K (c_law_word K)) [] E (tCons (tVar 3) tNil)) (tC (.str "BadBook"))))) tNext)
      (tSeq (tIfS (tB (tIsN (tVar 2))) (tRet (tC (.bl false))) tNext)
      (tSeq (tDrop (tBM0 K "list" rClear (tVar 1)))
      (tSeq (tFor (iRng1 (tCons (tC (.int 2)) tNil)) (gName 5) (tSeq (tAsg (tMeth (He.ga K "Book") "sections" (spD K (c_Book_sections K)) [] E (tVar 2) tNil) (gName 6))
      (tSeq (tAsg (tMeth (He.ga K "Book") "many" (spD K (c_Book_many K)) [] E (tVar 2) tNil) (gName 7))
      (tSeq (tIfS (tOr (tNot (tTruth K (tCB (rIsi K) (tCons (tVar 7) (tCons (tC (.ty "int")) tNil))))) (tOr (tTruth K (tCB (rIsi K) (tCons (tVar 7) (tCons (tC (.ty "bool")) tNil)))) (tTest (tOp (rNeD K) (tVar 7) (tCB (rLen K) (tCons (tVar 0) tNil)))))) (tRet (tC (.bl false))) tNext)
      (tSeq (tIfS (tOr (tNot (tTruth K (tCB (rIsi K) (tCons (tVar 6) (tCons (tC (.ty "list")) tNil))))) (tOr (tTest (tOp (rNeD K) (tVar 6) (tVar 0))) (tTest (tOp (rNeD K) (tLc (iAny K (tVar 6)) (gName 8) (tNot (tTruth K (tCB (rIsi K) (tCons (tVar 8) (tCons (tC (.ty "tuple")) tNil))))) (tC (.int 1)) [8]) (tLst tNil))))) (tRet (tC (.bl false))) tNext)
      (tSeq (tIfS (tTest (tOp (rNeD K) (tLc (iAny K (tVar 6)) (gName 8) (tOr (tNot (tTruth K (tCB (rIsi K) (tCons (tOp (rIx K) (tVar 8) (tC (.int 1))) (tCons (tC (.ty "bool")) tNil))))) (tTruth K (tCB (rIsi K) (tCons (tOp (rIx K) (tVar 8) (tC (.int 0))) (tCons (tC (.ty "bool")) tNil))))) (tC (.int 1)) [8]) (tLst tNil))) (tRet (tC (.bl false))) tNext)
      (tSeq (tDrop (tBM0 K "list" rReverse (tVar 6)))
      (tDrop (tBM K "list" rAppend (tVar 6) (tCons (tTup (tCons (tC (.int 1)) (tCons (tC (.bl true)) tNil))) tNil))))))))))
      (tRet (tC (.bl true))))))))))))
def t_law_equal (K : PySem.W.Frag) (E : XK) : TS :=
    (tSeq (tAsg (tMake (He.ga K "Book") (spD K (c_Book_init K)) [] E (tCons (tCB (rListOf K) (tCons (tVar 0) tNil)) tNil)) (gName 2))
      (tSeq (tAsg (tOp (rIx K) (tVar 0) (tVar 1)) (gTup K 2 (gCons (gName 3) (gCons (gName 4) gNil))))
      (tSeq (tAsg (tLst (tCons (tOp (rAddA K) (tOp (rAddA K) (tSl (rSlA K) (tVar 0) tNoPart (tPart (tVar 1))) (tLst (tCons (tTup (tCons (tOp (rAddA K) (tOp rModA (tVar 3) (tOp (rI CPow fun i j => .int (i ^ j.toNat)) (tC (.int 10)) (tC (.int 12)))) (tC (.int 1))) (tCons (tVar 4) tNil))) tNil))) (tSl (rSlA K) (tVar 0) (tPart (tOp (rAddA K) (tVar 1) (tC (.int 1)))) tNoPart)) (tCons (tOp (rAddA K) (tVar 0) (tVar 0)) tNil))) (gName 5))
      (tSeq (tAsg (tLc (iAny K (tVar 5)) (gName 6) (tTest (tOp (rI0 fun i j => .bl (decide (i < j))) (tCB (rLen K) (tCons (tVar 6) tNil)) (tC (.int 61)))) (tVar 6) [6]) (gName 5))
      (tSeq (tIfS (tTest (tOp (rI0 fun i j => .bl (decide (i < j))) (tOp (rAddA K) (tVar 1) (tC (.int 1))) (tCB (rLen K) (tCons (tVar 0) tNil)))) (tSeq (tDrop (tBM K "list" rAppend (tVar 5) (tCons (tOp (rAddA K) (tOp (rAddA K) (tSl (rSlA K) (tVar 0) tNoPart (tPart (tVar 1))) (tLst (tCons (tTup (tCons (tVar 3) (tCons (tNotV (tVar 4)) tNil))) tNil))) (tSl (rSlA K) (tVar 0) (tPart (tOp (rAddA K) (tVar 1) (tC (.int 1)))) tNoPart)) tNil)))
      (tDrop (tBM K "list" rAppend (tVar 5) (tCons (tOp (rAddA K) (tSl (rSlA K) (tVar 0) tNoPart (tPart (tVar 1))) (tSl (rSlA K) (tVar 0) (tPart (tOp (rAddA K) (tVar 1) (tC (.int 1)))) tNoPart)) tNil)))) tNext)
      (tSeq (tIfS (tTest (tOp (rNeD K) (tLc (iAny K (tVar 5)) (gName 6) (tOr (tTest (tOp rNotB (tOp (rEqO K (He.ga K "Book") (spD K (c_Book_eq K)) E0) (tVar 2) (tMake (He.ga K "Book") (spD K (c_Book_init K)) [] E0 (tCons (tVar 6) tNil))) (tC (.bl false)))) (tTest (tOp rNotB (tOp (rNeO K (He.ga K "Book") (spD K (c_Book_eq K)) E0) (tMake (He.ga K "Book") (spD K (c_Book_init K)) [] E0 (tCons (tVar 6) tNil)) (tVar 2)) (tC (.bl true))))) (tC (.int 1)) [6]) (tLst tNil))) (tRet (tC (.bl false))) tNext)
      (tSeq (tIfS (tOr (tTest (tOp rNotB (tOp (rEqO K (He.ga K "Book") (spD K (c_Book_eq K)) E) (tVar 2) (tMake (He.ga K "Calendar") (spD K (c_Calendar_init K)) [] E (tCons (tLst (tCons (tC (.int 7)) (tCons (tOp (rAddA K) (tVar 1) (tC (.int 1))) tNil))) tNil))) (tC (.bl false)))) (tTest (tOp rNotB (tOp (rEqO K (He.ga K "Calendar") (spD K (c_Calendar_eq K)) E) (tMake (He.ga K "Calendar") (spD K (c_Calendar_init K)) [] E (tCons (tLst (tCons (tCB (rLen K) (tCons (tVar 0) tNil)) tNil)) tNil)) (tVar 2)) (tC (.bl false))))) (tRet (tC (.bl false))) tNext)
      (tRet (tAndV (tOp rIsB (tOp (rEqO K (He.ga K "Book") (spD K (c_Book_eq K)) E) (tVar 2) (tMake (He.ga K "Book") (spD K (c_Book_init K)) [] E (tCons (tCB (rListOf K) (tCons (tVar 0) tNil)) tNil))) (tC (.bl true))) (tOp (rEqD K) (tCB (rLenO K (He.ga K "Book") (spD K (c_Book_len K)) E) (tCons (tVar 2) tNil)) (tCB (rLen K) (tCons (tVar 0) tNil))))))))))))
def t_law (K : PySem.W.Frag) (E : XK) : TS :=
    (tSeq (tFor (iRng1 (tCons (tCB (rMaxA K) (tCons (tC (.int 1)) (tCons (tCB (rMinA K) (tCons (tC (.int 40)) (tCons (tCB (rLen K) (tCons (tVar 0) tNil)) tNil))) tNil))) tNil)) (gName 1) (tSeq (tAsg (tCall (spD K (c_law_state K)) [] E (tCons (tVar 0) (tCons (tVar 1) tNil))) (gName 2))
      (tSeq (tAsg (tCall (spD K (c_law_next K)) [] E (tCons (tVar 2) (tCons (tC (.int 3)) tNil))) (gName 3))
      (tSeq (tAsg (tCall (spD K (c_law_next K)) [] E (tCons (tVar 2) (tCons (tC (.int 60)) tNil))) (gName 4))
      (tSeq (tAsg (tCall (spD K (c_law_sections K)) [] E (tCons (tVar 2) (tCons (tIf (tTest (tOp (rEqD K) (tOp rModA (tVar 1) (tC (.int 8))) (tC (.int 0)))) (tC (.int 60)) (tC (.int 12))) tNil))) (gName 5))
      (tSeq (tIfS (tOr (tNot (tTruth K (tCall (spD K (c_law_right K)) [] E (tCons (tVar 5) tNil)))) (tAnd (tTest (tOp (rI0 fun i j => .bl (decide (j < i))) (tVar 3) (tC (.int 0)))) (tNot (tTruth K (tCall (spD K (c_law_right K)) [] E (tCons (tCall (spD K (c_law_spoiled K)) [] E (tCons (tVar 2) (tCons (tVar 5) tNil))) tNil)))))) (tRet (tC (.bl false))) tNext)
      (tIfS (tNot (tTruth K (tCall (spD K (c_law_equal K)) [] E (tCons (tVar 5) (tCons (tOp rModA (tVar 4) (tCB (rLen K) (tCons (tVar 5) tNil))) tNil))))) (tRet (tC (.bl false))) tNext)))))))
      (tRet (tC (.bl true))))
section
variable {K : PySem.W.Frag}
theorem d_Book_eq (kb : KBook K) (kq : KEq K "Book") : ∀ ds μ P PX, c_Book_eq K ds μ P PX → MuCl μ μ.length → clL ds μ.length = true → ∀ B E, XAg K B (RetX μ.length PX) E → DS K B (t_Book_eq K E) (startD ["self", "other"] ds) μ (fnE μ.length P) := by
  intro ds μ P PX h hm hc B E hE
  obtain ⟨ss, y, rfl, h⟩ := h
  show DS K B _ [some (bookD K ss), some y] μ _
  unfold t_Book_eq
  refine ds_ret (de_andV (de_cb ?_))
  wtm_at "g"
  rcases h with ⟨ts, rfl, h⟩ | ⟨t, ht, hk, h⟩
  · refine rc_isi (.obj kq.ob) (.loc _) kq.is ?_
    refine ⟨true, rfl, fun _ => ?_, fun e => (nomatch e)⟩
    refine de_op (de_methZ hE ?_)
    wtm_at "v"
    refine mp_obj (by rfl) ?_
    refine da_nil ⟨ss, rfl, .inl ?_⟩
    refine de_methZ hE ?_
    wtm_at "v"
    refine mp_obj (by rfl) ?_
    refine da_nil ⟨ts, rfl, .inl ?_⟩
    refine ro_eqD (n := 2) (m := 2) (.id _) (.id _) (secs_shp ss 0) (secs_shp ts 0) ?_
    rw [eqv_secs]
    exact ret_same0 (Nat.le_refl _) hm rfl h
  · refine rc_isi ht (.loc _) hk ?_
    exact ⟨false, rfl, fun e => (nomatch e), fun _ => ret_same0 (Nat.le_refl _) hm rfl h⟩
theorem d_Book_len (kb : KBook K) : ∀ ds μ P PX, c_Book_len K ds μ P PX → MuCl μ μ.length → clL ds μ.length = true → ∀ B E, XAg K B (RetX μ.length PX) E → DS K B (t_Book_len K E) (startD ["self"] ds) μ (fnE μ.length P) := by
  intro ds μ P PX h hm hc B E hE
  obtain ⟨ss, rfl, h⟩ := h
  obtain ⟨k1, k2⟩ := kb
  show DS K B _ [some (bookD K ss)] μ _
  unfold t_Book_len bookD
  refine ds_ret ?_
  wtm_at "E"
  rw [List.length_map]
  exact ret_same0 (Nat.le_refl _) hm rfl h
theorem d_law_is_book : ∀ ds μ P PX, c_law_is_book K ds μ P PX → MuCl μ μ.length → clL ds μ.length = true → ∀ B E, XAg K B (RetX μ.length PX) E → DS K B (t_law_is_book K E) (startD ["_law_thing", "_law_one"] ds) μ (fnE μ.length P) := by
  intro ds μ P PX h hm hc B E hE
  obtain ⟨d, rfl, ⟨hdat, hshp, hfew⟩, h⟩ := h
  have ret : ∀ b, b = areSecs d → Ret μ.length P (.bl b) μ := fun b e => ret_same0 (Nat.le_refl _) hm rfl (by rw [e]; exact h)
  show DS K B _ [some d, none] μ _
  unfold t_law_is_book
  refine q_when (dt_or (dt_not (dt_truth (de_cb ?_))))
  wtm_at "g"
  refine rc_isiD hdat (by decide) ?_
  refine ⟨_, rfl, ?_⟩
  cases hl : isTy d "list" with
  | false =>
    refine ⟨fun z => (nomatch z), fun _ => ⟨fun _ => ?_, fun z => (nomatch z)⟩⟩
    refine ds_ret ?_
    wtm_at "E"
    exact ret false (by cases d <;> first | rfl | simp [isTy] at hl)
  | true =>
    obtain ⟨xs, rfl⟩ := isTy_list hl
    have hfew := hfew xs rfl
    have hdx : ∀ x ∈ xs, x.dat = true := by rw [D.dat, datL_iff] at hdat; exact hdat
    refine ⟨fun _ => ?_, fun z => (nomatch z)⟩
    refine dt_not (dt_test (de_chain ?_))
    wtm_at "E"
    · rename_i h1 h2
      refine ds_ret ?_
      wtm_at "E"
      exact ret false (by rw [areSecs_lst, decide_eq_false (show ¬ xs.length ≤ 60 by omega)]; simp)
    · rename_i h1 h2
      refine q_for (di_any ?_)
      wtm_at "v"
      refine ⟨_, _, .lst _, ?_⟩
      refine ⟨fun i ρ' μ' => μ' = μ ∧ (∃ y, ρ' = [some (.lst xs), y]) ∧ ∀ e ∈ xs.take i, isSec e = true, ⟨rfl, ⟨_, rfl⟩, by simp⟩, fun _ _ _ _ _ => trivial, ?_, ?_⟩
      · rintro i e ρ' μ' he ⟨rfl, ⟨y, rfl⟩, hall⟩
        have hem := List.mem_of_getElem? he
        have hed := hdx e hem
        have no : isSec e = false → Ret μ'.length P (.bl false) μ' := fun q => ret false (by
          rw [areSecs_lst]
          have : xs.all isSec = false := by
            rw [Bool.eq_false_iff]
            intro z
            rw [List.all_eq_true.mp z e hem] at q
            cases q
          rw [this]
          simp)
        have yes : isSec e = true → ∀ z ∈ xs.take (i + 1), isSec z = true := fun q z hz => by
          rw [List.take_succ, he] at hz
          rcases List.mem_append.mp hz with hz | hz
          · exact hall z hz
          · simp at hz
            subst hz
            exact q
        have stop : isSec e = false → ∀ Pe : DEnds, Pe.rt = Ret μ'.length P → DS K B (tRet (tC (.bl false))) [some (.lst xs), some e] μ' Pe := fun q Pe ePe => ds_ret (de_bl (by rw [ePe]; exact no q))
        refine dg_name ?_
        refine q_when (dt_or (dt_not (dt_truth (de_cb ?_))))
        wtm_at "g"
        refine rc_isiD hed (by decide) ?_
        refine ⟨_, rfl, ?_⟩
        cases ht : isTy e "tuple" with
        | false => exact ⟨fun z => (nomatch z), fun _ => ⟨fun _ => stop (by cases e <;> first | rfl | simp [isTy] at ht) _ rfl, fun z => (nomatch z)⟩⟩
        | true =>
          obtain ⟨ys, rfl⟩ := isTy_tuple ht
          have hyd : ∀ x ∈ ys, x.dat = true := by rw [D.dat, datL_iff] at hed; exact hed
          refine ⟨fun _ => ?_, fun z => (nomatch z)⟩
          refine dt_or (dt_test (de_op ?_))
          wtm_at "g"
          refine rc_lenT' (.tup _) ?_
          wtm_at "g"
          by_cases hy2 : ys.length = 2
          · obtain ⟨a, b, rfl⟩ : ∃ a b, ys = [a, b] := by
              match ys, hy2 with
              | [a, b], _ => exact ⟨a, b, rfl⟩
            have had := hyd a (by simp)
            have hbd := hyd b (by simp)
            refine ⟨_, rfl, ?_⟩
            rw [show (!decide ((([a, b] : List D).length : Int) = 2)) = false from rfl]
            refine ⟨fun _ => ?_, fun z => (nomatch z)⟩
            refine dt_not (dt_truth (de_cb (da_cons (de_op ?_))))
            wtm_at "g"
            refine ro_ixT (.tup _) (i := 1) rfl ?_
            wtm_at "g"
            refine rc_isiD hbd (by decide) ?_
            refine ⟨_, rfl, ?_⟩
            cases hbb : isTy b "bool" with
            | false => exact ⟨fun _ => stop (by cases b <;> first | rfl | simp [isTy] at hbb) _ rfl, fun z => (nomatch z)⟩
            | true =>
              obtain ⟨bb, rfl⟩ := isTy_bool hbb
              refine ⟨fun z => (nomatch z), fun _ => ?_⟩
              refine s_when (dt_or (dt_not (dt_truth (de_cb (da_cons (de_op ?_))))))
              wtm_at "g"
              refine ro_ixT (.tup _) (i := 0) rfl ?_
              wtm_at "g"
              refine rc_isiD had (by decide) ?_
              refine ⟨_, rfl, ?_⟩
              cases hai : isTy a "int" with
              | false => exact ⟨fun z => (nomatch z), fun _ => ⟨fun _ => stop (by cases a <;> first | rfl | simp [isTy] at hai) _ rfl, fun z => (nomatch z)⟩⟩
              | true =>
                refine ⟨fun _ => ?_, fun z => (nomatch z)⟩
                refine dt_or (dt_truth (de_cb (da_cons (de_op ?_))))
                wtm_at "g"
                refine ro_ixT (.tup _) (i := 0) rfl ?_
                wtm_at "g"
                refine rc_isiD had (by decide) ?_
                refine ⟨_, rfl, ?_⟩
                cases hab : isTy a "bool" with
                | true => exact ⟨fun z => (nomatch z), fun _ => ⟨fun _ => stop (by obtain ⟨q, rfl⟩ := isTy_bool hab; rfl) _ rfl, fun z => (nomatch z)⟩⟩
                | false =>
                  obtain ⟨n, rfl⟩ := isTy_int hai hab
                  refine ⟨fun _ => ?_, fun z => (nomatch z)⟩
                  refine dt_not (dt_test (de_chain ?_))
                  wtm_at "E"
                  · rename_i h3 h4
                    exact stop (by
                      have e12 : (10 : Int) ^ (12 : Int).toNat = 1000000000000 := by decide
                      rw [e12] at h4
                      simp [isSec, isNum]
                      omega) _ rfl
                  · rename_i h3 h4
                    refine ⟨rfl, ⟨_, rfl⟩, yes ?_⟩
                    simp [isSec, isNum]
                    exact ⟨h3, h4⟩
                  · rename_i h3
                    exact stop (by simp [isSec, isNum]; omega) _ rfl
          · refine ⟨_, rfl, ?_⟩
            rw [show (!decide ((ys.length : Int) = 2)) = true by simp; omega]
            refine ⟨fun z => (nomatch z), fun _ => ⟨fun _ => stop ?_ _ rfl, fun z => (nomatch z)⟩⟩
            unfold isSec
            split
            · rename_i q
              injection q with q
              subst q
              exact absurd rfl hy2
            · rfl
      · rintro ρ' μ' ⟨rfl, ⟨y, rfl⟩, hall⟩
        rw [List.take_length] at hall
        refine ds_ret (de_notV (de_op (de_op ?_)))
        wtm_at "g"
        obtain ⟨e, he⟩ : ∃ e, xs.getLast? = some e := by
          cases q : xs.getLast? with
          | none =>
            rw [List.getLast?_eq_none_iff] at q
            subst q
            simp at h1
          | some e => exact ⟨e, rfl⟩
        have hel : atI xs (-1) = some e := by
          rw [List.getLast?_eq_getElem?] at he
          have hx1 : xs.length - 1 < xs.length := (List.getElem?_eq_some_iff.mp he).1
          unfold atI
          have e1 : ixN xs.length (-1) = some (xs.length - 1) := by
            unfold ixN
            simp
            omega
          rw [e1]
          exact he
        obtain ⟨s, rfl, _⟩ := isSec_of (hall e (List.mem_of_getLast? he))
        refine ro_ixL (.lst _) hel ?_
        unfold secD
        wtm_at "g"
        refine ro_ixT (.tup _) (i := 1) rfl ?_
        refine ⟨_, rfl, ret _ ?_⟩
        rw [areSecs_lst]
        have ha : xs.all isSec = true := List.all_eq_true.mpr hall
        rw [ha, decide_eq_true (by omega), decide_eq_true (by omega)]
        unfold lastS
        rw [he]
        simp [secTied, secD]
    · rename_i h1
      refine ds_ret ?_
      wtm_at "E"
      exact ret false (by rw [areSecs_lst, decide_eq_false (show ¬ 1 ≤ xs.length by omega)]; simp)
end
section
variable {K : PySem.W.Frag}
theorem d_law_odd_section : ∀ ds μ P PX, c_law_odd_section K ds μ P PX → MuCl μ μ.length → clL ds μ.length = true → ∀ B E, XAg K B (RetX μ.length PX) E → DS K B (t_law_odd_section K E) (startD ["_law_way", "_law_one", "_law_more", "_law_long", "_law_tied", "_law_some"] ds) μ (fnE μ.length P) := by
  intro ds μ P PX h hm hc B E hE
  obtain ⟨w, s, m, rfl, w0, w1, s0, s1, h⟩ := h
  show DS K B _ [some (.int w), some (secD s), some (.int m), none, none, none] μ _
  unfold t_law_odd_section secD
  refine q_asg ?_
  wtm_at "E"
  refine q_set (de_lstZ ?_)
  wtm_at "E"
  refine rc_strI (num_logW (by omega) (by omega)) ?_
  wtm_at "E"
  refine q_set (de_op ?_)
  wtm_at "v"
  refine de_lstZ ?_
  wtm_at "E"
  refine de_lstZ ?_
  wtm_at "E"
  refine ro_addL (.lst _) (.lst _) (by simp) ?_
  refine ds_ret (de_op (de_op ?_))
  wtm_at "v"
  refine de_lstZ ?_
  wtm_at "E"
  refine de_lstZ ?_
  wtm_at "E"
  refine ro_addL (.lst _) (.lst _) (by simp) ?_
  wtm_at "v"
  obtain ⟨z, hz, hz2⟩ := atNN (i := w) (xs := (([.tup [.int 0, .bl s.2], .tup [.int (-s.1), .bl s.2], .tup [.int (10 ^ (12 : Int).toNat + 1 + m), .bl s.2], .tup [.bl true, .bl s.2], .tup [.str (toString s.1), .bl s.2], .tup [.non, .bl s.2]] ++ [.tup [.int s.1, .int 0], .tup [.int s.1, .int 1], .tup [.int s.1, .non], .lst [.int s.1, .bl s.2], .tup [.int s.1], .tup [.int s.1, .bl s.2, .bl s.2], .non, .int s.1] ++ [.tup [.bl s.2, .int s.1], .tup [.tup [.int s.1, .bl s.2]], .tup [.int s.1, .lst []]]) : List D)) w0 (by simpa using w1)
  refine ro_ixL (.lst _) hz ?_
  have hz3 := List.mem_of_getElem? hz2
  have hd : z.dat = true ∧ z.shp 5 = true ∧ z.cl μ.length = true := by
    have ok : PyData.strOk (Str.ofString s.1.repr) = true := num_okW (i := s.1) (by omega)
    simp only [List.mem_append, List.mem_cons, List.not_mem_nil, or_false] at hz3
    rcases hz3 with ((h | h | h | h | h | h) | (h | h | h | h | h | h | h | h)) | (h | h | h) <;> subst h <;> simp [D.dat, datL, D.shp, shpL, D.cl, clL, ok]
  exact ret_same0 (Nat.le_refl _) hm hd.2.2 (h z hd.1 hd.2.1)
theorem d_law_spoiled : ∀ ds μ P PX, c_law_spoiled K ds μ P PX → MuCl μ μ.length → clL ds μ.length = true → ∀ B E, XAg K B (RetX μ.length PX) E → DS K B (t_law_spoiled K E) (startD ["_law_draw", "_law_sections_here", "_law_way", "_law_at", "_law_more"] ds) μ (fnE μ.length P) := by
  intro ds μ P PX h hm hc B E hE
  obtain ⟨k, n, ss, rfl, hk, hg, h⟩ := h
  have hp := hg.pos; have hmo := hg.most
  show DS K B _ [some (.own k), some (secsD ss), none, none, none] μ _
  have ret : ∀ (d : D) (n' : Int), ThD d → Ret μ.length P d (μ.set k (.lst [.int n'])) := fun d n' hd => ret_same0 (by simp) (by rw [List.length_set]; exact hm.set rfl) (hd.cl _) (h d n' hd)
  have hks : ∀ n' : Int, (μ.set k (MO.lst [D.int n']))[k]? = some (.lst [.int n']) := fun n' => set_get hk
  unfold t_law_spoiled
  refine q_set ?_
  wtm_at "E"
  refine ⟨k, n, 24, rfl, hk, by decide, by decide, fun w n1 w0 w1 => ?_⟩
  refine q_set ?_
  unfold secsD
  wtm_at "E"
  rw [List.length_map]
  refine ⟨k, n1, ss.length, rfl, hks _, by omega, by omega, fun a n2 a0 a1 => ?_⟩
  rw [set_set']
  refine q_set ?_
  wtm_at "E"
  refine ⟨k, n2, _, rfl, hks _, by decide, by decide, fun m n3 m0 m1 => ?_⟩
  rw [set_set']
  have m1 : m < 1000000 := m1
  obtain ⟨s, hs⟩ : ∃ s, ss[a.toNat]? = some s := ⟨_, List.getElem?_eq_getElem (by omega)⟩
  have hsl := hg.long s (List.mem_of_getElem? hs)
  have hat : atI (ss.map secD) a = some (secD s) := by
    rw [show a = (a.toNat : Int) by omega]
    exact at_natB (by rw [List.getElem?_map, hs]; rfl)
  have cm : ∀ {lo hi : Option Int} {x : D}, x ∈ cutD (ss.map secD) lo hi → x.dat = true ∧ x.shp 5 = true := fun hx => by
    obtain ⟨q, _, rfl⟩ := List.mem_map.mp (cut_mem hx)
    exact sec_th q
  have sm : ∀ {x : D}, x ∈ ss.map secD → x.dat = true ∧ x.shp 5 = true := fun hx => by
    obtain ⟨q, _, rfl⟩ := List.mem_map.mp hx
    exact sec_th q
  have cl : ∀ (lo hi : Option Int), (cutD (ss.map secD) lo hi).length ≤ 60 := fun lo hi => Nat.le_trans (cut_len _ _ _) (by rw [List.length_map]; exact hmo)
  have one : ∀ {x y : D}, y.dat = true ∧ y.shp 5 = true → x ∈ [y] → x.dat = true ∧ x.shp 5 = true := fun hy hx => by
    simp at hx
    subst hx
    exact hy
  obtain ⟨sl, hsl1, hsl2⟩ := last_at hp
  refine q_when (dt_test (de_op ?_))
  wtm_at "g"
  refine ⟨_, rfl, fun hb => ?_, fun hb => ?_⟩
  · have hb : w < 17 := by simpa using hb
    refine ds_ret (de_op (de_op ?_))
    wtm_at "E"
    refine de_lstZ ?_
    wtm_at "E"
    refine ro_ixL (.lst _) hat ?_
    wtm_at "E"
    refine ⟨w, s, m, rfl, w0, hb, hsl.1, hsl.2, fun d hd1 hd2 => ?_⟩
    wtm_at "E"
    have c1 := cl none (some a)
    have c2 := cl (some (a + 1)) none
    refine ro_addL (.lst _) (.lst _) (by simp; omega) ?_
    wtm_at "E"
    refine ro_addL (.lst _) (.lst _) (by simp; omega) ?_
    refine ret _ _ (th_lst (fun e he => ?_) (by simp; omega))
    rcases List.mem_append.mp he with he | he
    · rcases List.mem_append.mp he with he | he
      · exact cm he
      · exact one ⟨hd1, hd2⟩ he
    · exact cm he
  have hb17 : ¬ w < 17 := by simpa using hb
  clear hb
  refine q_when (dt_test (de_op ?_))
  wtm_at "g"
  refine ⟨_, rfl, fun hb => ?_, fun hb => ?_⟩
  · refine ds_ret (de_op ?_)
    wtm_at "E"
    refine de_lstZ ?_
    wtm_at "E"
    refine ro_ixL (.lst _) hsl2 ?_
    wtm_at "E"
    have c1 := cl none (some (-1))
    refine ro_addL (.lst _) (.lst _) (by simp only [List.length_cons, List.length_nil]; omega) ?_
    refine ret _ _ (th_lst (fun e he => ?_) (by rw [List.length_append]; simp only [List.length_cons, List.length_nil]; omega))
    rcases List.mem_append.mp he with he | he
    · exact cm he
    · exact one (y := .tup [.int sl.1, .bl true]) ⟨rfl, rfl⟩ he
  clear hb
  refine q_when (dt_test (de_op ?_))
  wtm_at "E"
  · refine ds_ret (de_tupOf ?_)
    wtm_at "E"
    refine ret _ _ ⟨?_, .inl ?_, fun xs e => by cases e⟩
    · rw [D.dat, datL_iff]
      exact fun x hx => (sm hx).1
    · rw [D.shp]
      simp only [Bool.and_eq_true, decide_eq_true_eq]
      exact ⟨by decide, shpL_iff.mpr fun x hx => (sm hx).2⟩
  refine q_when (dt_test (de_op ?_))
  wtm_at "E"
  · refine ds_ret (de_op (de_op ?_))
    refine de_lstZ ?_
    wtm_at "E"
    rw [List.length_map]
    have hmod : 0 ≤ m % 3 ∧ m % 3 < 3 := ⟨Int.emod_nonneg _ (by decide), Int.emod_lt_of_pos _ (by decide)⟩
    refine ro_rep (.lst _) ⟨by omega, by omega⟩ (by simp; omega) ?_
    wtm_at "E"
    refine ro_addL (.lst _) (.lst _) (by rw [rep_len, List.length_map]; omega) ?_
    refine ret _ _ (th_lst (fun e he => ?_) (by rw [List.length_append, rep_len, List.length_map]; omega))
    rcases List.mem_append.mp he with he | he
    · rw [rep_mem he]
      exact ⟨rfl, rfl⟩
    · exact sm he
  refine q_when (dt_test (de_op ?_))
  wtm_at "E"
  · refine ds_ret (de_op ?_)
    wtm_at "E"
    refine de_lstZ ?_
    wtm_at "E"
    rw [List.length_map]
    have hmod : 0 ≤ m % 40 ∧ m % 40 < 40 := ⟨Int.emod_nonneg _ (by decide), Int.emod_lt_of_pos _ (by decide)⟩
    refine ro_rep (.lst _) ⟨by omega, by omega⟩ (by simp; omega) ?_
    refine ro_addL (.lst _) (.lst _) (by rw [rep_len, List.length_map]; omega) ?_
    refine ret _ _ (th_lst (fun e he => ?_) (by rw [List.length_append, rep_len, List.length_map]; omega))
    rcases List.mem_append.mp he with he | he
    · exact sm he
    · rw [rep_mem he]
      exact ⟨rfl, rfl⟩
  refine q_when (dt_test (de_op ?_))
  wtm_at "E"
  · refine ds_ret (de_op ?_)
    refine de_lstZ ?_
    refine da_cons (de_lstZ ?_)
    wtm_at "E"
    refine de_dnewF ?_
    wtm_at "E"
    refine de_lstZ ?_
    refine da_cons (de_lstZ ?_)
    wtm_at "E"
    have hmod : 0 ≤ m % 8 ∧ m % 8 < 8 := ⟨Int.emod_nonneg _ (by decide), Int.emod_lt_of_pos _ (by decide)⟩
    obtain ⟨z, hz, hz2⟩ := atNN (i := m % 8) (xs := ([.lst [], .non, .int 5, .str "ab", .dct [], .tup [], .lst [.lst []], .bl true] : List D)) hmod.1 (by simpa using hmod.2)
    refine ro_ixL (.lst _) hz ?_
    have hz3 := List.mem_of_getElem? hz2
    refine ret _ _ ?_
    simp only [List.mem_cons, List.not_mem_nil, or_false] at hz3
    rcases hz3 with h | h | h | h | h | h | h | h <;> subst h
    · exact ⟨rfl, .inl rfl, fun xs e => by cases e; simp⟩
    · exact ⟨rfl, .inl rfl, fun xs e => by cases e⟩
    · exact ⟨rfl, .inl rfl, fun xs e => by cases e⟩
    · exact ⟨rfl, .inl (by decide +kernel), fun xs e => by cases e⟩
    · exact ⟨rfl, .inr rfl, fun xs e => by cases e⟩
    · exact ⟨rfl, .inl rfl, fun xs e => by cases e⟩
    · exact ⟨rfl, .inl rfl, fun xs e => by cases e; simp⟩
    · exact ⟨rfl, .inl rfl, fun xs e => by cases e⟩
  refine ds_ret (de_op ?_)
  wtm_at "E"
  refine ro_addL (.lst _) (.lst _) (Nat.le_trans (Nat.add_le_add (cl _ _) (cl _ _)) (by decide)) ?_
  refine ret _ _ (th_lst (fun e he => ?_) (by rw [List.length_append]; exact Nat.le_trans (Nat.add_le_add (cl _ _) (cl _ _)) (by decide)))
  rcases List.mem_append.mp he with he | he
  · exact cm he
  · exact cm he
end
section
variable {K : PySem.W.Frag}
set_option maxHeartbeats 1000000 in
theorem d_law_right (kb : KBook K) (kx : KExc K excNames) : ∀ ds μ P PX, c_law_right K ds μ P PX → MuCl μ μ.length → clL ds μ.length = true → ∀ B E, XAg K B (RetX μ.length PX) E → DS K B (t_law_right K E) (startD ["_law_thing", "_law_handed", "_law_made", "_law_caught", "_law_e", "_law_turn", "_law_found", "_law_many", "_law_one"] ds) μ (fnE μ.length P) := by
  intro ds μ P PX h hm hc B E hE
  obtain ⟨d, rfl, hth, h⟩ := h
  have hx : ("BadBook" : Str) ∈ excNames := by simp [excNames]
  have fin : ∀ ext, Ret μ.length P (.bl true) (μ ++ ext) := fun ext => ret_same (Nat.le_refl _) hm rfl h
  have hdat := hth.dat
  show DS K B _ [some d, none, none, none, none, none, none, none, none] μ _
  unfold t_law_right
  have fzA : ∀ {μ1 : Mu} {x y : D} {ext : Mu}, Fz μ1 x y → Fz (μ1 ++ ext) x y := fun q => by
    cases q with
    | id => exact .id _
    | own q => exact .own (mu_old q)
  have hneq : ∀ (hd : D) (μ1 : Mu) (P' : D → Mu → Prop), Fz μ1 hd d → (∀ gs, d = .dct gs → hd = d) → P' (.bl false) μ1 → RO K (rOr (rNeD K) rNeD0) hd d μ1 P' := fun hd μ1 P' fz hdd p => by
    rcases hth.shp with q | q
    · refine ro_orL (ro_neD (n := 6) (m := 6) fz (.id _) q q ?_)
      rw [eqvD_refl q]
      exact p
    · have := hdd [] q
      subst this
      subst q
      exact ro_orR (ro_neD0 p)
  have bad : ∀ (hd : D) (ext : Mu), MuCl (μ ++ ext) (μ ++ ext).length → Fz (μ ++ ext) hd d → (∀ gs, d = .dct gs → hd = d) → areSecs d = false → DS K B (tSeq (tAsg (tC .non) (gName 2))
      (tSeq (tAsg (tC .non) (gName 3))
      (tSeq (tTry K (.ref (He.ga K "ReadError")) 4 (fun W => (tAsg (tMakeS (He.ga K "Book") (spD K (c_Book_init K)) [] (WE W) (tCons (tVar 1) tNil)) (gName 2))) (tAsg (tVar 4) (gName 3)) (fun _ _ _ _ => False))
      (tSeq (tIfS (tTest (tOp (rOr (rNeD K) rNeD0) (tVar 1) (tVar 0))) (tRet (tC (.bl false))) tNext)
      (tSeq (tIfS (tNot (tTruth K (tCall (spD K (c_law_is_book K)) [] E (tCons (tVar 0) tNil)))) (tRet (tAndV (tNotN (tVar 3)) (tOp (rEqD K) (tCall (spD K (c_law_word K)) [] E (tCons (tVar 3) tNil)) (tC (.str "BadBook"))))) tNext)
      (tSeq (tIfS (tB (tIsN (tVar 2))) (tRet (tC (.bl false))) tNext)
      (tSeq (tDrop (tBM0 K "list" rClear (tVar 1)))
      (tSeq (tFor (iRng1 (tCons (tC (.int 2)) tNil)) (gName 5) (tSeq (tAsg (tMeth (He.ga K "Book") "sections" (spD K (c_Book_sections K)) [] E (tVar 2) tNil) (gName 6))
      (tSeq (tAsg (tMeth (He.ga K "Book") "many" (spD K (c_Book_many K)) [] E (tVar 2) tNil) (gName 7))
      (tSeq (tIfS (tOr (tNot (tTruth K (tCB (rIsi K) (tCons (tVar 7) (tCons (tC (.ty "int")) tNil))))) (tOr (tTruth K (tCB (rIsi K) (tCons (tVar 7) (tCons (tC (.ty "bool")) tNil)))) (tTest (tOp (rNeD K) (tVar 7) (tCB (rLen K) (tCons (tVar 0) tNil)))))) (tRet (tC (.bl false))) tNext)
      (tSeq (tIfS (tOr (tNot (tTruth K (tCB (rIsi K) (tCons (tVar 6) (tCons (tC (.ty "list")) tNil))))) (tOr (tTest (tOp (rNeD K) (tVar 6) (tVar 0))) (tTest (tOp (rNeD K) (tLc (iAny K (tVar 6)) (gName 8) (tNot (tTruth K (tCB (rIsi K) (tCons (tVar 8) (tCons (tC (.ty "tuple")) tNil))))) (tC (.int 1)) [8]) (tLst tNil))))) (tRet (tC (.bl false))) tNext)
      (tSeq (tIfS (tTest (tOp (rNeD K) (tLc (iAny K (tVar 6)) (gName 8) (tOr (tNot (tTruth K (tCB (rIsi K) (tCons (tOp (rIx K) (tVar 8) (tC (.int 1))) (tCons (tC (.ty "bool")) tNil))))) (tTruth K (tCB (rIsi K) (tCons (tOp (rIx K) (tVar 8) (tC (.int 0))) (tCons (tC (.ty "bool")) tNil))))) (tC (.int 1)) [8]) (tLst tNil))) (tRet (tC (.bl false))) tNext)
      (tSeq (tDrop (tBM0 K "list" rReverse (tVar 6)))
      (tDrop (tBM K "list" rAppend (tVar 6) (tCons (tTup (tCons (tC (.int 1)) (tCons (tC (.bl true)) tNil))) tNil))))))))))
      (tRet (tC (.bl true))))))))))) [some d, some hd, none, none, none, none, none, none, none] (μ ++ ext) (fnE μ.length P) := fun hd ext hme fz hdd hb => by
    obtain ⟨μ1, hμ1⟩ : ∃ μ1, μ1 = μ ++ ext := ⟨_, rfl⟩
    have fin1 := fin ext
    rw [← hμ1] at fz hme fin1 ⊢
    refine q_set ?_
    wtm_at "E"
    refine q_set ?_
    wtm_at "E"
    refine ds_cut (M := fun ρ2 μ2 => μ2 = μ1 ∧ ρ2 = [some d, some hd, some .non, some (.exc (He.ga K "BadBook") []), none, none, none, none, none]) ?_ ?_
    · refine ds_try fun B' hB' W hW => ?_
      refine ds_set (de_makeS hW da_nd ?_)
      wtm_at "E"
      refine ⟨_, hd, d, rfl, mu_last, fzA fz, hdat, fun z => (by rw [hb] at z; cases z), fun _ => ?_⟩
      refine ⟨μ1, [.ins (He.ga K "Book") []], rfl, rfl, hme, rfl, kx.re _ hx, ?_⟩
      refine ds_set ?_
      wtm_at "E"
      exact ⟨rfl, rfl⟩
    rintro ρ2 μ2 ⟨rfl, rfl⟩
    refine q_when (dt_test (de_op ?_))
    wtm_at "v"
    wtm_at "v"
    refine hneq hd _ _ fz hdd ?_
    wtm_at "E"
    refine q_when (dt_not (dt_truth (de_call hE ?_)))
    wtm_at "E"
    refine ⟨d, rfl, hth, ?_⟩
    rw [hb]
    refine ⟨_, rfl, fun _ => ?_, fun z => (nomatch z)⟩
    refine ds_ret (de_andV ?_)
    wtm_at "E"
    refine ⟨_, _, rfl, hx, ?_⟩
    wtm_at "E"
    exact fin1
  refine q_set (de_if (dt_truth (de_cb ?_)))
  wtm_at "g"
  refine rc_isiD hdat (by decide) ?_
  refine ⟨_, rfl, ?_⟩
  cases hl : isTy d "list" with
  | false =>
    refine ⟨fun z => (nomatch z), fun _ => ?_⟩
    wtm_at "E"
    have := bad d [] (by simpa using hm) (by rw [List.append_nil]; exact .id _) (fun _ _ => rfl) (by cases d <;> first | rfl | simp [isTy] at hl)
    rw [List.append_nil] at this
    exact this
  | true =>
    obtain ⟨xs, rfl⟩ := isTy_list hl
    refine ⟨fun _ => ?_, fun z => (nomatch z)⟩
    refine de_cb (da_cons ?_)
    wtm_at "v"
    refine da_nil (rc_listO (.lst _) ?_)
    have hcx : clL xs μ.length = true := by
      have := hth.cl μ.length
      rw [D.cl] at this
      exact this
    cases hb : areSecs (.lst xs) with
    | false => exact bad (.own μ.length) [.lst xs] (hm.app hcx) (.own mu_last) (fun gs e => (by cases e)) hb
    | true =>
      obtain ⟨ss, rfl, hg⟩ := areSecs_ss hb
      have hmo := hg.most
      refine q_set ?_
      wtm_at "E"
      refine q_set ?_
      wtm_at "E"
      refine ds_cut (M := fun ρ2 μ2 => μ2 = μ ++ [.lst (ss.map secD)] ∧ ρ2 = [some (.lst (ss.map secD)), some (.own μ.length), some (bookD K ss), some .non, none, none, none, none, none]) ?_ ?_
      · refine ds_try fun B' hB' W hW => ?_
        refine ds_set (de_makeS hW da_nd ?_)
        wtm_at "E"
        refine ⟨_, .own μ.length, .lst (ss.map secD), rfl, mu_last, fzA (.own mu_last), hdat, fun _ xs e => ?_, fun z => (by rw [hb] at z; cases z)⟩
        cases e
        refine ⟨rfl, _, set_last, ?_, ?_⟩
        · simp only [clF, D.cl, Bool.and_true]
          exact clL_map fun s _ => rfl
        · exact ⟨rfl, rfl⟩
      rintro ρ2 μ2 ⟨rfl, rfl⟩
      refine q_when (dt_test (de_op ?_))
      wtm_at "v"
      wtm_at "v"
      refine hneq _ _ _ (.own mu_last) (fun gs e => (by cases e)) ?_
      wtm_at "E"
      refine q_when (dt_not (dt_truth (de_call hE ?_)))
      wtm_at "E"
      refine ⟨_, rfl, hth, ?_⟩
      rw [hb]
      wtm_at "E"
      refine q_when (dt_B (de_isNZ ?_))
      wtm_at "v"
      refine np_obj ?_
      wtm_at "E"
      refine q_drop (de_bm0 ?_)
      wtm_at "E"
      refine ⟨ty_list (.own mu_last), rm_clear mu_last ?_⟩
      rw [set_last]
      refine q_for ?_
      wtm_at "E"
      refine ⟨by omega, by omega, fun i ρ' μ' => ∃ (ext : Mu) (y5 y6 y7 y8 : Option D), μ' = μ ++ ext ∧ ρ' = [some (.lst (ss.map secD)), some (.own μ.length), some (bookD K ss), some .non, none, y5, y6, y7, y8], ⟨_, _, _, _, _, rfl, rfl⟩, fun _ _ _ _ _ => trivial, ?_, ?_⟩
      · rintro i x ρ' μ' hx' ⟨ext, y5, y6, y7, y8, rfl, rfl⟩
        refine dg_name ?_
        refine q_set (de_methZ hE ?_)
        wtm_at "v"
        refine mp_obj (by rfl) ?_
        refine da_nil ⟨ss, rfl, .inr ?_⟩
        have hk0 : (μ ++ ext ++ [MO.lst (ss.map secD)])[(μ ++ ext).length]? = some (.lst (ss.map secD)) := mu_last
        obtain ⟨j, hj⟩ : ∃ j, j = (μ ++ ext).length := ⟨_, rfl⟩
        obtain ⟨ν, hν⟩ : ∃ ν, ν = μ ++ ext ++ [MO.lst (ss.map secD)] := ⟨_, rfl⟩
        rw [← hj, ← hν] at hk0 ⊢
        refine q_set (de_methZ hE ?_)
        wtm_at "v"
        refine mp_obj (by rfl) ?_
        refine da_nil ⟨ss, rfl, ?_⟩
        refine q_when (dt_or (dt_not (dt_truth (de_cb ?_))))
        wtm_at "E"
        · rename_i hb2
          exact absurd (by simp) hb2
        refine q_when (dt_or (dt_not (dt_truth (de_cb ?_))))
        wtm_at "E"
        refine rc_isiB (n := "list") (by simp only [tyD, hk0]) (by rfl) ?_
        wtm_at "E"
        refine ro_neD (n := 2) (m := 2) (.own hk0) (.id _) (secs_shp ss 0) (secs_shp ss 0) ?_
        rw [eqv_secs, decide_eq_true rfl]
        wtm_at "E"
        have hsec : ∀ {i : Nat} {x : D}, (ss.map secD)[i]? = some x → ∃ s, x = secD s := fun hx => by
          rw [List.getElem?_map] at hx
          obtain ⟨s, _, rfl⟩ := Option.map_eq_some_iff.mp hx
          exact ⟨s, rfl⟩
        have hno : ∀ xs : List D, xs.filter (fun _ => false) = [] := fun xs => by simp
        refine lc_filt (fun _ => false) id (gw_name (by simp)) ?_
        refine di_any ?_
        wtm_at "v"
        refine ⟨_, _, .own hk0, hk0, by rw [List.length_map]; omega, fun n x hx => ?_, fun out ho => ?_⟩
        · obtain ⟨s, rfl⟩ := hsec hx
          refine dg_name ⟨rfl, ?_⟩
          refine dt_not (dt_truth (de_cb ?_))
          wtm_at "E"
          exact ⟨rfl, rfl, fun z => (nomatch z)⟩
        rw [hno] at ho
        subst ho
        refine de_lstZ ?_
        wtm_at "E"
        refine ro_neNil (n := 1) (.id _) rfl ?_
        wtm_at "E"
        refine q_when (dt_test (de_op ?_))
        refine lc_filt (fun _ => false) id (gw_name (by simp)) ?_
        refine di_any ?_
        wtm_at "v"
        refine ⟨_, _, .own hk0, hk0, by rw [List.length_map]; omega, fun n x hx => ?_, fun out ho => ?_⟩
        · obtain ⟨s, rfl⟩ := hsec hx
          refine dg_name ⟨rfl, ?_⟩
          refine dt_or (dt_not (dt_truth (de_cb ?_)))
          wtm_at "E"
          exact ⟨rfl, rfl, fun z => (nomatch z)⟩
        rw [hno] at ho
        subst ho
        refine de_lstZ ?_
        wtm_at "E"
        refine ro_neNil (n := 1) (.id _) rfl ?_
        wtm_at "E"
        refine q_drop (de_bm0 ?_)
        wtm_at "E"
        refine ⟨ty_list (.own hk0), rm_reverse hk0 ?_⟩
        refine ds_drop ?_
        have hk1 : (ν.set j (MO.lst (ss.map secD).reverse))[j]? = some (.lst (ss.map secD).reverse) := set_get hk0
        wtm_at "E"
        refine ⟨ty_list (.own hk1), ?_⟩
        wtm_at "E"
        refine rm_app hk1 (by simp; omega) ?_
        rw [set_set', hν, hj, set_last]
        exact ⟨_, _, _, _, _, by rw [List.append_assoc], rfl⟩
      · rintro ρ' μ' ⟨ext, y5, y6, y7, y8, rfl, rfl⟩
        refine ds_ret ?_
        wtm_at "E"
        exact fin ext
end
def c_law (K : PySem.W.Frag) : CT := fun ds μ P PX => ∃ ns : List Int, ds = [.rdl (ns.map D.int)] ∧ ns.length ≤ 63 ∧ ∀ μ', P (.bl true) μ'
theorem gl_app {α : Type} {A B : List α} (h : B ≠ []) : (A ++ B).getLast? = B.getLast? := by
  rw [List.getLast?_append]
  cases e : B.getLast? with
  | none => exact absurd (List.getLast?_eq_none_iff.mp e) h
  | some x => rfl
theorem good_repl {A B : List Sec} {s t : Sec} (h : Good (A ++ s :: B)) (h1 : 1 ≤ t.1 ∧ t.1 ≤ 1000000000000) (h2 : B = [] → t.2 = s.2) : Good (A ++ t :: B) := by
  refine ⟨by simp; omega, by have := h.most; simpa using this, fun q hq => ?_, fun q hq => ?_⟩
  · rcases List.mem_append.mp hq with z | z
    · exact h.long q (List.mem_append_left _ z)
    · rcases List.mem_cons.mp z with rfl | z
      · exact h1
      · exact h.long q (List.mem_append_right _ (List.mem_cons_of_mem _ z))
  · cases B with
    | nil =>
      rw [gl_app (by simp)] at hq
      simp at hq
      subst hq
      have := h.last s (by rw [gl_app (by simp)]; simp)
      rw [h2 rfl, this]
    | cons b B =>
      refine h.last q ?_
      rw [gl_app (by simp)] at hq ⊢
      rw [List.getLast?_cons_cons] at hq ⊢
      exact hq
theorem good_out {A B : List Sec} {s : Sec} (h : Good (A ++ s :: B)) (hB : B ≠ []) : Good (A ++ B) := by
  have hp := List.length_pos_iff.mpr hB
  refine ⟨by rw [List.length_append]; omega, by have := h.most; simp at this ⊢; omega, fun q hq => ?_, fun q hq => ?_⟩
  · rcases List.mem_append.mp hq with z | z
    · exact h.long q (List.mem_append_left _ z)
    · exact h.long q (List.mem_append_right _ (List.mem_cons_of_mem _ z))
  · refine h.last q ?_
    rw [gl_app hB] at hq
    rw [gl_app (by simp)]
    cases B with
    | nil => exact absurd rfl hB
    | cons b B =>
      rw [List.getLast?_cons_cons]
      exact hq
theorem good_two {ss : List Sec} (h : Good ss) (hl : (ss ++ ss).length ≤ 60) : Good (ss ++ ss) := by
  have hp := h.pos
  refine ⟨by rw [List.length_append]; omega, hl, fun q hq => ?_, fun q hq => ?_⟩
  · rcases List.mem_append.mp hq with z | z <;> exact h.long q z
  · rw [gl_app (by intro e; rw [e] at hp; simp at hp)] at hq
    exact h.last q hq
/-- other sections -/
def OthS (ss : List Sec) (e : D) : Prop := ∃ ts : List Sec, e = .lst (ts.map secD) ∧ Good ts ∧ ts ≠ ss
section
variable {K : PySem.W.Frag}
set_option maxHeartbeats 1000000 in
theorem d_law_equal (kb : KBook K) (kqb : KEq K "Book") (kqc : KEq K "Calendar") (knb : KNe K "Book" "Calendar") (knc : KNe K "Calendar" "Book") : ∀ ds μ P PX, c_law_equal K ds μ P PX → MuCl μ μ.length → clL ds μ.length = true → ∀ B E, XAg K B (RetX μ.length PX) E → DS K B (t_law_equal K E) (startD ["_law_sections_here", "_law_at", "_law_made", "_law_long", "_law_tied", "_law_others", "_law_one"] ds) μ (fnE μ.length P) := by
  intro ds μ P PX h hm hc B E hE
  obtain ⟨ss, i, rfl, hg, hi, h⟩ := h
  have fin : ∀ ext, Ret μ.length P (.bl true) (μ ++ ext) := fun ext => ret_same (Nat.le_refl _) hm rfl h
  have hmo := hg.most; have hpo := hg.pos
  obtain ⟨s, hs⟩ : ∃ s, ss[i]? = some s := ⟨_, List.getElem?_eq_getElem hi⟩
  have hsl := hg.long s (List.mem_of_getElem? hs)
  have hsplit : ss = ss.take i ++ s :: ss.drop (i + 1) := by
    obtain ⟨_, e⟩ := List.getElem?_eq_some_iff.mp hs
    rw [← e, List.getElem_cons_drop, List.take_append_drop]
  have hat : atI (ss.map secD) (i : Int) = some (secD s) := at_natB (by rw [List.getElem?_map, hs]; rfl)
  show DS K B _ [some (secsD ss), some (.int i), none, none, none, none, none] μ _
  unfold t_law_equal
  refine q_set (de_book hE hg ?_)
  unfold secsD
  wtm_at "E"
  refine ⟨rfl, ?_⟩
  refine q_asg ?_
  wtm_at "E"
  refine ro_ixL (.lst _) hat ?_
  refine dg_tup rfl ?_
  wtm_at "E"
  have cu : cutD (ss.map secD) none (some (i : Int)) = (ss.take i).map secD := by rw [cut_upN, List.map_take]
  have cd : cutD (ss.map secD) (some ((i : Int) + 1)) none = (ss.drop (i + 1)).map secD := by
    rw [show ((i : Int) + 1) = ((i + 1 : Nat) : Int) by omega, cut_frN (by rw [List.length_map]; omega), List.map_drop]
  have lt1 : ((ss.take i).map secD).length ≤ 60 := by rw [List.length_map, List.length_take]; omega
  have ld1 : ((ss.drop (i + 1)).map secD).length ≤ 60 := by rw [List.length_map, List.length_drop]; omega
  refine q_set (de_lstZ (da_cons (de_op (de_op ?_))))
  wtm_at "E"
  rw [cu]
  refine de_lstZ ?_
  wtm_at "E"
  refine ro_addL (.lst _) (.lst _) (by simp only [List.length_cons, List.length_nil]; omega) ?_
  wtm_at "E"
  rw [cd]
  refine ro_addL (.lst _) (.lst _) (by rw [List.length_append]; simp only [List.length_cons, List.length_nil]; omega) ?_
  wtm_at "E"
  refine ro_addL (.lst _) (.lst _) (by rw [List.length_map]; omega) ?_
  wtm_at "E"
  have hm12 : s.1 % (10 ^ (12 : Int).toNat) + 1 ≠ s.1 ∧ 1 ≤ s.1 % (10 ^ (12 : Int).toNat) + 1 ∧ s.1 % (10 ^ (12 : Int).toNat) + 1 ≤ 1000000000000 := by
    have e12 : (10 : Int) ^ (12 : Int).toNat = 1000000000000 := by decide
    rw [e12]
    omega
  have oA : OthS ss (.lst ((ss.take i).map secD ++ [.tup [.int (s.1 % (10 ^ (12 : Int).toNat) + 1), .bl s.2]] ++ (ss.drop (i + 1)).map secD)) := by
    refine ⟨ss.take i ++ (s.1 % (10 ^ (12 : Int).toNat) + 1, s.2) :: ss.drop (i + 1), by simp [secD], good_repl (s := s) (by rw [← hsplit]; exact hg) hm12.2 (fun _ => rfl), fun e => ?_⟩
    have e2 := List.append_cancel_left (e.trans hsplit : ss.take i ++ (s.1 % (10 ^ (12 : Int).toNat) + 1, s.2) :: ss.drop (i + 1) = ss.take i ++ s :: ss.drop (i + 1))
    injection e2 with e3 _
    exact hm12.1 (congrArg Prod.fst e3)
  have oB : (ss.map secD ++ ss.map secD).length ≤ 60 → OthS ss (.lst (ss.map secD ++ ss.map secD)) := fun hl => by
    refine ⟨ss ++ ss, by simp, good_two hg (by simpa using hl), fun e => ?_⟩
    have := congrArg List.length e
    rw [List.length_append] at this
    omega
  refine q_set (lc_filtF (fun d => match d with | .lst xs => decide ((xs.length : Int) < 61) | _ => false) id (gw_name (by simp)) ?_)
  refine di_any ?_
  wtm_at "v"
  refine ⟨_, _, .lst _, trivial, by simp, fun n x hx => ?_, fun out ho => .inr ?_⟩
  · obtain ⟨ys, rfl⟩ : ∃ ys, x = .lst ys := by
      have := List.mem_of_getElem? hx
      simp at this
      rcases this with rfl | rfl <;> exact ⟨_, rfl⟩
    refine dg_name ⟨rfl, ?_⟩
    refine dt_test (de_op ?_)
    wtm_at "g"
    refine rc_lenL (.lst _) ?_
    wtm_at "g"
    refine ⟨_, rfl, rfl, rfl, fun _ => ?_⟩
    wtm_at "v"
    exact ⟨rfl, rfl⟩
  have hout : ∀ e ∈ out, OthS ss e := fun e he => by
    rw [← ho, List.map_id] at he
    obtain ⟨h1, h2⟩ := List.mem_filter.mp he
    simp only [List.mem_cons, List.not_mem_nil, or_false] at h1
    rcases h1 with rfl | rfl
    · exact oA
    · simp only [decide_eq_true_eq] at h2
      exact oB (by omega)
  have houtl : out.length ≤ 2 := by
    rw [← ho, List.map_id]
    exact Nat.le_trans (List.length_filter_le _ _) (by simp)
  refine ds_cut (M := fun ρ2 μ2 => ∃ xs : List D, True ∧ μ2 = μ ++ [.lst xs] ∧ xs.length ≤ 4 ∧ (∀ e ∈ xs, OthS ss e) ∧ ∃ z : Option D, ρ2 = [some (.lst (ss.map secD)), some (.int i), some (bookD K ss), some (.int s.1), some (.bl s.2), some (.own μ.length), z]) ?_ ?_
  · refine s_when (dt_test (de_op ?_))
    wtm_at "E"
    · rename_i hb
      have hb : i + 1 < ss.length := by
        first | omega | (rw [List.length_map] at hb; omega)
      have hne : ss.drop (i + 1) ≠ [] := fun e => by
        have := congrArg List.length e
        rw [List.length_drop, List.length_nil] at this
        omega
      refine q_drop ?_
      wtm_at "E"
      refine ⟨ty_list (.own mu_last), ?_⟩
      refine da_cons (de_op (de_op ?_))
      wtm_at "E"
      rw [cu]
      refine de_lstZ ?_
      wtm_at "E"
      refine ro_addL (.lst _) (.lst _) (by simp only [List.length_cons, List.length_nil]; omega) ?_
      wtm_at "E"
      rw [cd]
      refine ro_addL (.lst _) (.lst _) (by rw [List.length_append]; simp only [List.length_cons, List.length_nil]; omega) ?_
      refine da_nil (rm_app mu_last (by omega) ?_)
      rw [set_last]
      refine ds_drop ?_
      wtm_at "E"
      refine ⟨ty_list (.own mu_last), ?_⟩
      refine da_cons (de_op ?_)
      wtm_at "E"
      rw [cu, cd]
      refine ro_addL (.lst _) (.lst _) (by omega) ?_
      refine da_nil (rm_app mu_last (by simp; omega) ?_)
      rw [set_last]
      refine ⟨_, trivial, rfl, by simp; omega, fun e he => ?_, _, rfl⟩
      rcases List.mem_append.mp he with he | he
      · rcases List.mem_append.mp he with he | he
        · exact hout e he
        · simp only [List.mem_cons, List.not_mem_nil, or_false] at he
          subst he
          refine ⟨ss.take i ++ (s.1, !s.2) :: ss.drop (i + 1), by simp [secD], good_repl (s := s) (by rw [← hsplit]; exact hg) hsl (fun e => absurd e hne), fun e => ?_⟩
          have e2 := List.append_cancel_left (e.trans hsplit : ss.take i ++ (s.1, !s.2) :: ss.drop (i + 1) = ss.take i ++ s :: ss.drop (i + 1))
          injection e2 with e3 _
          have := congrArg Prod.snd e3
          simp at this
      · simp only [List.mem_cons, List.not_mem_nil, or_false] at he
        subst he
        refine ⟨ss.take i ++ ss.drop (i + 1), by simp, good_out (s := s) (by rw [← hsplit]; exact hg) hne, fun e => ?_⟩
        have := congrArg List.length e
        rw [List.length_append, List.length_take, List.length_drop] at this
        omega
    · exact ⟨out, trivial, rfl, by omega, hout, _, rfl⟩
  rintro ρ2 μ2 ⟨xs, _, rfl, hxl, hxs, z, rfl⟩
  refine q_when (dt_test (de_op ?_))
  refine lc_filt (fun _ => false) id (gw_name (by simp)) ?_
  refine di_any ?_
  wtm_at "v"
  refine ⟨_, _, .own mu_last, mu_last, by omega, fun n x hx => ?_, fun out2 ho2 => ?_⟩
  · obtain ⟨ts, rfl, hgt, hne⟩ := hxs x (List.mem_of_getElem? hx)
    refine dg_name ⟨rfl, ?_⟩
    refine dt_or (dt_test (de_op (de_op ?_)))
    wtm_at "v"
    refine de_book XAg.none hgt ?_
    wtm_at "E"
    refine ⟨rfl, ?_⟩
    refine ro_bookEq kqb ?_
    rw [decide_eq_false (Ne.symm hne)]
    wtm_at "E"
    refine de_book XAg.none hgt ?_
    wtm_at "E"
    refine ⟨rfl, ?_⟩
    wtm_at "v"
    refine ro_bookNe kqb ?_
    rw [decide_eq_false hne]
    wtm_at "E"
    exact ⟨rfl, rfl, fun z => (nomatch z)⟩
  have ho2 : out2 = [] := by rw [← ho2]; simp
  subst ho2
  refine de_lstZ ?_
  wtm_at "E"
  refine ro_neNil (n := 1) (.id _) rfl ?_
  wtm_at "E"
  refine q_when (dt_or (dt_test (de_op (de_op ?_))))
  wtm_at "v"
  refine de_cal hE ?_
  wtm_at "E"
  refine de_lstZ ?_
  wtm_at "E"
  refine ⟨_, [7, (i : Int) + 1], rfl, .id _, ⟨by simp, by simp, fun x hx => by simp at hx; omega⟩, ?_⟩
  refine ro_bookO knb ?_
  wtm_at "E"
  refine de_cal hE ?_
  wtm_at "E"
  refine de_lstZ ?_
  wtm_at "E"
  refine ⟨_, [(ss.length : Int)], rfl, by rw [List.length_map]; exact .id _, ⟨by simp, by simp, fun x hx => by simp at hx; omega⟩, ?_⟩
  wtm_at "v"
  refine ro_calO knc ?_
  wtm_at "E"
  refine ds_ret (de_andV (de_op (de_op ?_)))
  wtm_at "v"
  refine de_book hE hg ?_
  wtm_at "E"
  refine ⟨rfl, ?_⟩
  refine ro_bookEq kqb ?_
  rw [decide_eq_true rfl]
  wtm_at "E"
  refine rc_lenO ⟨_, .inl rfl⟩ ⟨ss, rfl, ss.length, rfl, by omega, ?_⟩
  wtm_at "E"
  first | rw [decide_eq_true rfl] | (rw [List.length_map, decide_eq_true rfl])
  exact fin _
theorem d_law : ∀ ds μ P PX, c_law K ds μ P PX → MuCl μ μ.length → clL ds μ.length = true → ∀ B E, XAg K B (RetX μ.length PX) E → DS K B (t_law K E) (startD ["_law_script", "_law_k", "_law_draw", "_law_spoil", "_law_at", "_law_sections_here"] ds) μ (fnE μ.length P) := by
  intro ds μ P PX h hm hc B E hE
  obtain ⟨ns, rfl, hl, h⟩ := h
  show DS K B _ [some (.rdl (ns.map D.int)), none, none, none, none, none] μ _
  unfold t_law
  refine q_for ?_
  wtm_at "E"
  refine ⟨by rw [List.length_map]; omega, by rw [List.length_map]; omega, fun i ρ μ' => ∃ (y1 y2 y3 y4 y5 : Option D) (ext : Mu), ρ = [some (.rdl (ns.map D.int)), y1, y2, y3, y4, y5] ∧ μ' = μ ++ ext, ⟨none, none, none, none, none, [], rfl, by simp⟩, fun _ _ _ _ _ => trivial, ?_, ?_⟩
  · rintro i d ρ μ' hd ⟨y1, y2, y3, y4, y5, ext, rfl, rfl⟩
    obtain ⟨hi, rfl⟩ := rangeD_some hd
    refine dg_name ?_
    refine q_set ?_
    wtm_at "E"
    refine ⟨ns, _, rfl, by omega, by rw [List.length_map] at hi; omega, fun n => ?_⟩
    obtain ⟨j, hj⟩ : ∃ j, j = (μ ++ ext).length := ⟨_, rfl⟩
    have hjk : ∀ n : Int, (μ ++ ext ++ [MO.lst [D.int n]])[j]? = some (.lst [.int n]) := fun n => by rw [hj]; exact mu_last
    have hjs : ∀ n n' : Int, (μ ++ ext ++ [MO.lst [D.int n]]).set j (.lst [.int n']) = μ ++ ext ++ [MO.lst [D.int n']] := fun n n' => by rw [hj]; exact set_last
    rw [← hj]
    refine q_set ?_
    wtm_at "E"
    refine ⟨j, n, 3, rfl, hjk n, by decide, by decide, fun sp n1 sp0 sp1 => ?_⟩
    rw [hjs]
    refine q_set ?_
    wtm_at "E"
    refine ⟨j, n1, 60, rfl, hjk n1, by decide, by decide, fun at_ n2 at0 at1 => ?_⟩
    rw [hjs]
    refine q_set (de_call hE (da_cons ?_))
    wtm_at "v"
    refine da_cons ?_
    have hmost : ∀ P' : D → Mu → Prop, (∀ m : Int, 1 ≤ m → m ≤ 60 → P' (.int m) (μ ++ ext ++ [MO.lst [D.int n2]])) → DE K B (tIf (tTest (tOp (rEqD K) (tOp rModA (tVar 1) (tC (.int 8))) (tC (.int 0)))) (tC (.int 60)) (tC (.int 12))) [some (.rdl (ns.map D.int)), some (.int (0 + (i : Int))), some (.own j), some (.int sp), some (.int at_), y5] (μ ++ ext ++ [MO.lst [D.int n2]]) P' := fun P' hP => by
      refine de_if (dt_test (de_op ?_))
      wtm_at "E"
      · exact hP 60 (by decide) (by decide)
      · exact hP 12 (by decide) (by decide)
    refine hmost _ fun m m0 m1 => ?_
    refine da_nil ⟨j, n2, m, rfl, hjk n2, m0, m1, fun ss n3 hg hsl => .inl ?_⟩
    rw [hjs]
    have hp := hg.pos
    refine q_when (dt_or (dt_not (dt_truth (de_call hE ?_))))
    wtm_at "E"
    refine ⟨_, rfl, secs_th (by have := hg.most; omega), ?_⟩
    have last : ∀ n4 : Int, DS K B (tIfS (tNot (tTruth K (tCall (spD K (c_law_equal K)) [] E (tCons (tVar 5) (tCons (tOp rModA (tVar 4) (tCB (rLen K) (tCons (tVar 5) tNil))) tNil))))) (tRet (tC (.bl false))) tNext) [some (.rdl (ns.map D.int)), some (.int (0 + (i : Int))), some (.own j), some (.int sp), some (.int at_), some (.lst (ss.map secD))] (μ ++ ext ++ [MO.lst [D.int n4]]) { nx := fun ρ μ' => ∃ (y1 y2 y3 y4 y5 : Option D) (ext : Mu), ρ = [some (.rdl (ns.map D.int)), y1, y2, y3, y4, y5] ∧ μ' = μ ++ ext, rt := (fnE μ.length P).rt, bk := fun ρ1 μ1 => DS K B (tRet (tC (.bl true))) ρ1 μ1 (fnE μ.length P), ct := fun ρ μ' => ∃ (y1 y2 y3 y4 y5 : Option D) (ext : Mu), ρ = [some (.rdl (ns.map D.int)), y1, y2, y3, y4, y5] ∧ μ' = μ ++ ext } := fun n4 => by
      refine s_when (dt_not (dt_truth (de_call hE ?_)))
      wtm_at "E"
      rw [List.length_map]
      refine ro_mod (by omega) ?_
      have q0 := Int.emod_nonneg at_ (b := (ss.length : Int)) (by omega)
      have q1 := Int.emod_lt_of_pos at_ (b := (ss.length : Int)) (by omega)
      wtm_at "E"
      refine ⟨ss, (at_ % (ss.length : Int)).toNat, by unfold secsD; rw [show (((at_ % (ss.length : Int)).toNat : Nat) : Int) = at_ % (ss.length : Int) by omega], hg, by omega, ?_⟩
      wtm_at "E"
      exact ⟨_, _, _, _, _, ext ++ [MO.lst [D.int n4]], rfl, by rw [List.append_assoc]⟩
    refine ⟨_, rfl, fun _ => ?_, fun z => (nomatch z)⟩
    refine dt_and (dt_test (de_op ?_))
    wtm_at "g"
    refine ⟨_, rfl, fun hb => ?_, fun hb => ⟨fun z => (nomatch z), fun _ => last n3⟩⟩
    refine dt_not (dt_truth (de_call hE (da_cons (de_call hE ?_))))
    wtm_at "E"
    refine ⟨j, n3, ss, rfl, hjk n3, hg, fun d n4 hth => ?_⟩
    rw [hjs]
    refine da_nil ⟨d, rfl, hth, ?_⟩
    exact ⟨_, rfl, fun z => (nomatch z), fun _ => last n4⟩
  · rintro ρ μ' ⟨y1, y2, y3, y4, y5, ext, rfl, rfl⟩
    refine ds_ret ?_
    wtm_at "E"
    exact ret_same (Nat.le_refl _) hm rfl (h _)
end
local macro_rules | `(tactic| wtm_at "ln") => `(tactic| (intro ds μ P PX h; first | (obtain ⟨_, e, _⟩ := h; exact congrArg List.length e) | (obtain ⟨_, _, e, _⟩ := h; exact congrArg List.length e) | (obtain ⟨_, _, _, e, _⟩ := h; exact congrArg List.length e) | (obtain ⟨_, _, _, _, e, _⟩ := h; exact congrArg List.length e) | (obtain ⟨_, _, _, _, _, e, _⟩ := h; exact congrArg List.length e) | (obtain ⟨_, _, _, _, _, _, e, _⟩ := h; exact congrArg List.length e) | (obtain ⟨_, _, _, _, _, _, _, e, _⟩ := h; exact congrArg List.length e) | (obtain ⟨_, _, _, _, _, _, _, _, e, _⟩ := h; exact congrArg List.length e) | (obtain ⟨_, _, _, _, _, _, _, _, _, e, _⟩ := h; exact congrArg List.length e) | (obtain ⟨_, _, _, _, _, _, _, _, _, _, e, _⟩ := h; exact congrArg List.length e) | (obtain ⟨_, _, _, _, _, _, _, _, _, _, _, e, _⟩ := h; exact congrArg List.length e) | (obtain ⟨_, _, _, _, _, _, _, _, _, _, _, _, e, _⟩ := h; exact congrArg List.length e) | (obtain ⟨_, _, _, _, _, _, _, _, _, _, _, _, _, e, _⟩ := h; exact congrArg List.length e) | (obtain ⟨_, _, _, _, _, _, _, _, _, _, _, _, _, _, e, _⟩ := h; exact congrArg List.length e)))
local macro_rules | `(tactic| wtm_at "oi") => `(tactic| first | exact Or.inl rfl | exact Or.inr rfl)
structure FQ (P : Program) (w : World) (K : PySem.W.Frag) (mg : Str → Option Value) (base : Heap) (n : Nat) (f : Addr) (fd : FuncData) (ps : List Str) (C : CT) : Prop where
  F : FnOk P w K mg base (L2.CX P w) n f fd ps (spD K C)
  B : Binds K fd ps []
structure FG (P : Program) (w : World) (K : PySem.W.Frag) (mg : Str → Option Value) (base : Heap) (n : Nat) (f : Addr) (fd : FuncData) (ps : List Str) (C : CT) (x : Str) : Prop extends FQ P w K mg base n f fd ps C where
  m : mg x = some (.ref f)
  k : PySem.W.keepIn K (.ref f) = true
abbrev GD (K : PySem.W.Frag) (a b : Str) (s : Stmt) (f : Addr) (fd : FuncData) : Prop := FunD K a b (defArgs s) (defBody s) (defScope s) [] [] f fd
section
variable {P : Program} {w : World} {K : PySem.W.Frag} {mg : Str → Option Value} {base : Heap}
set_option maxHeartbeats 1000000
local macro_rules | `(tactic| wtm_at "pk") => `(tactic| exact passes_call (takes_of rfl rfl rfl rfl) (fun _ _ _ _ h => h))
local macro_rules | `(tactic| wtm_at "sn") => `(tactic| exact ⟨rfl, rfl, rfl, by decide +kernel, rfl, by decide +kernel, by decide +kernel⟩)
/-! ### the text, def by def -/
abbrev N_law_state : List Str := ["_law_script", "_law_k", "_law_cell", "_law_found", "_law_j", "_law_one"]
theorem sc_law_state : FnScope N_law_state ["_law_script", "_law_k"] (defScope s_law_state) := by wtm_at "sn"
theorem ok_law_state {f : Addr} {fd : FuncData} (F : GD K "_law_state" "_law_state" s_law_state f fd) (n_len : mg "len" = none) (n_range : mg "range" = none) :
    FnOk P w K mg base (L2.CX P w) 1 f fd ["_law_script", "_law_k"] (spD K (c_law_state K)) :=
  fn_DD (t := t_law_state K) F sc_law_state (by wtm_at "ln") (by decide)
    (fun cdv A outer s H E hr => by exact
      (pss_cons (ps_set (i := 2) sc_law_state.nd rfl (by wtm_at "oi") (pe_ifExp (pt_cmpR op_lt (pv 1) (pe_callB call_len (by rfl) n_len (by decide +kernel) (pa_cons (pv 0) pa_nil)) (nomark _)) (pe_ix ix_seq (pv 0) (pv 1) (fun _ _ => rfl)) (pe_op op_mulA pe_int (pv 1))))
      (pss_cons (ps_if (pt_cmpR op_ge (pv 2) (pe_op op_pow pe_int pe_int) (nomark _)) (pss_one (ps_ret (pe_lst (pa_cons (pe_op op_sub (pv 2) (pe_op op_pow pe_int pe_int)) pa_nil)))) pss_nil)
      (pss_cons (ps_set (i := 3) sc_law_state.nd rfl (by wtm_at "oi") pe_int)
      (pss_cons (ps_for (passes_of rfl) rfl (pi_range1 (by rfl) n_range (pa_cons pe_int pa_nil)) (pg_name (i := 4) sc_law_state.nd rfl (by wtm_at "oi")) (pss_cons (ps_set (i := 5) sc_law_state.nd rfl (by wtm_at "oi") (pe_op op_modA (pe_op op_mulA (pe_op op_addA (pv 2) (pe_op op_mulA pe_int (pe_op op_addA (pe_op op_addA (pe_op op_mulA pe_int (pv 1)) (pv 4)) pe_int))) pe_int) pe_int))
      (pss_one (ps_set (i := 3) sc_law_state.nd rfl (by wtm_at "oi") (pe_op op_addA (pe_op op_mulA (pv 3) pe_int) (pe_op op_modA (pe_op op_mulA (pv 5) (pe_op op_addA (pe_op op_addA (pv 5) (pe_op op_mulA pe_int (pv 4))) pe_int)) pe_int))))))
      (pss_one (ps_ret (pe_lst (pa_cons (pv 3) pa_nil)))))))))
    (d_law_state)
abbrev N_law_next : List Str := ["_law_draw", "_law_amount", "_law_found"]
theorem sc_law_next : FnScope N_law_next ["_law_draw", "_law_amount"] (defScope s_law_next) := by wtm_at "sn"
theorem ok_law_next {f : Addr} {fd : FuncData} (F : GD K "_law_next" "_law_next" s_law_next f fd) :
    FnOk P w K mg base (L2.CX P w) 1 f fd ["_law_draw", "_law_amount"] (spD K (c_law_next K)) :=
  fn_DD (t := t_law_next K) F sc_law_next (by wtm_at "ln") (by decide)
    (fun cdv A outer s H E hr => by exact
      (pss_cons (ps_set (i := 2) sc_law_next.nd rfl (by wtm_at "oi") (pe_op op_modA (pe_ix ix_seq (pv 0) pe_int (fun _ _ => rfl)) (pv 1)))
      (pss_cons (ps_asg (pe_op op_fdivA (pe_ix ix_seq (pv 0) pe_int (fun _ _ => rfl)) (pv 1)) (pg_sub (pv 0) pe_int set_list))
      (pss_one (ps_ret (pv 2))))))
    (d_law_next)
abbrev N_law_pick : List Str := ["_law_draw", "_law_some"]
theorem sc_law_pick : FnScope N_law_pick ["_law_draw", "_law_some"] (defScope s_law_pick) := by wtm_at "sn"
theorem ok_law_pick {f : Addr} {fd : FuncData} {f_law_next : Addr} {fd_law_next : FuncData} (F : GD K "_law_pick" "_law_pick" s_law_pick f fd) (F_law_next : FG P w K mg base 1 f_law_next fd_law_next ["_law_draw", "_law_amount"] (c_law_next K) "_law_next") (n_len : mg "len" = none) :
    FnOk P w K mg base (L2.CX P w) 2 f fd ["_law_draw", "_law_some"] (spD K (c_law_pick K)) :=
  fn_DD (t := t_law_pick K) F sc_law_pick (by wtm_at "ln") (by decide)
    (fun cdv A outer s H E hr => by exact
      (pss_one (ps_ret (pe_ix ix_seq (pv 1) (pe_call F_law_next.F (hr.mono (by decide)) (by rfl) F_law_next.m F_law_next.k F_law_next.B .nil (by wtm_at "pk") (pa_cons (pv 0) (pa_cons (pe_callB call_len (by rfl) n_len (by decide +kernel) (pa_cons (pv 1) pa_nil)) pa_nil))) (fun _ _ => rfl)))))
    (d_law_pick)
abbrev N_law_sections : List Str := ["_law_draw", "_law_most", "_law_size", "_law_top", "_law_share", "_law_many", "_law_found", "_law_k", "_law_at"]
theorem sc_law_sections : FnScope N_law_sections ["_law_draw", "_law_most"] (defScope s_law_sections) := by wtm_at "sn"
theorem ok_law_sections {f : Addr} {fd : FuncData} {f_law_pick f_law_next : Addr} {fd_law_pick fd_law_next : FuncData} (F : GD K "_law_sections" "_law_sections" s_law_sections f fd) (F_law_pick : FG P w K mg base 2 f_law_pick fd_law_pick ["_law_draw", "_law_some"] (c_law_pick K) "_law_pick") (F_law_next : FG P w K mg base 1 f_law_next fd_law_next ["_law_draw", "_law_amount"] (c_law_next K) "_law_next") (n_range : mg "range" = none) :
    FnOk P w K mg base (L2.CX P w) 3 f fd ["_law_draw", "_law_most"] (spD K (c_law_sections K)) :=
  fn_DD (t := t_law_sections K) F sc_law_sections (by wtm_at "ln") (by decide)
    (fun cdv A outer s H E hr => by exact
      (pss_cons (ps_set (i := 2) sc_law_sections.nd rfl (by wtm_at "oi") (pe_call F_law_pick.F (hr.mono (by decide)) (by rfl) F_law_pick.m F_law_pick.k F_law_pick.B .nil (by wtm_at "pk") (pa_cons (pv 0) (pa_cons (pe_lst (pa_cons pe_int (pa_cons pe_int (pa_cons pe_int (pa_cons (pv 1) (pa_cons (pv 1) pa_nil)))))) pa_nil))))
      (pss_cons (ps_set (i := 3) sc_law_sections.nd rfl (by wtm_at "oi") (pe_call F_law_pick.F (hr.mono (by decide)) (by rfl) F_law_pick.m F_law_pick.k F_law_pick.B .nil (by wtm_at "pk") (pa_cons (pv 0) (pa_cons (pe_lst (pa_cons pe_int (pa_cons pe_int (pa_cons pe_int (pa_cons pe_int (pa_cons (pe_op op_pow pe_int pe_int) pa_nil)))))) pa_nil))))
      (pss_cons (ps_set (i := 4) sc_law_sections.nd rfl (by wtm_at "oi") (pe_call F_law_pick.F (hr.mono (by decide)) (by rfl) F_law_pick.m F_law_pick.k F_law_pick.B .nil (by wtm_at "pk") (pa_cons (pv 0) (pa_cons (pe_lst (pa_cons pe_int (pa_cons pe_int (pa_cons pe_int (pa_cons pe_int pa_nil))))) pa_nil))))
      (pss_cons (ps_set (i := 5) sc_law_sections.nd rfl (by wtm_at "oi") (pe_op op_addA pe_int (pe_call F_law_next.F (hr.mono (by decide)) (by rfl) F_law_next.m F_law_next.k F_law_next.B .nil (by wtm_at "pk") (pa_cons (pv 0) (pa_cons (pv 2) pa_nil)))))
      (pss_cons (ps_if (PW.pt (pw_and (pt_cmpR (op_eqD hr.units) (pv 2) (pv 1) (nomark _)) (pw_and1 (pt_cmpR (op_eqD hr.units) (pe_op op_modA (pv 5) pe_int) pe_int (nomark _))))) (pss_one (ps_set (i := 5) sc_law_sections.nd rfl (by wtm_at "oi") (pv 1))) pss_nil)
      (pss_cons (ps_set (i := 6) sc_law_sections.nd rfl (by wtm_at "oi") (pe_lst pa_nil))
      (pss_cons (ps_for (passes_of rfl) rfl (pi_range1 (by rfl) n_range (pa_cons (pv 5) pa_nil)) (pg_name (i := 7) sc_law_sections.nd rfl (by wtm_at "oi")) (pss_one (ps_expr (pe_bm PySem.F.plainAttrs_list PySem.F.slot_list_append PySem.F.type_list_append mt_append (pv 6) (pa_cons (pe_tup (pa_cons (pe_op op_addA pe_int (pe_call F_law_next.F (hr.mono (by decide)) (by rfl) F_law_next.m F_law_next.k F_law_next.B .nil (by wtm_at "pk") (pa_cons (pv 0) (pa_cons (pv 3) pa_nil)))) (pa_cons (pe_cmpR op_lt (pe_call F_law_next.F (hr.mono (by decide)) (by rfl) F_law_next.m F_law_next.k F_law_next.B .nil (by wtm_at "pk") (pa_cons (pv 0) (pa_cons pe_int pa_nil))) (pv 4) (nomark _)) pa_nil))) pa_nil)))))
      (pss_cons (ps_if (PW.pt (pw_and (pt_cmpR (op_eqD hr.units) (pv 3) (pe_op op_pow pe_int pe_int) (nomark _)) (pw_and1 (pt_cmpR (op_eqD hr.units) (pe_call F_law_next.F (hr.mono (by decide)) (by rfl) F_law_next.m F_law_next.k F_law_next.B .nil (by wtm_at "pk") (pa_cons (pv 0) (pa_cons pe_int pa_nil))) pe_int (nomark _))))) (pss_cons (ps_set (i := 8) sc_law_sections.nd rfl (by wtm_at "oi") (pe_call F_law_next.F (hr.mono (by decide)) (by rfl) F_law_next.m F_law_next.k F_law_next.B .nil (by wtm_at "pk") (pa_cons (pv 0) (pa_cons (pv 5) pa_nil))))
      (pss_one (ps_asg (pe_tup (pa_cons (pv 3) (pa_cons (pe_ix ix_seq (pe_ix ix_seq (pv 6) (pv 8) (fun _ _ => rfl)) pe_int (fun _ _ => rfl)) pa_nil))) (pg_sub (pv 6) (pv 8) set_list)))) pss_nil)
      (pss_cons (ps_asg (pe_tup (pa_cons (pe_ix ix_seq (pe_ix ix_seq (pv 6) (pe_un un_neg pe_int) (fun _ _ => rfl)) pe_int (fun _ _ => rfl)) (pa_cons pe_bl pa_nil))) (pg_sub (pv 6) (pe_un un_neg pe_int) set_list))
      (pss_one (ps_ret (pv 6)))))))))))))
    (d_law_sections)
abbrev N_is_number : List Str := ["thing", "least", "most"]
theorem sc_is_number : FnScope N_is_number ["thing", "least", "most"] (defScope s_is_number) := by wtm_at "sn"
theorem ok_is_number {f : Addr} {fd : FuncData} (F : GD K "is_number" "is_number" s_is_number f fd) (n_int : mg "int" = none) (n_isinstance : mg "isinstance" = none) (n_bool : mg "bool" = none) :
    FnOk P w K mg base (L2.CX P w) 1 f fd ["thing", "least", "most"] (spD K (c_is_number K)) :=
  fn_DD (t := t_is_number K) F sc_is_number (by wtm_at "ln") (by decide)
    (fun cdv A outer s H E hr => by exact
      (pss_one (ps_ret (pe_and (pe_callB call_isi (by rfl) n_isinstance (by decide +kernel) (pa_cons (pv 0) (pa_cons (pe_bltn (v := .ty "int") (by rfl) n_int (by decide +kernel) rfl) pa_nil))) (pe_and (pe_not (pe_callB call_isi (by rfl) n_isinstance (by decide +kernel) (pa_cons (pv 0) (pa_cons (pe_bltn (v := .ty "bool") (by rfl) n_bool (by decide +kernel) rfl) pa_nil)))) (pe_one (pe_chain op_le op_le (pv 1) (pv 0) (pv 2))))))))
    (d_is_number)
abbrev N_is_section : List Str := ["thing"]
theorem sc_is_section : FnScope N_is_section ["thing"] (defScope s_is_section) := by wtm_at "sn"
theorem ok_is_section {f : Addr} {fd : FuncData} {f_is_number : Addr} {fd_is_number : FuncData} (F : GD K "is_section" "is_section" s_is_section f fd) (F_is_number : FG P w K mg base 1 f_is_number fd_is_number ["thing", "least", "most"] (c_is_number K) "is_number") (n_tuple : mg "tuple" = none) (n_isinstance : mg "isinstance" = none) (n_len : mg "len" = none) (n_bool : mg "bool" = none) (k_LONGEST : ∃ t, mg "LONGEST" = some (.int 1000000000000 t)) :
    FnOk P w K mg base (L2.CX P w) 2 f fd ["thing"] (spD K (c_is_section K)) :=
  fn_DD (t := t_is_section K) F sc_is_section (by wtm_at "ln") (by decide)
    (fun cdv A outer s H E hr => by exact
      (pss_cons (ps_if (PW.pt (pw_or (pt_not (pt_truth (pe_callB call_isi (by rfl) n_isinstance (by decide +kernel) (pa_cons (pv 0) (pa_cons (pe_bltn (v := .ty "tuple") (by rfl) n_tuple (by decide +kernel) rfl) pa_nil))) (by intro _; rfl))) (pw_or (pt_cmpR (op_neD hr.units) (pe_callB call_len (by rfl) n_len (by decide +kernel) (pa_cons (pv 0) pa_nil)) pe_int (nomark _)) (pw_or1 (pt_not (pt_truth (pe_callB call_isi (by rfl) n_isinstance (by decide +kernel) (pa_cons (pe_ix ix_seq (pv 0) pe_int (fun _ _ => rfl)) (pa_cons (pe_bltn (v := .ty "bool") (by rfl) n_bool (by decide +kernel) rfl) pa_nil))) (by intro _; rfl))))))) (pss_one (ps_ret pe_bl)) pss_nil)
      (pss_one (ps_ret (pe_call F_is_number.F (hr.mono (by decide)) (by rfl) F_is_number.m F_is_number.k F_is_number.B .nil (by wtm_at "pk") (pa_cons (pe_ix ix_seq (pv 0) pe_int (fun _ _ => rfl)) (pa_cons pe_int (pa_cons (pe_glob (v := .int 1000000000000) (by rfl) k_LONGEST.choose_spec ⟨_, rfl⟩) pa_nil))))))))
    (d_is_section)
abbrev N_are_sections : List Str := ["thing", "one"]
theorem sc_are_sections : FnScope N_are_sections ["thing"] (defScope s_are_sections) := by wtm_at "sn"
theorem ok_are_sections {f : Addr} {fd : FuncData} {f_is_section : Addr} {fd_is_section : FuncData} (F : GD K "are_sections" "are_sections" s_are_sections f fd) (F_is_section : FG P w K mg base 2 f_is_section fd_is_section ["thing"] (c_is_section K) "is_section") (n_list : mg "list" = none) (n_isinstance : mg "isinstance" = none) (n_len : mg "len" = none) (k_MOST_SECTIONS : ∃ t, mg "MOST_SECTIONS" = some (.int 60 t)) (n_all : mg "all" = none) :
    FnOk P w K mg base (L2.CX P w) 3 f fd ["thing"] (spD K (c_are_sections K)) :=
  fn_DD (t := t_are_sections K) F sc_are_sections (by wtm_at "ln") (by decide)
    (fun cdv A outer s H E hr => by exact
      (pss_cons (ps_if (PW.pt (pw_or (pt_not (pt_truth (pe_callB call_isi (by rfl) n_isinstance (by decide +kernel) (pa_cons (pv 0) (pa_cons (pe_bltn (v := .ty "list") (by rfl) n_list (by decide +kernel) rfl) pa_nil))) (by intro _; rfl))) (pw_or1 (pt_not (pt_chain op_le op_le pe_int (pe_callB call_len (by rfl) n_len (by decide +kernel) (pa_cons (pv 0) pa_nil)) (pe_glob (v := .int 60) (by rfl) k_MOST_SECTIONS.choose_spec ⟨_, rfl⟩)))))) (pss_one (ps_ret pe_bl)) pss_nil)
      (pss_one (ps_ret (pe_and (pe_callB (cr_all rfl) (by rfl) n_all (by decide +kernel) (pa_cons (pe_lc (own := [("one", 1)]) (g := (gName 1)) (tt := tYes) (te := (tCall (spD K (c_is_section K)) [] E0 (tCons (tVar 1) tNil))) (by rfl) sc_are_sections.nd (pi_any (pv 0)) (blkOk_by (own := [("one", 1)]) (N := N_are_sections) (sc := defScope s_are_sections) (by decide +kernel)) (fun _ _ _ _ _ => by exact (pg_name (i := 1) sc_are_sections.nd rfl (by wtm_at "oi"))) (fun _ _ _ _ _ => by exact pts_nil) (fun _ _ _ _ _ => by exact (pe_call F_is_section.F (hr.mono (by decide)) (by rfl) F_is_section.m F_is_section.k F_is_section.B .nil passL (pa_cons (pv 1) pa_nil)))) pa_nil)) (pe_one (pe_not (pe_ix ix_seq (pe_ix ix_seq (pv 0) (pe_un un_neg pe_int) (fun _ _ => rfl)) pe_int (fun _ _ => rfl)))))))))
    (d_are_sections)
abbrev N_Book_init : List Str := ["self", "sections"]
theorem sc_Book_init : FnScope N_Book_init ["self", "sections"] (defScope s_Book_init) := by wtm_at "sn"
theorem ok_Book_init {f : Addr} {fd : FuncData} {f_are_sections : Addr} {fd_are_sections : FuncData} (F : GD K "__init__" "Book.__init__" s_Book_init f fd) (F_are_sections : FG P w K mg base 3 f_are_sections fd_are_sections ["thing"] (c_are_sections K) "are_sections") (x_BadBook : ExC K mg "BadBook") (n_list : mg "list" = none) (kb : KBook K) :
    FnOk P w K mg base (L2.CX P w) 4 f fd ["self", "sections"] (spD K (c_Book_init K)) :=
  fn_DD (t := t_Book_init K) F sc_Book_init (by wtm_at "ln") (by decide)
    (fun cdv A outer s H E hr => by exact
      (pss_cons (ps_if (pt_not (pt_truth (pe_call F_are_sections.F (hr.mono (by decide)) (by rfl) F_are_sections.m F_are_sections.k F_are_sections.B .nil (by wtm_at "pk") (pa_cons (pv 1) pa_nil)) (by intro _; rfl))) (pss_one (ps_raise rfl (takes_of rfl rfl rfl rfl) (pmk_own PySem.F.excBase_ValueError x_BadBook.xc x_BadBook.gc x_BadBook.kc (raises_own x_BadBook.bc x_BadBook.tc) (by rfl)))) pss_nil)
      (pss_one (ps_fld (pv 0) (pe_callTy call_list_of (by rfl) n_list (by decide +kernel) (pa_cons (pv 1) pa_nil)) rfl))))
    (d_Book_init kb)
abbrev N_law_is_book : List Str := ["_law_thing", "_law_one"]
theorem sc_law_is_book : FnScope N_law_is_book ["_law_thing"] (defScope s_law_is_book) := by wtm_at "sn"
theorem ok_law_is_book {f : Addr} {fd : FuncData} (F : GD K "_law_is_book" "_law_is_book" s_law_is_book f fd) (n_list : mg "list" = none) (n_isinstance : mg "isinstance" = none) (n_len : mg "len" = none) (n_tuple : mg "tuple" = none) (n_bool : mg "bool" = none) (n_int : mg "int" = none) :
    FnOk P w K mg base (L2.CX P w) 1 f fd ["_law_thing"] (spD K (c_law_is_book K)) :=
  fn_DD (t := t_law_is_book K) F sc_law_is_book (by wtm_at "ln") (by decide)
    (fun cdv A outer s H E hr => by exact
      (pss_cons (ps_if (PW.pt (pw_or (pt_not (pt_truth (pe_callB call_isi (by rfl) n_isinstance (by decide +kernel) (pa_cons (pv 0) (pa_cons (pe_bltn (v := .ty "list") (by rfl) n_list (by decide +kernel) rfl) pa_nil))) (by intro _; rfl))) (pw_or1 (pt_not (pt_chain op_le op_le pe_int (pe_callB call_len (by rfl) n_len (by decide +kernel) (pa_cons (pv 0) pa_nil)) pe_int))))) (pss_one (ps_ret pe_bl)) pss_nil)
      (pss_cons (ps_for (passes_of rfl) rfl (pi_any (pv 0)) (pg_name (i := 1) sc_law_is_book.nd rfl (by wtm_at "oi")) (pss_cons (ps_if (PW.pt (pw_or (pt_not (pt_truth (pe_callB call_isi (by rfl) n_isinstance (by decide +kernel) (pa_cons (pv 1) (pa_cons (pe_bltn (v := .ty "tuple") (by rfl) n_tuple (by decide +kernel) rfl) pa_nil))) (by intro _; rfl))) (pw_or (pt_cmpR (op_neD hr.units) (pe_callB call_len (by rfl) n_len (by decide +kernel) (pa_cons (pv 1) pa_nil)) pe_int (nomark _)) (pw_or1 (pt_not (pt_truth (pe_callB call_isi (by rfl) n_isinstance (by decide +kernel) (pa_cons (pe_ix ix_seq (pv 1) pe_int (fun _ _ => rfl)) (pa_cons (pe_bltn (v := .ty "bool") (by rfl) n_bool (by decide +kernel) rfl) pa_nil))) (by intro _; rfl))))))) (pss_one (ps_ret pe_bl)) pss_nil)
      (pss_one (ps_if (PW.pt (pw_or (pt_not (pt_truth (pe_callB call_isi (by rfl) n_isinstance (by decide +kernel) (pa_cons (pe_ix ix_seq (pv 1) pe_int (fun _ _ => rfl)) (pa_cons (pe_bltn (v := .ty "int") (by rfl) n_int (by decide +kernel) rfl) pa_nil))) (by intro _; rfl))) (pw_or (pt_truth (pe_callB call_isi (by rfl) n_isinstance (by decide +kernel) (pa_cons (pe_ix ix_seq (pv 1) pe_int (fun _ _ => rfl)) (pa_cons (pe_bltn (v := .ty "bool") (by rfl) n_bool (by decide +kernel) rfl) pa_nil))) (by intro _; rfl)) (pw_or1 (pt_not (pt_chain op_le op_le pe_int (pe_ix ix_seq (pv 1) pe_int (fun _ _ => rfl)) (pe_op op_pow pe_int pe_int))))))) (pss_one (ps_ret pe_bl)) pss_nil))))
      (pss_one (ps_ret (pe_not (pe_ix ix_seq (pe_ix ix_seq (pv 0) (pe_un un_neg pe_int) (fun _ _ => rfl)) pe_int (fun _ _ => rfl))))))))
    (d_law_is_book)
abbrev N_law_word : List Str := ["_law_e", "_law_found", "_law_words", "_law_some", "_law_word_here", "_law_good"]
theorem sc_law_word : FnScope N_law_word ["_law_e"] (defScope s_law_word) := by wtm_at "sn"
theorem ok_law_word {f : Addr} {fd : FuncData} (F : GD K "_law_word" "_law_word" s_law_word f fd) (g_BadRow : mg "BadRow" = some (.ref (He.ga K "BadRow"))) (n_isinstance : mg "isinstance" = none) (g_BadFeast : mg "BadFeast" = some (.ref (He.ga K "BadFeast"))) (g_BadCalendar : mg "BadCalendar" = some (.ref (He.ga K "BadCalendar"))) (g_BadBook : mg "BadBook" = some (.ref (He.ga K "BadBook"))) (g_NoRow : mg "NoRow" = some (.ref (He.ga K "NoRow"))) (g_NoDay : mg "NoDay" = some (.ref (He.ga K "NoDay"))) (g_BadNumber : mg "BadNumber" = some (.ref (He.ga K "BadNumber"))) (g_BadHouse : mg "BadHouse" = some (.ref (He.ga K "BadHouse"))) (g_NeverDone : mg "NeverDone" = some (.ref (He.ga K "NeverDone"))) (g_TooTight : mg "TooTight" = some (.ref (He.ga K "TooTight"))) (g_NoPiece : mg "NoPiece" = some (.ref (He.ga K "NoPiece"))) (g_BadText : mg "BadText" = some (.ref (He.ga K "BadText"))) (g_NoDeed : mg "NoDeed" = some (.ref (He.ga K "NoDeed"))) (g_TooFar : mg "TooFar" = some (.ref (He.ga K "TooFar"))) (n_zip : mg "zip" = none) (n_len : mg "len" = none) (n_ValueError : mg "ValueError" = none) (kx : KExc K excNames) :
    FnOk P w K mg base (L2.CX P w) 1 f fd ["_law_e"] (spD K (c_law_word K)) :=
  fn_DD (t := t_law_word K) F sc_law_word (by wtm_at "ln") (by decide)
    (fun cdv A outer s H E hr => by exact
      (pss_cons (ps_set (i := 1) sc_law_word.nd rfl (by wtm_at "oi") (pe_lst (pa_cons (pe_callB call_isX (by rfl) n_isinstance (by decide +kernel) (pa_cons (pv 0) (pa_cons (pe_glob (v := .ref (He.ga K "BadBook")) (by rfl) g_BadBook rfl) pa_nil))) (pa_cons (pe_callB call_isX (by rfl) n_isinstance (by decide +kernel) (pa_cons (pv 0) (pa_cons (pe_glob (v := .ref (He.ga K "BadCalendar")) (by rfl) g_BadCalendar rfl) pa_nil))) (pa_cons (pe_callB call_isX (by rfl) n_isinstance (by decide +kernel) (pa_cons (pv 0) (pa_cons (pe_glob (v := .ref (He.ga K "BadFeast")) (by rfl) g_BadFeast rfl) pa_nil))) (pa_cons (pe_callB call_isX (by rfl) n_isinstance (by decide +kernel) (pa_cons (pv 0) (pa_cons (pe_glob (v := .ref (He.ga K "BadRow")) (by rfl) g_BadRow rfl) pa_nil))) pa_nil))))))
      (pss_cons (ps_set (i := 1) sc_law_word.nd rfl (by wtm_at "oi") (pe_op op_addA (pv 1) (pe_lst (pa_cons (pe_callB call_isX (by rfl) n_isinstance (by decide +kernel) (pa_cons (pv 0) (pa_cons (pe_glob (v := .ref (He.ga K "BadHouse")) (by rfl) g_BadHouse rfl) pa_nil))) (pa_cons (pe_callB call_isX (by rfl) n_isinstance (by decide +kernel) (pa_cons (pv 0) (pa_cons (pe_glob (v := .ref (He.ga K "BadNumber")) (by rfl) g_BadNumber rfl) pa_nil))) (pa_cons (pe_callB call_isX (by rfl) n_isinstance (by decide +kernel) (pa_cons (pv 0) (pa_cons (pe_glob (v := .ref (He.ga K "NoDay")) (by rfl) g_NoDay rfl) pa_nil))) (pa_cons (pe_callB call_isX (by rfl) n_isinstance (by decide +kernel) (pa_cons (pv 0) (pa_cons (pe_glob (v := .ref (He.ga K "NoRow")) (by rfl) g_NoRow rfl) pa_nil))) pa_nil)))))))
      (pss_cons (ps_set (i := 1) sc_law_word.nd rfl (by wtm_at "oi") (pe_op op_addA (pv 1) (pe_lst (pa_cons (pe_callB call_isX (by rfl) n_isinstance (by decide +kernel) (pa_cons (pv 0) (pa_cons (pe_glob (v := .ref (He.ga K "NoPiece")) (by rfl) g_NoPiece rfl) pa_nil))) (pa_cons (pe_callB call_isX (by rfl) n_isinstance (by decide +kernel) (pa_cons (pv 0) (pa_cons (pe_glob (v := .ref (He.ga K "TooTight")) (by rfl) g_TooTight rfl) pa_nil))) (pa_cons (pe_callB call_isX (by rfl) n_isinstance (by decide +kernel) (pa_cons (pv 0) (pa_cons (pe_glob (v := .ref (He.ga K "NeverDone")) (by rfl) g_NeverDone rfl) pa_nil))) pa_nil))))))
      (pss_cons (ps_set (i := 1) sc_law_word.nd rfl (by wtm_at "oi") (pe_op op_addA (pv 1) (pe_lst (pa_cons (pe_callB call_isX (by rfl) n_isinstance (by decide +kernel) (pa_cons (pv 0) (pa_cons (pe_glob (v := .ref (He.ga K "TooFar")) (by rfl) g_TooFar rfl) pa_nil))) (pa_cons (pe_callB call_isX (by rfl) n_isinstance (by decide +kernel) (pa_cons (pv 0) (pa_cons (pe_glob (v := .ref (He.ga K "NoDeed")) (by rfl) g_NoDeed rfl) pa_nil))) (pa_cons (pe_callB call_isX (by rfl) n_isinstance (by decide +kernel) (pa_cons (pv 0) (pa_cons (pe_glob (v := .ref (He.ga K "BadText")) (by rfl) g_BadText rfl) pa_nil))) pa_nil))))))
      (pss_cons (ps_set (i := 2) sc_law_word.nd rfl (by wtm_at "oi") (pe_lst (pa_cons pe_str (pa_cons pe_str (pa_cons pe_str (pa_cons pe_str (pa_cons pe_str (pa_cons pe_str (pa_cons pe_str (pa_cons pe_str (pa_cons pe_str pa_nil)))))))))))
      (pss_cons (ps_set (i := 2) sc_law_word.nd rfl (by wtm_at "oi") (pe_op op_addA (pv 2) (pe_lst (pa_cons pe_str (pa_cons pe_str (pa_cons pe_str (pa_cons pe_str (pa_cons pe_str pa_nil))))))))
      (pss_cons (by first | exact ps_setLc (i := 3) (own := [("_law_word_here", 4), ("_law_good", 5)]) (g := (gTup K 2 (gCons (gName 4) (gCons (gName 5) gNil)))) (tt := (tTruth K (tVar 5))) (te := (tVar 4)) (by rfl) sc_law_word.nd rfl rfl (sw_true rfl rfl rfl (by decide +kernel)) (pi_zip (by rfl) n_zip (pa_cons (pv 2) (pa_cons (pv 1) pa_nil))) (blkOk_by (own := [("_law_word_here", 4), ("_law_good", 5)]) (N := N_law_word) (sc := defScope s_law_word) (by decide +kernel)) (fun _ _ _ _ _ => by exact (pg_tup rfl (pgs_cons (pg_name (i := 4) sc_law_word.nd rfl (by wtm_at "oi")) (pgs_cons (pg_name (i := 5) sc_law_word.nd rfl (by wtm_at "oi")) pgs_nil)))) (fun _ _ _ _ _ => by exact (pts_one (pt_truth (pv 5) (by intro _; rfl)))) (fun _ _ _ _ _ => by exact (pv 4)) | exact ps_set (i := 3) sc_law_word.nd rfl (by wtm_at "oi") (pe_lc (own := [("_law_word_here", 4), ("_law_good", 5)]) (g := (gTup K 2 (gCons (gName 4) (gCons (gName 5) gNil)))) (tt := (tTruth K (tVar 5))) (te := (tVar 4)) (by rfl) sc_law_word.nd (pi_zip (by rfl) n_zip (pa_cons (pv 2) (pa_cons (pv 1) pa_nil))) (blkOk_by (own := [("_law_word_here", 4), ("_law_good", 5)]) (N := N_law_word) (sc := defScope s_law_word) (by decide +kernel)) (fun _ _ _ _ _ => by exact (pg_tup rfl (pgs_cons (pg_name (i := 4) sc_law_word.nd rfl (by wtm_at "oi")) (pgs_cons (pg_name (i := 5) sc_law_word.nd rfl (by wtm_at "oi")) pgs_nil)))) (fun _ _ _ _ _ => by exact (pts_one (pt_truth (pv 5) (by intro _; rfl)))) (fun _ _ _ _ _ => by exact (pv 4))))
      (pss_one (ps_ret (pe_ifExp (PW.pt (pw_and (pt_cmpR (op_eqD hr.units) (pe_callB call_len (by rfl) n_len (by decide +kernel) (pa_cons (pv 3) pa_nil)) pe_int (nomark _)) (pw_and1 (pt_truth (pe_callB call_isX (by rfl) n_isinstance (by decide +kernel) (pa_cons (pv 0) (pa_cons (pe_bltn (v := .ty "ValueError") (by rfl) n_ValueError (by decide +kernel) rfl) pa_nil))) (by intro _; rfl))))) (pe_ix ix_seq (pv 3) pe_int (fun _ _ => rfl)) pe_str)))))))))))
    (d_law_word kx)
abbrev N_Book_sections : List Str := ["self"]
theorem sc_Book_sections : FnScope N_Book_sections ["self"] (defScope s_Book_sections) := by wtm_at "sn"
theorem ok_Book_sections {f : Addr} {fd : FuncData} (F : GD K "sections" "Book.sections" s_Book_sections f fd) (n_list : mg "list" = none) (kb : KBook K) :
    FnOk P w K mg base (L2.CX P w) 1 f fd ["self"] (spD K (c_Book_sections K)) :=
  fn_DD (t := t_Book_sections K) F sc_Book_sections (by wtm_at "ln") (by decide)
    (fun cdv A outer s H E hr => by exact
      (pss_one (ps_ret (pe_callTy call_list_of (by rfl) n_list (by decide +kernel) (pa_cons (pe_fld (pv 0) rfl) pa_nil)))))
    (d_Book_sections kb)
abbrev N_Book_many : List Str := ["self"]
theorem sc_Book_many : FnScope N_Book_many ["self"] (defScope s_Book_many) := by wtm_at "sn"
theorem ok_Book_many {f : Addr} {fd : FuncData} (F : GD K "many" "Book.many" s_Book_many f fd) (n_len : mg "len" = none) (kb : KBook K) :
    FnOk P w K mg base (L2.CX P w) 1 f fd ["self"] (spD K (c_Book_many K)) :=
  fn_DD (t := t_Book_many K) F sc_Book_many (by wtm_at "ln") (by decide)
    (fun cdv A outer s H E hr => by exact
      (pss_one (ps_ret (pe_callB call_len (by rfl) n_len (by decide +kernel) (pa_cons (pe_fld (pv 0) rfl) pa_nil)))))
    (d_Book_many kb)
abbrev N_law_right : List Str := ["_law_thing", "_law_handed", "_law_made", "_law_caught", "_law_e", "_law_turn", "_law_found", "_law_many", "_law_one"]
theorem sc_law_right : FnScope N_law_right ["_law_thing"] (defScope s_law_right) := by wtm_at "sn"
theorem ok_law_right {f : Addr} {fd : FuncData} {f_Book_init f_law_is_book f_law_word f_Book_sections f_Book_many : Addr} {fd_Book_init fd_law_is_book fd_law_word fd_Book_sections fd_Book_many : FuncData} (F : GD K "_law_right" "_law_right" s_law_right f fd) (F_Book_init : FQ P w K mg base 4 f_Book_init fd_Book_init ["self", "sections"] (c_Book_init K)) (M_Book : Mk K (He.ga K "Book") f_Book_init) (F_law_is_book : FG P w K mg base 1 f_law_is_book fd_law_is_book ["_law_thing"] (c_law_is_book K) "_law_is_book") (F_law_word : FG P w K mg base 1 f_law_word fd_law_word ["_law_e"] (c_law_word K) "_law_word") (F_Book_sections : FQ P w K mg base 1 f_Book_sections fd_Book_sections ["self"] (c_Book_sections K)) (F_Book_many : FQ P w K mg base 1 f_Book_many fd_Book_many ["self"] (c_Book_many K)) (n_list : mg "list" = none) (n_isinstance : mg "isinstance" = none) (g_ReadError : mg "ReadError" = some (.ref (He.ga K "ReadError"))) (g_Book : mg "Book" = some (.ref (He.ga K "Book"))) (n_range : mg "range" = none) (cl_Book : Cls K (He.ga K "Book")) (mm_Book_sections : Meth K (He.ga K "Book") "sections" f_Book_sections) (mm_Book_many : Meth K (He.ga K "Book") "many" f_Book_many) (n_int : mg "int" = none) (n_bool : mg "bool" = none) (n_len : mg "len" = none) (n_tuple : mg "tuple" = none) (kb : KBook K) (kx : KExc K excNames) :
    FnOk P w K mg base (L2.CX P w) 6 f fd ["_law_thing"] (spD K (c_law_right K)) :=
  fn_DD (t := t_law_right K) F sc_law_right (by wtm_at "ln") (by decide)
    (fun cdv A outer s H E hr => by exact
      (pss_cons (ps_set (i := 1) sc_law_right.nd rfl (by wtm_at "oi") (pe_ifExp (pt_truth (pe_callB call_isi (by rfl) n_isinstance (by decide +kernel) (pa_cons (pv 0) (pa_cons (pe_bltn (v := .ty "list") (by rfl) n_list (by decide +kernel) rfl) pa_nil))) (by intro _; rfl)) (pe_callTy call_list_of (by rfl) n_list (by decide +kernel) (pa_cons (pv 0) pa_nil)) (pv 0)))
      (pss_cons (ps_set (i := 2) sc_law_right.nd rfl (by wtm_at "oi") pe_non)
      (pss_cons (ps_set (i := 3) sc_law_right.nd rfl (by wtm_at "oi") pe_non)
      (pss_cons (ps_try_kp (i := 4) rfl rfl rfl sc_law_right.nd rfl rfl ⟨(by rfl), (by decide), .inl g_ReadError⟩ LamX.takes0 (fun W pn xe tk po => by exact (pss_one (ps_set (i := 2) sc_law_right.nd rfl (by wtm_at "oi") (pe_makeS M_Book F_Book_init.F (hr.mono (by decide)) (by rfl) g_Book F_Book_init.B .nil (fun σ => passAt tk σ) (pa_cons (pv 1) pa_nil))))) (fun a pn => by exact (pss_one (ps_set (i := 3) sc_law_right.nd rfl (by wtm_at "oi") (pv 4)))))
      (pss_cons (ps_if (pt_cmpR (op_or (op_neD hr.units) (op_neD0 (Nat.lt_of_le_of_lt (Nat.le_add_right _ _) (hu_of hr)))) (pv 1) (pv 0) (nomark _)) (pss_one (ps_ret pe_bl)) pss_nil)
      (pss_cons (ps_if (pt_not (pt_truth (pe_call F_law_is_book.F (hr.mono (by decide)) (by rfl) F_law_is_book.m F_law_is_book.k F_law_is_book.B .nil (by wtm_at "pk") (pa_cons (pv 0) pa_nil)) (by intro _; rfl))) (pss_one (ps_ret (pe_and (pe_cmp (pc_notN (pv 3)) rfl) (pe_one (pe_cmpR (op_eqD hr.units) (pe_call F_law_word.F (hr.mono (by decide)) (by rfl) F_law_word.m F_law_word.k F_law_word.B .nil (by wtm_at "pk") (pa_cons (pv 3) pa_nil)) pe_str (nomark _)))))) pss_nil)
      (pss_cons (ps_if (pt_cmp (pc_isN (pv 2)) rfl) (pss_one (ps_ret pe_bl)) pss_nil)
      (pss_cons (ps_expr (pe_bm0 PySem.F.plainAttrs_list PySem.F.slot_list_clear PySem.F.type_list_clear mt_clear (pv 1)))
      (pss_cons (ps_for (passes_of rfl) rfl (pi_range1 (by rfl) n_range (pa_cons pe_int pa_nil)) (pg_name (i := 5) sc_law_right.nd rfl (by wtm_at "oi")) (pss_cons (ps_set (i := 6) sc_law_right.nd rfl (by wtm_at "oi") (pe_meth0 (pv 2) cl_Book mm_Book_sections F_Book_sections.F (hr.mono (by decide)) F_Book_sections.B .nil (by wtm_at "pk")))
      (pss_cons (ps_set (i := 7) sc_law_right.nd rfl (by wtm_at "oi") (pe_meth0 (pv 2) cl_Book mm_Book_many F_Book_many.F (hr.mono (by decide)) F_Book_many.B .nil (by wtm_at "pk")))
      (pss_cons (ps_if (PW.pt (pw_or (pt_not (pt_truth (pe_callB call_isi (by rfl) n_isinstance (by decide +kernel) (pa_cons (pv 7) (pa_cons (pe_bltn (v := .ty "int") (by rfl) n_int (by decide +kernel) rfl) pa_nil))) (by intro _; rfl))) (pw_or (pt_truth (pe_callB call_isi (by rfl) n_isinstance (by decide +kernel) (pa_cons (pv 7) (pa_cons (pe_bltn (v := .ty "bool") (by rfl) n_bool (by decide +kernel) rfl) pa_nil))) (by intro _; rfl)) (pw_or1 (pt_cmpR (op_neD hr.units) (pv 7) (pe_callB call_len (by rfl) n_len (by decide +kernel) (pa_cons (pv 0) pa_nil)) (nomark _)))))) (pss_one (ps_ret pe_bl)) pss_nil)
      (pss_cons (ps_if (PW.pt (pw_or (pt_not (pt_truth (pe_callB call_isi (by rfl) n_isinstance (by decide +kernel) (pa_cons (pv 6) (pa_cons (pe_bltn (v := .ty "list") (by rfl) n_list (by decide +kernel) rfl) pa_nil))) (by intro _; rfl))) (pw_or (pt_cmpR (op_neD hr.units) (pv 6) (pv 0) (nomark _)) (pw_or1 (pt_cmpR (op_neD hr.units) (pe_lc (own := [("_law_one", 8)]) (g := (gName 8)) (tt := (tNot (tTruth K (tCB (rIsi K) (tCons (tVar 8) (tCons (tC (.ty "tuple")) tNil)))))) (te := (tC (.int 1))) (by rfl) sc_law_right.nd (pi_any (pv 6)) (blkOk_by (own := [("_law_one", 8)]) (N := N_law_right) (sc := defScope s_law_right) (by decide +kernel)) (fun _ _ _ _ _ => by exact (pg_name (i := 8) sc_law_right.nd rfl (by wtm_at "oi"))) (fun _ _ _ _ _ => by exact (pts_one (pt_not (pt_truth (pe_callB call_isi (by rfl) n_isinstance (by decide +kernel) (pa_cons (pv 8) (pa_cons (pe_bltn (v := .ty "tuple") (by rfl) n_tuple (by decide +kernel) rfl) pa_nil))) (by intro _; rfl))))) (fun _ _ _ _ _ => by exact pe_int)) (pe_lst pa_nil) (nomark _)))))) (pss_one (ps_ret pe_bl)) pss_nil)
      (pss_cons (ps_if (pt_cmpR (op_neD hr.units) (pe_lc (own := [("_law_one", 8)]) (g := (gName 8)) (tt := (tOr (tNot (tTruth K (tCB (rIsi K) (tCons (tOp (rIx K) (tVar 8) (tC (.int 1))) (tCons (tC (.ty "bool")) tNil))))) (tTruth K (tCB (rIsi K) (tCons (tOp (rIx K) (tVar 8) (tC (.int 0))) (tCons (tC (.ty "bool")) tNil)))))) (te := (tC (.int 1))) (by rfl) sc_law_right.nd (pi_any (pv 6)) (blkOk_by (own := [("_law_one", 8)]) (N := N_law_right) (sc := defScope s_law_right) (by decide +kernel)) (fun _ _ _ _ _ => by exact (pg_name (i := 8) sc_law_right.nd rfl (by wtm_at "oi"))) (fun _ _ _ _ _ => by exact (pts_one (PW.pt (pw_or (pt_not (pt_truth (pe_callB call_isi (by rfl) n_isinstance (by decide +kernel) (pa_cons (pe_ix ix_seq (pv 8) pe_int (fun _ _ => rfl)) (pa_cons (pe_bltn (v := .ty "bool") (by rfl) n_bool (by decide +kernel) rfl) pa_nil))) (by intro _; rfl))) (pw_or1 (pt_truth (pe_callB call_isi (by rfl) n_isinstance (by decide +kernel) (pa_cons (pe_ix ix_seq (pv 8) pe_int (fun _ _ => rfl)) (pa_cons (pe_bltn (v := .ty "bool") (by rfl) n_bool (by decide +kernel) rfl) pa_nil))) (by intro _; rfl))))))) (fun _ _ _ _ _ => by exact pe_int)) (pe_lst pa_nil) (nomark _)) (pss_one (ps_ret pe_bl)) pss_nil)
      (pss_cons (ps_expr (pe_bm0 PySem.F.plainAttrs_list PySem.F.slot_list_reverse PySem.F.type_list_reverse mt_reverse (pv 6)))
      (pss_one (ps_expr (pe_bm PySem.F.plainAttrs_list PySem.F.slot_list_append PySem.F.type_list_append mt_append (pv 6) (pa_cons (pe_tup (pa_cons pe_int (pa_cons pe_bl pa_nil))) pa_nil)))))))))))
      (pss_one (ps_ret pe_bl))))))))))))
    (d_law_right kb kx)
abbrev N_law_odd_section : List Str := ["_law_way", "_law_one", "_law_more", "_law_long", "_law_tied", "_law_some"]
theorem sc_law_odd_section : FnScope N_law_odd_section ["_law_way", "_law_one", "_law_more"] (defScope s_law_odd_section) := by wtm_at "sn"
theorem ok_law_odd_section {f : Addr} {fd : FuncData} (F : GD K "_law_odd_section" "_law_odd_section" s_law_odd_section f fd) (n_str : mg "str" = none) :
    FnOk P w K mg base (L2.CX P w) 1 f fd ["_law_way", "_law_one", "_law_more"] (spD K (c_law_odd_section K)) :=
  fn_DD (t := t_law_odd_section K) F sc_law_odd_section (by wtm_at "ln") (by decide)
    (fun cdv A outer s H E hr => by exact
      (pss_cons (ps_asg (pv 1) (pg_tup rfl (pgs_cons (pg_name (i := 3) sc_law_odd_section.nd rfl (by wtm_at "oi")) (pgs_cons (pg_name (i := 4) sc_law_odd_section.nd rfl (by wtm_at "oi")) pgs_nil))))
      (pss_cons (ps_set (i := 5) sc_law_odd_section.nd rfl (by wtm_at "oi") (pe_lst (pa_cons (pe_tup (pa_cons pe_int (pa_cons (pv 4) pa_nil))) (pa_cons (pe_tup (pa_cons (pe_un un_neg (pv 3)) (pa_cons (pv 4) pa_nil))) (pa_cons (pe_tup (pa_cons (pe_op op_addA (pe_op op_addA (pe_op op_pow pe_int pe_int) pe_int) (pv 2)) (pa_cons (pv 4) pa_nil))) (pa_cons (pe_tup (pa_cons pe_bl (pa_cons (pv 4) pa_nil))) (pa_cons (pe_tup (pa_cons (pe_callTy call_str_int (by rfl) n_str (by decide +kernel) (pa_cons (pv 3) pa_nil)) (pa_cons (pv 4) pa_nil))) (pa_cons (pe_tup (pa_cons pe_non (pa_cons (pv 4) pa_nil))) pa_nil))))))))
      (pss_cons (ps_set (i := 5) sc_law_odd_section.nd rfl (by wtm_at "oi") (pe_op op_addA (pv 5) (pe_lst (pa_cons (pe_tup (pa_cons (pv 3) (pa_cons pe_int pa_nil))) (pa_cons (pe_tup (pa_cons (pv 3) (pa_cons pe_int pa_nil))) (pa_cons (pe_tup (pa_cons (pv 3) (pa_cons pe_non pa_nil))) (pa_cons (pe_lst (pa_cons (pv 3) (pa_cons (pv 4) pa_nil))) (pa_cons (pe_tup (pa_cons (pv 3) pa_nil)) (pa_cons (pe_tup (pa_cons (pv 3) (pa_cons (pv 4) (pa_cons (pv 4) pa_nil)))) (pa_cons pe_non (pa_cons (pv 3) pa_nil)))))))))))
      (pss_one (ps_ret (pe_ix ix_seq (pe_op op_addA (pv 5) (pe_lst (pa_cons (pe_tup (pa_cons (pv 4) (pa_cons (pv 3) pa_nil))) (pa_cons (pe_tup (pa_cons (pe_tup (pa_cons (pv 3) (pa_cons (pv 4) pa_nil))) pa_nil)) (pa_cons (pe_tup (pa_cons (pv 3) (pa_cons (pe_lst pa_nil) pa_nil))) pa_nil))))) (pv 0) (fun _ _ => rfl))))))))
    (d_law_odd_section)
abbrev N_law_spoiled : List Str := ["_law_draw", "_law_sections_here", "_law_way", "_law_at", "_law_more"]
theorem sc_law_spoiled : FnScope N_law_spoiled ["_law_draw", "_law_sections_here"] (defScope s_law_spoiled) := by wtm_at "sn"
theorem ok_law_spoiled {f : Addr} {fd : FuncData} {f_law_next f_law_odd_section : Addr} {fd_law_next fd_law_odd_section : FuncData} (F : GD K "_law_spoiled" "_law_spoiled" s_law_spoiled f fd) (F_law_next : FG P w K mg base 1 f_law_next fd_law_next ["_law_draw", "_law_amount"] (c_law_next K) "_law_next") (F_law_odd_section : FG P w K mg base 1 f_law_odd_section fd_law_odd_section ["_law_way", "_law_one", "_law_more"] (c_law_odd_section K) "_law_odd_section") (n_len : mg "len" = none) (n_tuple : mg "tuple" = none) :
    FnOk P w K mg base (L2.CX P w) 2 f fd ["_law_draw", "_law_sections_here"] (spD K (c_law_spoiled K)) :=
  fn_DD (t := t_law_spoiled K) F sc_law_spoiled (by wtm_at "ln") (by decide)
    (fun cdv A outer s H E hr => by exact
      (pss_cons (ps_set (i := 2) sc_law_spoiled.nd rfl (by wtm_at "oi") (pe_call F_law_next.F (hr.mono (by decide)) (by rfl) F_law_next.m F_law_next.k F_law_next.B .nil (by wtm_at "pk") (pa_cons (pv 0) (pa_cons pe_int pa_nil))))
      (pss_cons (ps_set (i := 3) sc_law_spoiled.nd rfl (by wtm_at "oi") (pe_call F_law_next.F (hr.mono (by decide)) (by rfl) F_law_next.m F_law_next.k F_law_next.B .nil (by wtm_at "pk") (pa_cons (pv 0) (pa_cons (pe_callB call_len (by rfl) n_len (by decide +kernel) (pa_cons (pv 1) pa_nil)) pa_nil))))
      (pss_cons (ps_set (i := 4) sc_law_spoiled.nd rfl (by wtm_at "oi") (pe_call F_law_next.F (hr.mono (by decide)) (by rfl) F_law_next.m F_law_next.k F_law_next.B .nil (by wtm_at "pk") (pa_cons (pv 0) (pa_cons (pe_op op_pow pe_int pe_int) pa_nil))))
      (pss_cons (ps_if (pt_cmpR op_lt (pv 2) pe_int (nomark _)) (pss_one (ps_ret (pe_op op_addA (pe_op op_addA (pe_slice sl_any (pv 1) po_none (po_some (pv 3))) (pe_lst (pa_cons (pe_call F_law_odd_section.F (hr.mono (by decide)) (by rfl) F_law_odd_section.m F_law_odd_section.k F_law_odd_section.B .nil (by wtm_at "pk") (pa_cons (pv 2) (pa_cons (pe_ix ix_seq (pv 1) (pv 3) (fun _ _ => rfl)) (pa_cons (pv 4) pa_nil)))) pa_nil))) (pe_slice sl_any (pv 1) (po_some (pe_op op_addA (pv 3) pe_int)) po_none)))) pss_nil)
      (pss_cons (ps_if (pt_cmpR op_lt (pv 2) pe_int (nomark _)) (pss_one (ps_ret (pe_op op_addA (pe_slice sl_any (pv 1) po_none (po_some (pe_un un_neg pe_int))) (pe_lst (pa_cons (pe_tup (pa_cons (pe_ix ix_seq (pe_ix ix_seq (pv 1) (pe_un un_neg pe_int) (fun _ _ => rfl)) pe_int (fun _ _ => rfl)) (pa_cons pe_bl pa_nil))) pa_nil))))) pss_nil)
      (pss_cons (ps_if (pt_cmpR (op_eqD hr.units) (pv 2) pe_int (nomark _)) (pss_one (ps_ret (pe_tupleOf (by rfl) n_tuple (pv 1)))) pss_nil)
      (pss_cons (ps_if (pt_cmpR (op_eqD hr.units) (pv 2) pe_int (nomark _)) (pss_one (ps_ret (pe_op op_addA (pe_op op_mulA (pe_lst (pa_cons (pe_tup (pa_cons (pe_op op_addA pe_int (pv 4)) (pa_cons pe_bl pa_nil))) pa_nil)) (pe_op op_sub (pe_op op_addA pe_int (pe_op op_modA (pv 4) pe_int)) (pe_callB call_len (by rfl) n_len (by decide +kernel) (pa_cons (pv 1) pa_nil)))) (pv 1)))) pss_nil)
      (pss_cons (ps_if (pt_cmpR (op_eqD hr.units) (pv 2) pe_int (nomark _)) (pss_one (ps_ret (pe_op op_addA (pv 1) (pe_op op_mulA (pe_lst (pa_cons (pe_tup (pa_cons pe_int (pa_cons pe_bl pa_nil))) pa_nil)) (pe_op op_addA (pe_op op_sub pe_int (pe_callB call_len (by rfl) n_len (by decide +kernel) (pa_cons (pv 1) pa_nil))) (pe_op op_modA (pv 4) pe_int)))))) pss_nil)
      (pss_cons (ps_if (pt_cmpR (op_eqD hr.units) (pv 2) pe_int (nomark _)) (pss_one (ps_ret (pe_ix ix_seq (pe_lst (pa_cons (pe_lst pa_nil) (pa_cons pe_non (pa_cons pe_int (pa_cons pe_str (pa_cons pe_dnewK (pa_cons (pe_tup pa_nil) (pa_cons (pe_lst (pa_cons (pe_lst pa_nil) pa_nil)) (pa_cons pe_bl pa_nil))))))))) (pe_op op_modA (pv 4) pe_int) (fun _ _ => rfl)))) pss_nil)
      (pss_one (ps_ret (pe_op op_addA (pe_slice sl_any (pv 1) po_none (po_some (pv 3))) (pe_slice sl_any (pv 1) (po_some (pe_op op_addA (pv 3) pe_int)) po_none))))))))))))))
    (d_law_spoiled)
abbrev N_Book_eq : List Str := ["self", "other"]
theorem sc_Book_eq : FnScope N_Book_eq ["self", "other"] (defScope s_Book_eq) := by wtm_at "sn"
theorem ok_Book_eq {f : Addr} {fd : FuncData} {f_Book_sections : Addr} {fd_Book_sections : FuncData} (F : GD K "__eq__" "Book.__eq__" s_Book_eq f fd) (F_Book_sections : FQ P w K mg base 1 f_Book_sections fd_Book_sections ["self"] (c_Book_sections K)) (g_Book : mg "Book" = some (.ref (He.ga K "Book"))) (n_isinstance : mg "isinstance" = none) (cl_Book : Cls K (He.ga K "Book")) (mm_Book_sections : Meth K (He.ga K "Book") "sections" f_Book_sections) (kb : KBook K) (kq_Book : KEq K "Book") :
    FnOk P w K mg base (L2.CX P w) 2 f fd ["self", "other"] (spD K (c_Book_eq K)) :=
  fn_DD (t := t_Book_eq K) F sc_Book_eq (by wtm_at "ln") (by decide)
    (fun cdv A outer s H E hr => by exact
      (pss_one (ps_ret (pe_and (pe_callB call_isi (by rfl) n_isinstance (by decide +kernel) (pa_cons (pv 1) (pa_cons (pe_glob (v := .ref (He.ga K "Book")) (by rfl) g_Book rfl) pa_nil))) (pe_one (pe_cmpR (op_eqD hr.units) (pe_meth0 (pv 0) cl_Book mm_Book_sections F_Book_sections.F (hr.mono (by decide)) F_Book_sections.B .nil (by wtm_at "pk")) (pe_meth0 (pv 1) cl_Book mm_Book_sections F_Book_sections.F (hr.mono (by decide)) F_Book_sections.B .nil (by wtm_at "pk")) (nomark _)))))))
    (d_Book_eq kb kq_Book)
abbrev N_are_numbers : List Str := ["thing", "long", "least", "most", "one"]
theorem sc_are_numbers : FnScope N_are_numbers ["thing", "long", "least", "most"] (defScope s_are_numbers) := by wtm_at "sn"
theorem ok_are_numbers {f : Addr} {fd : FuncData} {f_is_number : Addr} {fd_is_number : FuncData} (F : GD K "are_numbers" "are_numbers" s_are_numbers f fd) (F_is_number : FG P w K mg base 1 f_is_number fd_is_number ["thing", "least", "most"] (c_is_number K) "is_number") (n_list : mg "list" = none) (n_isinstance : mg "isinstance" = none) (n_len : mg "len" = none) (n_all : mg "all" = none) :
    FnOk P w K mg base (L2.CX P w) 2 f fd ["thing", "long", "least", "most"] (spD K (c_are_numbers K)) :=
  fn_DD (t := t_are_numbers K) F sc_are_numbers (by wtm_at "ln") (by decide)
    (fun cdv A outer s H E hr => by exact
      (pss_cons (ps_if (PW.pt (pw_or (pt_not (pt_truth (pe_callB call_isi (by rfl) n_isinstance (by decide +kernel) (pa_cons (pv 0) (pa_cons (pe_bltn (v := .ty "list") (by rfl) n_list (by decide +kernel) rfl) pa_nil))) (by intro _; rfl))) (pw_or1 (pt_not (pt_chain op_le op_le pe_int (pe_callB call_len (by rfl) n_len (by decide +kernel) (pa_cons (pv 0) pa_nil)) (pv 1)))))) (pss_one (ps_ret pe_bl)) pss_nil)
      (pss_one (ps_ret (pe_callB (cr_all rfl) (by rfl) n_all (by decide +kernel) (pa_cons (pe_lc (own := [("one", 4)]) (g := (gName 4)) (tt := tYes) (te := (tCall (spD K (c_is_number K)) [] E0 (tCons (tVar 4) (tCons (tVar 2) (tCons (tVar 3) tNil))))) (by rfl) sc_are_numbers.nd (pi_any (pv 0)) (blkOk_by (own := [("one", 4)]) (N := N_are_numbers) (sc := defScope s_are_numbers) (by decide +kernel)) (fun _ _ _ _ _ => by exact (pg_name (i := 4) sc_are_numbers.nd rfl (by wtm_at "oi"))) (fun _ _ _ _ _ => by exact pts_nil) (fun _ _ _ _ _ => by exact (pe_call F_is_number.F (hr.mono (by decide)) (by rfl) F_is_number.m F_is_number.k F_is_number.B .nil passL (pa_cons (pv 4) (pa_cons (pv 2) (pa_cons (pv 3) pa_nil)))))) pa_nil))))))
    (d_are_numbers)
abbrev N_Calendar_init : List Str := ["self", "years", "days"]
theorem sc_Calendar_init : FnScope N_Calendar_init ["self", "years"] (defScope s_Calendar_init) := by wtm_at "sn"
theorem ok_Calendar_init {f : Addr} {fd : FuncData} {f_are_numbers : Addr} {fd_are_numbers : FuncData} (F : GD K "__init__" "Calendar.__init__" s_Calendar_init f fd) (F_are_numbers : FG P w K mg base 2 f_are_numbers fd_are_numbers ["thing", "long", "least", "most"] (c_are_numbers K) "are_numbers") (x_BadCalendar : ExC K mg "BadCalendar") (n_list : mg "list" = none) (kc : KCal K) :
    FnOk P w K mg base (L2.CX P w) 3 f fd ["self", "years"] (spD K (c_Calendar_init K)) :=
  fn_DD (t := t_Calendar_init K) F sc_Calendar_init (by wtm_at "ln") (by decide)
    (fun cdv A outer s H E hr => by exact
      (pss_cons (ps_if (pt_not (pt_truth (pe_call F_are_numbers.F (hr.mono (by decide)) (by rfl) F_are_numbers.m F_are_numbers.k F_are_numbers.B .nil (by wtm_at "pk") (pa_cons (pv 1) (pa_cons pe_int (pa_cons pe_int (pa_cons pe_int pa_nil))))) (by intro _; rfl))) (pss_one (ps_raise rfl (takes_of rfl rfl rfl rfl) (pmk_own PySem.F.excBase_ValueError x_BadCalendar.xc x_BadCalendar.gc x_BadCalendar.kc (raises_own x_BadCalendar.bc x_BadCalendar.tc) (by rfl)))) pss_nil)
      (pss_cons (ps_fld (pv 0) (pe_callTy call_list_of (by rfl) n_list (by decide +kernel) (pa_cons (pv 1) pa_nil)) rfl)
      (pss_cons (ps_fld (pv 0) (pe_lst pa_nil) rfl)
      (pss_cons (ps_fld (pv 0) pe_int rfl)
      (pss_one (ps_for (passes_of rfl) rfl (pi_any (pe_fld (pv 0) rfl)) (pg_name (i := 2) sc_Calendar_init.nd rfl (by wtm_at "oi")) (pss_cons (ps_expr (pe_bm PySem.F.plainAttrs_list PySem.F.slot_list_append PySem.F.type_list_append mt_append (pe_fld (pv 0) rfl) (pa_cons (pe_fld (pv 0) rfl) pa_nil)))
      (pss_one (ps_fldaug (pv 0) (pv 2) in_add))))))))))
    (d_Calendar_init kc)
abbrev N_Calendar_eq : List Str := ["self", "other"]
theorem sc_Calendar_eq : FnScope N_Calendar_eq ["self", "other"] (defScope s_Calendar_eq) := by wtm_at "sn"
theorem ok_Calendar_eq {f : Addr} {fd : FuncData} (F : GD K "__eq__" "Calendar.__eq__" s_Calendar_eq f fd) (g_Calendar : mg "Calendar" = some (.ref (He.ga K "Calendar"))) (n_isinstance : mg "isinstance" = none) (kc : KCal K) (kq_Calendar : KEq K "Calendar") :
    FnOk P w K mg base (L2.CX P w) 1 f fd ["self", "other"] (spD K (c_Calendar_eq K)) :=
  fn_DD (t := t_Calendar_eq K) F sc_Calendar_eq (by wtm_at "ln") (by decide)
    (fun cdv A outer s H E hr => by exact
      (pss_one (ps_ret (pe_and (pe_callB call_isi (by rfl) n_isinstance (by decide +kernel) (pa_cons (pv 1) (pa_cons (pe_glob (v := .ref (He.ga K "Calendar")) (by rfl) g_Calendar rfl) pa_nil))) (pe_one (pe_cmpR (op_eqD hr.units) (pe_fld (pv 0) rfl) (pe_fld (pv 1) rfl) (nomark _)))))))
    (d_Calendar_eq kc kq_Calendar)
abbrev N_Book_len : List Str := ["self"]
theorem sc_Book_len : FnScope N_Book_len ["self"] (defScope s_Book_len) := by wtm_at "sn"
theorem ok_Book_len {f : Addr} {fd : FuncData} (F : GD K "__len__" "Book.__len__" s_Book_len f fd) (n_len : mg "len" = none) (kb : KBook K) :
    FnOk P w K mg base (L2.CX P w) 1 f fd ["self"] (spD K (c_Book_len K)) :=
  fn_DD (t := t_Book_len K) F sc_Book_len (by wtm_at "ln") (by decide)
    (fun cdv A outer s H E hr => by exact
      (pss_one (ps_ret (pe_callB call_len (by rfl) n_len (by decide +kernel) (pa_cons (pe_fld (pv 0) rfl) pa_nil)))))
    (d_Book_len kb)
abbrev N_law_equal : List Str := ["_law_sections_here", "_law_at", "_law_made", "_law_long", "_law_tied", "_law_others", "_law_one"]
theorem sc_law_equal : FnScope N_law_equal ["_law_sections_here", "_law_at"] (defScope s_law_equal) := by wtm_at "sn"
theorem ok_law_equal {f : Addr} {fd : FuncData} {f_Book_init f_Book_eq f_Calendar_init f_Calendar_eq f_Book_len : Addr} {fd_Book_init fd_Book_eq fd_Calendar_init fd_Calendar_eq fd_Book_len : FuncData} (F : GD K "_law_equal" "_law_equal" s_law_equal f fd) (F_Book_init : FQ P w K mg base 4 f_Book_init fd_Book_init ["self", "sections"] (c_Book_init K)) (M_Book : Mk K (He.ga K "Book") f_Book_init) (F_Book_eq : FQ P w K mg base 2 f_Book_eq fd_Book_eq ["self", "other"] (c_Book_eq K)) (F_Calendar_init : FQ P w K mg base 3 f_Calendar_init fd_Calendar_init ["self", "years"] (c_Calendar_init K)) (M_Calendar : Mk K (He.ga K "Calendar") f_Calendar_init) (F_Calendar_eq : FQ P w K mg base 1 f_Calendar_eq fd_Calendar_eq ["self", "other"] (c_Calendar_eq K)) (F_Book_len : FQ P w K mg base 1 f_Book_len fd_Book_len ["self"] (c_Book_len K)) (n_list : mg "list" = none) (g_Book : mg "Book" = some (.ref (He.ga K "Book"))) (n_len : mg "len" = none) (mm_Book_eq : Meth K (He.ga K "Book") "__eq__" f_Book_eq) (ne_Book : NeO K (He.ga K "Book")) (g_Calendar : mg "Calendar" = some (.ref (He.ga K "Calendar"))) (mm_Calendar_eq : Meth K (He.ga K "Calendar") "__eq__" f_Calendar_eq) (mm_Book_len : Meth K (He.ga K "Book") "__len__" f_Book_len) (kb : KBook K) (kq_Book : KEq K "Book") (kq_Calendar : KEq K "Calendar") (kn_Book_Calendar : KNe K "Book" "Calendar") (kn_Calendar_Book : KNe K "Calendar" "Book") :
    FnOk P w K mg base (L2.CX P w) 6 f fd ["_law_sections_here", "_law_at"] (spD K (c_law_equal K)) :=
  fn_DD (t := t_law_equal K) F sc_law_equal (by wtm_at "ln") (by decide)
    (fun cdv A outer s H E hr => by exact
      (pss_cons (ps_set (i := 2) sc_law_equal.nd rfl (by wtm_at "oi") (pe_make M_Book F_Book_init.F (hr.mono (by decide)) (by rfl) g_Book F_Book_init.B .nil (by wtm_at "pk") (pa_cons (pe_callTy call_list_of (by rfl) n_list (by decide +kernel) (pa_cons (pv 0) pa_nil)) pa_nil)))
      (pss_cons (ps_asg (pe_ix ix_seq (pv 0) (pv 1) (fun _ _ => rfl)) (pg_tup rfl (pgs_cons (pg_name (i := 3) sc_law_equal.nd rfl (by wtm_at "oi")) (pgs_cons (pg_name (i := 4) sc_law_equal.nd rfl (by wtm_at "oi")) pgs_nil))))
      (pss_cons (ps_set (i := 5) sc_law_equal.nd rfl (by wtm_at "oi") (pe_lst (pa_cons (pe_op op_addA (pe_op op_addA (pe_slice sl_any (pv 0) po_none (po_some (pv 1))) (pe_lst (pa_cons (pe_tup (pa_cons (pe_op op_addA (pe_op op_modA (pv 3) (pe_op op_pow pe_int pe_int)) pe_int) (pa_cons (pv 4) pa_nil))) pa_nil))) (pe_slice sl_any (pv 0) (po_some (pe_op op_addA (pv 1) pe_int)) po_none)) (pa_cons (pe_op op_addA (pv 0) (pv 0)) pa_nil))))
      (pss_cons (by first | exact ps_setLc (i := 5) (own := [("_law_one", 6)]) (g := (gName 6)) (tt := (tTest (tOp (rI0 fun i j => .bl (decide (i < j))) (tCB (rLen K) (tCons (tVar 6) tNil)) (tC (.int 61))))) (te := (tVar 6)) (by rfl) sc_law_equal.nd rfl rfl (sw_true rfl rfl rfl (by decide +kernel)) (pi_any (pv 5)) (blkOk_by (own := [("_law_one", 6)]) (N := N_law_equal) (sc := defScope s_law_equal) (by decide +kernel)) (fun _ _ _ _ _ => by exact (pg_name (i := 6) sc_law_equal.nd rfl (by wtm_at "oi"))) (fun _ _ _ _ _ => by exact (pts_one (pt_cmpR op_lt (pe_callB call_len (by rfl) n_len (by decide +kernel) (pa_cons (pv 6) pa_nil)) pe_int (nomark _)))) (fun _ _ _ _ _ => by exact (pv 6)) | exact ps_set (i := 5) sc_law_equal.nd rfl (by wtm_at "oi") (pe_lc (own := [("_law_one", 6)]) (g := (gName 6)) (tt := (tTest (tOp (rI0 fun i j => .bl (decide (i < j))) (tCB (rLen K) (tCons (tVar 6) tNil)) (tC (.int 61))))) (te := (tVar 6)) (by rfl) sc_law_equal.nd (pi_any (pv 5)) (blkOk_by (own := [("_law_one", 6)]) (N := N_law_equal) (sc := defScope s_law_equal) (by decide +kernel)) (fun _ _ _ _ _ => by exact (pg_name (i := 6) sc_law_equal.nd rfl (by wtm_at "oi"))) (fun _ _ _ _ _ => by exact (pts_one (pt_cmpR op_lt (pe_callB call_len (by rfl) n_len (by decide +kernel) (pa_cons (pv 6) pa_nil)) pe_int (nomark _)))) (fun _ _ _ _ _ => by exact (pv 6))))
      (pss_cons (ps_if (pt_cmpR op_lt (pe_op op_addA (pv 1) pe_int) (pe_callB call_len (by rfl) n_len (by decide +kernel) (pa_cons (pv 0) pa_nil)) (nomark _)) (pss_cons (ps_expr (pe_bm PySem.F.plainAttrs_list PySem.F.slot_list_append PySem.F.type_list_append mt_append (pv 5) (pa_cons (pe_op op_addA (pe_op op_addA (pe_slice sl_any (pv 0) po_none (po_some (pv 1))) (pe_lst (pa_cons (pe_tup (pa_cons (pv 3) (pa_cons (pe_not (pv 4)) pa_nil))) pa_nil))) (pe_slice sl_any (pv 0) (po_some (pe_op op_addA (pv 1) pe_int)) po_none)) pa_nil)))
      (pss_one (ps_expr (pe_bm PySem.F.plainAttrs_list PySem.F.slot_list_append PySem.F.type_list_append mt_append (pv 5) (pa_cons (pe_op op_addA (pe_slice sl_any (pv 0) po_none (po_some (pv 1))) (pe_slice sl_any (pv 0) (po_some (pe_op op_addA (pv 1) pe_int)) po_none)) pa_nil))))) pss_nil)
      (pss_cons (ps_if (pt_cmpR (op_neD hr.units) (pe_lc (own := [("_law_one", 6)]) (g := (gName 6)) (tt := (tOr (tTest (tOp rNotB (tOp (rEqO K (He.ga K "Book") (spD K (c_Book_eq K)) E0) (tVar 2) (tMake (He.ga K "Book") (spD K (c_Book_init K)) [] E0 (tCons (tVar 6) tNil))) (tC (.bl false)))) (tTest (tOp rNotB (tOp (rNeO K (He.ga K "Book") (spD K (c_Book_eq K)) E0) (tMake (He.ga K "Book") (spD K (c_Book_init K)) [] E0 (tCons (tVar 6) tNil)) (tVar 2)) (tC (.bl true)))))) (te := (tC (.int 1))) (by rfl) sc_law_equal.nd (pi_any (pv 5)) (blkOk_by (own := [("_law_one", 6)]) (N := N_law_equal) (sc := defScope s_law_equal) (by decide +kernel)) (fun _ _ _ _ _ => by exact (pg_name (i := 6) sc_law_equal.nd rfl (by wtm_at "oi"))) (fun _ _ _ _ _ => by exact (pts_one (PW.pt (pw_or (pt_cmpR op_notBl (pe_cmpR (op_eqO mm_Book_eq F_Book_eq.F (hr.mono (by decide)) F_Book_eq.B passL) (pv 2) (pe_make M_Book F_Book_init.F (hr.mono (by decide)) (by rfl) g_Book F_Book_init.B .nil passL (pa_cons (pv 6) pa_nil)) (nomark _)) pe_bl (nomark _)) (pw_or1 (pt_cmpR op_notBl (pe_cmpR (op_neO mm_Book_eq ne_Book F_Book_eq.F (hr.mono (by decide)) F_Book_eq.B passL) (pe_make M_Book F_Book_init.F (hr.mono (by decide)) (by rfl) g_Book F_Book_init.B .nil passL (pa_cons (pv 6) pa_nil)) (pv 2) (nomark _)) pe_bl (nomark _))))))) (fun _ _ _ _ _ => by exact pe_int)) (pe_lst pa_nil) (nomark _)) (pss_one (ps_ret pe_bl)) pss_nil)
      (pss_cons (ps_if (PW.pt (pw_or (pt_cmpR op_notBl (pe_cmpR (op_eqO mm_Book_eq F_Book_eq.F (hr.mono (by decide)) F_Book_eq.B (by wtm_at "pk")) (pv 2) (pe_make M_Calendar F_Calendar_init.F (hr.mono (by decide)) (by rfl) g_Calendar F_Calendar_init.B .nil (by wtm_at "pk") (pa_cons (pe_lst (pa_cons pe_int (pa_cons (pe_op op_addA (pv 1) pe_int) pa_nil))) pa_nil)) (nomark _)) pe_bl (nomark _)) (pw_or1 (pt_cmpR op_notBl (pe_cmpR (op_eqO mm_Calendar_eq F_Calendar_eq.F (hr.mono (by decide)) F_Calendar_eq.B (by wtm_at "pk")) (pe_make M_Calendar F_Calendar_init.F (hr.mono (by decide)) (by rfl) g_Calendar F_Calendar_init.B .nil (by wtm_at "pk") (pa_cons (pe_lst (pa_cons (pe_callB call_len (by rfl) n_len (by decide +kernel) (pa_cons (pv 0) pa_nil)) pa_nil)) pa_nil)) (pv 2) (nomark _)) pe_bl (nomark _))))) (pss_one (ps_ret pe_bl)) pss_nil)
      (pss_one (ps_ret (pe_and (pe_cmpR op_isBl (pe_cmpR (op_eqO mm_Book_eq F_Book_eq.F (hr.mono (by decide)) F_Book_eq.B (by wtm_at "pk")) (pv 2) (pe_make M_Book F_Book_init.F (hr.mono (by decide)) (by rfl) g_Book F_Book_init.B .nil (by wtm_at "pk") (pa_cons (pe_callTy call_list_of (by rfl) n_list (by decide +kernel) (pa_cons (pv 0) pa_nil)) pa_nil)) (nomark _)) pe_bl (nomark _)) (pe_one (pe_cmpR (op_eqD hr.units) (pe_callB (call_lenO mm_Book_len F_Book_len.F (hr.mono (by decide)) F_Book_len.B (by wtm_at "pk")) (by rfl) n_len (by decide +kernel) (pa_cons (pv 2) pa_nil)) (pe_callB call_len (by rfl) n_len (by decide +kernel) (pa_cons (pv 0) pa_nil)) (nomark _))))))))))))))
    (d_law_equal kb kq_Book kq_Calendar kn_Book_Calendar kn_Calendar_Book)
abbrev N_law : List Str := ["_law_script", "_law_k", "_law_draw", "_law_spoil", "_law_at", "_law_sections_here"]
theorem sc_law : FnScope N_law ["_law_script"] (defScope s_law) := by wtm_at "sn"
theorem ok_law {f : Addr} {fd : FuncData} {f_law_state f_law_next f_law_sections f_law_right f_law_spoiled f_law_equal : Addr} {fd_law_state fd_law_next fd_law_sections fd_law_right fd_law_spoiled fd_law_equal : FuncData} (F : GD K "law" "law" s_law f fd) (F_law_state : FG P w K mg base 1 f_law_state fd_law_state ["_law_script", "_law_k"] (c_law_state K) "_law_state") (F_law_next : FG P w K mg base 1 f_law_next fd_law_next ["_law_draw", "_law_amount"] (c_law_next K) "_law_next") (F_law_sections : FG P w K mg base 3 f_law_sections fd_law_sections ["_law_draw", "_law_most"] (c_law_sections K) "_law_sections") (F_law_right : FG P w K mg base 6 f_law_right fd_law_right ["_law_thing"] (c_law_right K) "_law_right") (F_law_spoiled : FG P w K mg base 2 f_law_spoiled fd_law_spoiled ["_law_draw", "_law_sections_here"] (c_law_spoiled K) "_law_spoiled") (F_law_equal : FG P w K mg base 6 f_law_equal fd_law_equal ["_law_sections_here", "_law_at"] (c_law_equal K) "_law_equal") (n_len : mg "len" = none) (n_min : mg "min" = none) (n_max : mg "max" = none) (n_range : mg "range" = none) :
    FnOk P w K mg base (L2.CX P w) 7 f fd ["_law_script"] (spD K (c_law K)) :=
  fn_DD (t := t_law K) F sc_law (by wtm_at "ln") (by decide)
    (fun cdv A outer s H E hr => by exact
      (pss_cons (ps_for (passes_of rfl) rfl (pi_range1 (by rfl) n_range (pa_cons (pe_callB (call_maxA rfl) (by rfl) n_max (by decide +kernel) (pa_cons pe_int (pa_cons (pe_callB (call_minA rfl) (by rfl) n_min (by decide +kernel) (pa_cons pe_int (pa_cons (pe_callB call_len (by rfl) n_len (by decide +kernel) (pa_cons (pv 0) pa_nil)) pa_nil))) pa_nil))) pa_nil)) (pg_name (i := 1) sc_law.nd rfl (by wtm_at "oi")) (pss_cons (ps_set (i := 2) sc_law.nd rfl (by wtm_at "oi") (pe_call F_law_state.F (hr.mono (by decide)) (by rfl) F_law_state.m F_law_state.k F_law_state.B .nil (by wtm_at "pk") (pa_cons (pv 0) (pa_cons (pv 1) pa_nil))))
      (pss_cons (ps_set (i := 3) sc_law.nd rfl (by wtm_at "oi") (pe_call F_law_next.F (hr.mono (by decide)) (by rfl) F_law_next.m F_law_next.k F_law_next.B .nil (by wtm_at "pk") (pa_cons (pv 2) (pa_cons pe_int pa_nil))))
      (pss_cons (ps_set (i := 4) sc_law.nd rfl (by wtm_at "oi") (pe_call F_law_next.F (hr.mono (by decide)) (by rfl) F_law_next.m F_law_next.k F_law_next.B .nil (by wtm_at "pk") (pa_cons (pv 2) (pa_cons pe_int pa_nil))))
      (pss_cons (ps_set (i := 5) sc_law.nd rfl (by wtm_at "oi") (pe_call F_law_sections.F (hr.mono (by decide)) (by rfl) F_law_sections.m F_law_sections.k F_law_sections.B .nil (by wtm_at "pk") (pa_cons (pv 2) (pa_cons (pe_ifExp (pt_cmpR (op_eqD hr.units) (pe_op op_modA (pv 1) pe_int) pe_int (nomark _)) pe_int pe_int) pa_nil))))
      (pss_cons (ps_if (PW.pt (pw_or (pt_not (pt_truth (pe_call F_law_right.F (hr.mono (by decide)) (by rfl) F_law_right.m F_law_right.k F_law_right.B .nil (by wtm_at "pk") (pa_cons (pv 5) pa_nil)) (by intro _; rfl))) (pw_or1 (PW.pt (pw_and (pt_cmpR op_gt (pv 3) pe_int (nomark _)) (pw_and1 (pt_not (pt_truth (pe_call F_law_right.F (hr.mono (by decide)) (by rfl) F_law_right.m F_law_right.k F_law_right.B .nil (by wtm_at "pk") (pa_cons (pe_call F_law_spoiled.F (hr.mono (by decide)) (by rfl) F_law_spoiled.m F_law_spoiled.k F_law_spoiled.B .nil (by wtm_at "pk") (pa_cons (pv 2) (pa_cons (pv 5) pa_nil))) pa_nil)) (by intro _; rfl))))))))) (pss_one (ps_ret pe_bl)) pss_nil)
      (pss_one (ps_if (pt_not (pt_truth (pe_call F_law_equal.F (hr.mono (by decide)) (by rfl) F_law_equal.m F_law_equal.k F_law_equal.B .nil (by wtm_at "pk") (pa_cons (pv 5) (pa_cons (pe_op op_modA (pv 4) (pe_callB call_len (by rfl) n_len (by decide +kernel) (pa_cons (pv 5) pa_nil))) pa_nil))) (by intro _; rfl))) (pss_one (ps_ret pe_bl)) pss_nil))))))))
      (pss_one (ps_ret pe_bl))))
    (d_law)
end
/-! ### the end -/
set_option maxHeartbeats 0 in
theorem facts {P : Program} {w : World} {K : PySem.W.Frag} {h : Heap} {mg : Str → Option Value} {f : Addr} (X : K.In h) (G : h.Ns mainGlobals mg) (hfa : mg ("law" : Str) = some (.ref f)) (c : He.SaysD fas fns K) (cx : exAll exs K = true) :
    ∃ fd : FuncData, (∀ (s : Shared) (v : Value), BindsTo s fd ⟨[v], []⟩ [("_law_script", v)]) ∧ ∀ base : Heap, K.In base → base.Ns mainGlobals mg → FnOk P w K mg base (L2.CX P w) 7 f fd ["_law_script"] (spD K (c_law K)) := by
  have e := hfa.symm.trans (He.glo_ok X G (c.fact 61 (f := .glo "law") rfl))
  cases e
  have q0 := He.free_ok X G (c.fact 0 (f := .free "len") rfl)
  have q1 := He.free_ok X G (c.fact 1 (f := .free "range") rfl)
  have q2 := He.glo_ok X G (c.fact 2 (f := .glo "_law_next") rfl)
  have q3 := He.free_ok X G (c.fact 4 (f := .free "int") rfl)
  have q4 := He.free_ok X G (c.fact 5 (f := .free "isinstance") rfl)
  have q5 := He.free_ok X G (c.fact 6 (f := .free "bool") rfl)
  have q6 := He.glo_ok X G (c.fact 7 (f := .glo "is_number") rfl)
  have q7 := He.free_ok X G (c.fact 8 (f := .free "tuple") rfl)
  have q8 := He.free_ok X G (c.fact 11 (f := .free "list") rfl)
  have q9 := He.free_ok X G (c.fact 13 (f := .free "all") rfl)
  have q10 := He.exc_ok (c.fact 15 (f := .exc "BadBook") rfl)
  have q11 := He.glo_ok X G (c.fact 16 (f := .glo "BadBook") rfl)
  have q12 := He.cls_ok (c.fact 17 (f := .cls "Book") rfl)
  have q13 := He.noat_ok (c.fact 18 (f := .noat "Book" "parts") rfl)
  have q14 := He.glo_ok X G (c.fact 21 (f := .glo "BadCalendar") rfl)
  have q15 := He.mkr_ok (c.fact 34 (f := .mkr "Book") rfl)
  have q16 := He.glo_ok X G (c.fact 38 (f := .glo "Book") rfl)
  have q17 := He.meth_ok (c.fact 39 (f := .meth "Book" "sections") rfl)
  have q18 := He.exc_ok (c.fact 44 (f := .exc "BadCalendar") rfl)
  have q19 := He.cls_ok (c.fact 45 (f := .cls "Calendar") rfl)
  have q20 := He.noat_ok (c.fact 46 (f := .noat "Calendar" "lengths") rfl)
  have q21 := He.noat_ok (c.fact 47 (f := .noat "Calendar" "begins") rfl)
  have q22 := He.noat_ok (c.fact 48 (f := .noat "Calendar" "whole") rfl)
  have q23 := He.glo_ok X G (c.fact 49 (f := .glo "Calendar") rfl)
  obtain ⟨fd_law_state, G0_law_state⟩ := c.def_ 0 (d := dd_law_state) rfl
  have G_law_state : GD K "_law_state" "_law_state" s_law_state (He.ga K "_law_state") fd_law_state := G0_law_state
  have B_law_state : Binds K fd_law_state ["_law_script", "_law_k"] [] := G_law_state.bindsN fun _ _ _ _ _ _ us hl => match us, hl with | [_, _], _ => rfl
  obtain ⟨fd_law_next, G0_law_next⟩ := c.def_ 1 (d := dd_law_next) rfl
  have G_law_next : GD K "_law_next" "_law_next" s_law_next (He.ga K "_law_next") fd_law_next := G0_law_next
  have B_law_next : Binds K fd_law_next ["_law_draw", "_law_amount"] [] := G_law_next.bindsN fun _ _ _ _ _ _ us hl => match us, hl with | [_, _], _ => rfl
  obtain ⟨fd_law_pick, G0_law_pick⟩ := c.def_ 2 (d := dd_law_pick) rfl
  have G_law_pick : GD K "_law_pick" "_law_pick" s_law_pick (He.ga K "_law_pick") fd_law_pick := G0_law_pick
  have B_law_pick : Binds K fd_law_pick ["_law_draw", "_law_some"] [] := G_law_pick.bindsN fun _ _ _ _ _ _ us hl => match us, hl with | [_, _], _ => rfl
  obtain ⟨fd_law_sections, G0_law_sections⟩ := c.def_ 3 (d := dd_law_sections) rfl
  have G_law_sections : GD K "_law_sections" "_law_sections" s_law_sections (He.ga K "_law_sections") fd_law_sections := G0_law_sections
  have B_law_sections : Binds K fd_law_sections ["_law_draw", "_law_most"] [] := G_law_sections.bindsN fun _ _ _ _ _ _ us hl => match us, hl with | [_, _], _ => rfl
  obtain ⟨fd_is_number, G0_is_number⟩ := c.def_ 4 (d := dd_is_number) rfl
  have G_is_number : GD K "is_number" "is_number" s_is_number (He.ga K "is_number") fd_is_number := G0_is_number
  have B_is_number : Binds K fd_is_number ["thing", "least", "most"] [] := G_is_number.bindsN fun _ _ _ _ _ _ us hl => match us, hl with | [_, _, _], _ => rfl
  obtain ⟨fd_is_section, G0_is_section⟩ := c.def_ 5 (d := dd_is_section) rfl
  have G_is_section : GD K "is_section" "is_section" s_is_section (He.ga K "is_section") fd_is_section := G0_is_section
  have B_is_section : Binds K fd_is_section ["thing"] [] := G_is_section.bindsN fun _ _ _ _ _ _ us hl => match us, hl with | [_], _ => rfl
  obtain ⟨fd_are_sections, G0_are_sections⟩ := c.def_ 6 (d := dd_are_sections) rfl
  have G_are_sections : GD K "are_sections" "are_sections" s_are_sections (He.ga K "are_sections") fd_are_sections := G0_are_sections
  have B_are_sections : Binds K fd_are_sections ["thing"] [] := G_are_sections.bindsN fun _ _ _ _ _ _ us hl => match us, hl with | [_], _ => rfl
  obtain ⟨fd_Book_init, G0_Book_init⟩ := c.def_ 7 (d := dd_Book_init) rfl
  have G_Book_init : GD K "__init__" "Book.__init__" s_Book_init (He.ma K (He.ga K "Book") "__init__") fd_Book_init := G0_Book_init
  have B_Book_init : Binds K fd_Book_init ["self", "sections"] [] := G_Book_init.bindsN fun _ _ _ _ _ _ us hl => match us, hl with | [_, _], _ => rfl
  obtain ⟨fd_law_is_book, G0_law_is_book⟩ := c.def_ 8 (d := dd_law_is_book) rfl
  have G_law_is_book : GD K "_law_is_book" "_law_is_book" s_law_is_book (He.ga K "_law_is_book") fd_law_is_book := G0_law_is_book
  have B_law_is_book : Binds K fd_law_is_book ["_law_thing"] [] := G_law_is_book.bindsN fun _ _ _ _ _ _ us hl => match us, hl with | [_], _ => rfl
  obtain ⟨fd_law_word, G0_law_word⟩ := c.def_ 9 (d := dd_law_word) rfl
  have G_law_word : GD K "_law_word" "_law_word" s_law_word (He.ga K "_law_word") fd_law_word := G0_law_word
  have B_law_word : Binds K fd_law_word ["_law_e"] [] := G_law_word.bindsN fun _ _ _ _ _ _ us hl => match us, hl with | [_], _ => rfl
  obtain ⟨fd_Book_sections, G0_Book_sections⟩ := c.def_ 10 (d := dd_Book_sections) rfl
  have G_Book_sections : GD K "sections" "Book.sections" s_Book_sections (He.ma K (He.ga K "Book") "sections") fd_Book_sections := G0_Book_sections
  have B_Book_sections : Binds K fd_Book_sections ["self"] [] := G_Book_sections.bindsN fun _ _ _ _ _ _ us hl => match us, hl with | [_], _ => rfl
  obtain ⟨fd_Book_many, G0_Book_many⟩ := c.def_ 11 (d := dd_Book_many) rfl
  have G_Book_many : GD K "many" "Book.many" s_Book_many (He.ma K (He.ga K "Book") "many") fd_Book_many := G0_Book_many
  have B_Book_many : Binds K fd_Book_many ["self"] [] := G_Book_many.bindsN fun _ _ _ _ _ _ us hl => match us, hl with | [_], _ => rfl
  obtain ⟨fd_law_right, G0_law_right⟩ := c.def_ 12 (d := dd_law_right) rfl
  have G_law_right : GD K "_law_right" "_law_right" s_law_right (He.ga K "_law_right") fd_law_right := G0_law_right
  have B_law_right : Binds K fd_law_right ["_law_thing"] [] := G_law_right.bindsN fun _ _ _ _ _ _ us hl => match us, hl with | [_], _ => rfl
  obtain ⟨fd_law_odd_section, G0_law_odd_section⟩ := c.def_ 13 (d := dd_law_odd_section) rfl
  have G_law_odd_section : GD K "_law_odd_section" "_law_odd_section" s_law_odd_section (He.ga K "_law_odd_section") fd_law_odd_section := G0_law_odd_section
  have B_law_odd_section : Binds K fd_law_odd_section ["_law_way", "_law_one", "_law_more"] [] := G_law_odd_section.bindsN fun _ _ _ _ _ _ us hl => match us, hl with | [_, _, _], _ => rfl
  obtain ⟨fd_law_spoiled, G0_law_spoiled⟩ := c.def_ 14 (d := dd_law_spoiled) rfl
  have G_law_spoiled : GD K "_law_spoiled" "_law_spoiled" s_law_spoiled (He.ga K "_law_spoiled") fd_law_spoiled := G0_law_spoiled
  have B_law_spoiled : Binds K fd_law_spoiled ["_law_draw", "_law_sections_here"] [] := G_law_spoiled.bindsN fun _ _ _ _ _ _ us hl => match us, hl with | [_, _], _ => rfl
  obtain ⟨fd_Book_eq, G0_Book_eq⟩ := c.def_ 15 (d := dd_Book_eq) rfl
  have G_Book_eq : GD K "__eq__" "Book.__eq__" s_Book_eq (He.ma K (He.ga K "Book") "__eq__") fd_Book_eq := G0_Book_eq
  have B_Book_eq : Binds K fd_Book_eq ["self", "other"] [] := G_Book_eq.bindsN fun _ _ _ _ _ _ us hl => match us, hl with | [_, _], _ => rfl
  obtain ⟨fd_are_numbers, G0_are_numbers⟩ := c.def_ 16 (d := dd_are_numbers) rfl
  have G_are_numbers : GD K "are_numbers" "are_numbers" s_are_numbers (He.ga K "are_numbers") fd_are_numbers := G0_are_numbers
  have B_are_numbers : Binds K fd_are_numbers ["thing", "long", "least", "most"] [] := G_are_numbers.bindsN fun _ _ _ _ _ _ us hl => match us, hl with | [_, _, _, _], _ => rfl
  obtain ⟨fd_Calendar_init, G0_Calendar_init⟩ := c.def_ 17 (d := dd_Calendar_init) rfl
  have G_Calendar_init : GD K "__init__" "Calendar.__init__" s_Calendar_init (He.ma K (He.ga K "Calendar") "__init__") fd_Calendar_init := G0_Calendar_init
  have B_Calendar_init : Binds K fd_Calendar_init ["self", "years"] [] := G_Calendar_init.bindsN fun _ _ _ _ _ _ us hl => match us, hl with | [_, _], _ => rfl
  obtain ⟨fd_Calendar_eq, G0_Calendar_eq⟩ := c.def_ 18 (d := dd_Calendar_eq) rfl
  have G_Calendar_eq : GD K "__eq__" "Calendar.__eq__" s_Calendar_eq (He.ma K (He.ga K "Calendar") "__eq__") fd_Calendar_eq := G0_Calendar_eq
  have B_Calendar_eq : Binds K fd_Calendar_eq ["self", "other"] [] := G_Calendar_eq.bindsN fun _ _ _ _ _ _ us hl => match us, hl with | [_, _], _ => rfl
  obtain ⟨fd_Book_len, G0_Book_len⟩ := c.def_ 19 (d := dd_Book_len) rfl
  have G_Book_len : GD K "__len__" "Book.__len__" s_Book_len (He.ma K (He.ga K "Book") "__len__") fd_Book_len := G0_Book_len
  have B_Book_len : Binds K fd_Book_len ["self"] [] := G_Book_len.bindsN fun _ _ _ _ _ _ us hl => match us, hl with | [_], _ => rfl
  obtain ⟨fd_law_equal, G0_law_equal⟩ := c.def_ 20 (d := dd_law_equal) rfl
  have G_law_equal : GD K "_law_equal" "_law_equal" s_law_equal (He.ga K "_law_equal") fd_law_equal := G0_law_equal
  have B_law_equal : Binds K fd_law_equal ["_law_sections_here", "_law_at"] [] := G_law_equal.bindsN fun _ _ _ _ _ _ us hl => match us, hl with | [_, _], _ => rfl
  obtain ⟨fd_law, G0_law⟩ := c.def_ 21 (d := dd_law) rfl
  have G_law : GD K "law" "law" s_law (He.ga K "law") fd_law := G0_law
  have b := FunD.bindsA (ps := ["_law_script"]) G_law fun _ _ _ _ _ _ us hl => match us, hl with | [_], _ => rfl
  refine ⟨fd_law, fun s v => b s [v] rfl, fun base _ _ => ?_⟩
  have F_law_state : FnOk P w K mg base (L2.CX P w) 1 _ fd_law_state ["_law_script", "_law_k"] (spD K (c_law_state K)) := ok_law_state G_law_state q0 q1
  have F_law_next : FnOk P w K mg base (L2.CX P w) 1 _ fd_law_next ["_law_draw", "_law_amount"] (spD K (c_law_next K)) := ok_law_next G_law_next 
  have F_law_pick : FnOk P w K mg base (L2.CX P w) 2 _ fd_law_pick ["_law_draw", "_law_some"] (spD K (c_law_pick K)) := ok_law_pick G_law_pick ⟨⟨F_law_next, B_law_next⟩, q2, G_law_next.kp⟩ q0
  have F_law_sections : FnOk P w K mg base (L2.CX P w) 3 _ fd_law_sections ["_law_draw", "_law_most"] (spD K (c_law_sections K)) := ok_law_sections G_law_sections ⟨⟨F_law_pick, B_law_pick⟩, (He.glo_ok X G (c.fact 3 (f := .glo "_law_pick") rfl)), G_law_pick.kp⟩ ⟨⟨F_law_next, B_law_next⟩, q2, G_law_next.kp⟩ q1
  have F_is_number : FnOk P w K mg base (L2.CX P w) 1 _ fd_is_number ["thing", "least", "most"] (spD K (c_is_number K)) := ok_is_number G_is_number q3 q4 q5
  have F_is_section : FnOk P w K mg base (L2.CX P w) 2 _ fd_is_section ["thing"] (spD K (c_is_section K)) := ok_is_section G_is_section ⟨⟨F_is_number, B_is_number⟩, q6, G_is_number.kp⟩ q7 q4 q0 q5 (He.int_ok X G (c.fact 9 (f := .int "LONGEST" 1000000000000) rfl))
  have F_are_sections : FnOk P w K mg base (L2.CX P w) 3 _ fd_are_sections ["thing"] (spD K (c_are_sections K)) := ok_are_sections G_are_sections ⟨⟨F_is_section, B_is_section⟩, (He.glo_ok X G (c.fact 10 (f := .glo "is_section") rfl)), G_is_section.kp⟩ q8 q4 q0 (He.int_ok X G (c.fact 12 (f := .int "MOST_SECTIONS" 60) rfl)) q9
  have F_Book_init : FnOk P w K mg base (L2.CX P w) 4 _ fd_Book_init ["self", "sections"] (spD K (c_Book_init K)) := ok_Book_init G_Book_init ⟨⟨F_are_sections, B_are_sections⟩, (He.glo_ok X G (c.fact 14 (f := .glo "are_sections") rfl)), G_are_sections.kp⟩ ⟨q10.1, q11, q10.2.1, q10.2.2.1, q10.2.2.2⟩ q8 (⟨q12, q13⟩)
  have F_law_is_book : FnOk P w K mg base (L2.CX P w) 1 _ fd_law_is_book ["_law_thing"] (spD K (c_law_is_book K)) := ok_law_is_book G_law_is_book q8 q4 q0 q7 q5 q3
  have F_law_word : FnOk P w K mg base (L2.CX P w) 1 _ fd_law_word ["_law_e"] (spD K (c_law_word K)) := ok_law_word G_law_word (He.glo_ok X G (c.fact 19 (f := .glo "BadRow") rfl)) q4 (He.glo_ok X G (c.fact 20 (f := .glo "BadFeast") rfl)) q14 q11 (He.glo_ok X G (c.fact 22 (f := .glo "NoRow") rfl)) (He.glo_ok X G (c.fact 23 (f := .glo "NoDay") rfl)) (He.glo_ok X G (c.fact 24 (f := .glo "BadNumber") rfl)) (He.glo_ok X G (c.fact 25 (f := .glo "BadHouse") rfl)) (He.glo_ok X G (c.fact 26 (f := .glo "NeverDone") rfl)) (He.glo_ok X G (c.fact 27 (f := .glo "TooTight") rfl)) (He.glo_ok X G (c.fact 28 (f := .glo "NoPiece") rfl)) (He.glo_ok X G (c.fact 29 (f := .glo "BadText") rfl)) (He.glo_ok X G (c.fact 30 (f := .glo "NoDeed") rfl)) (He.glo_ok X G (c.fact 31 (f := .glo "TooFar") rfl)) (He.free_ok X G (c.fact 32 (f := .free "zip") rfl)) q0 (He.free_ok X G (c.fact 33 (f := .free "ValueError") rfl)) (kexcB_ok (exAll_at cx 0 (e := kexcB excNames) rfl))
  have F_Book_sections : FnOk P w K mg base (L2.CX P w) 1 _ fd_Book_sections ["self"] (spD K (c_Book_sections K)) := ok_Book_sections G_Book_sections q8 (⟨q12, q13⟩)
  have F_Book_many : FnOk P w K mg base (L2.CX P w) 1 _ fd_Book_many ["self"] (spD K (c_Book_many K)) := ok_Book_many G_Book_many q0 (⟨q12, q13⟩)
  have F_law_right : FnOk P w K mg base (L2.CX P w) 6 _ fd_law_right ["_law_thing"] (spD K (c_law_right K)) := ok_law_right G_law_right ⟨F_Book_init, B_Book_init⟩ q15 ⟨⟨F_law_is_book, B_law_is_book⟩, (He.glo_ok X G (c.fact 35 (f := .glo "_law_is_book") rfl)), G_law_is_book.kp⟩ ⟨⟨F_law_word, B_law_word⟩, (He.glo_ok X G (c.fact 36 (f := .glo "_law_word") rfl)), G_law_word.kp⟩ ⟨F_Book_sections, B_Book_sections⟩ ⟨F_Book_many, B_Book_many⟩ q8 q4 (He.glo_ok X G (c.fact 37 (f := .glo "ReadError") rfl)) q16 q1 q12 q17 (He.meth_ok (c.fact 40 (f := .meth "Book" "many") rfl)) q3 q5 q0 q7 (⟨q12, q13⟩) (kexcB_ok (exAll_at cx 0 (e := kexcB excNames) rfl))
  have F_law_odd_section : FnOk P w K mg base (L2.CX P w) 1 _ fd_law_odd_section ["_law_way", "_law_one", "_law_more"] (spD K (c_law_odd_section K)) := ok_law_odd_section G_law_odd_section (He.free_ok X G (c.fact 41 (f := .free "str") rfl))
  have F_law_spoiled : FnOk P w K mg base (L2.CX P w) 2 _ fd_law_spoiled ["_law_draw", "_law_sections_here"] (spD K (c_law_spoiled K)) := ok_law_spoiled G_law_spoiled ⟨⟨F_law_next, B_law_next⟩, q2, G_law_next.kp⟩ ⟨⟨F_law_odd_section, B_law_odd_section⟩, (He.glo_ok X G (c.fact 42 (f := .glo "_law_odd_section") rfl)), G_law_odd_section.kp⟩ q0 q7
  have F_Book_eq : FnOk P w K mg base (L2.CX P w) 2 _ fd_Book_eq ["self", "other"] (spD K (c_Book_eq K)) := ok_Book_eq G_Book_eq ⟨F_Book_sections, B_Book_sections⟩ q16 q4 q12 q17 (⟨q12, q13⟩) (keqB_ok q12 (exAll_at cx 1 (e := keqB "Book") rfl))
  have F_are_numbers : FnOk P w K mg base (L2.CX P w) 2 _ fd_are_numbers ["thing", "long", "least", "most"] (spD K (c_are_numbers K)) := ok_are_numbers G_are_numbers ⟨⟨F_is_number, B_is_number⟩, q6, G_is_number.kp⟩ q8 q4 q0 q9
  have F_Calendar_init : FnOk P w K mg base (L2.CX P w) 3 _ fd_Calendar_init ["self", "years"] (spD K (c_Calendar_init K)) := ok_Calendar_init G_Calendar_init ⟨⟨F_are_numbers, B_are_numbers⟩, (He.glo_ok X G (c.fact 43 (f := .glo "are_numbers") rfl)), G_are_numbers.kp⟩ ⟨q18.1, q14, q18.2.1, q18.2.2.1, q18.2.2.2⟩ q8 (⟨q19, q20, q21, q22⟩)
  have F_Calendar_eq : FnOk P w K mg base (L2.CX P w) 1 _ fd_Calendar_eq ["self", "other"] (spD K (c_Calendar_eq K)) := ok_Calendar_eq G_Calendar_eq q23 q4 (⟨q19, q20, q21, q22⟩) (keqB_ok q19 (exAll_at cx 2 (e := keqB "Calendar") rfl))
  have F_Book_len : FnOk P w K mg base (L2.CX P w) 1 _ fd_Book_len ["self"] (spD K (c_Book_len K)) := ok_Book_len G_Book_len q0 (⟨q12, q13⟩)
  have F_law_equal : FnOk P w K mg base (L2.CX P w) 6 _ fd_law_equal ["_law_sections_here", "_law_at"] (spD K (c_law_equal K)) := ok_law_equal G_law_equal ⟨F_Book_init, B_Book_init⟩ q15 ⟨F_Book_eq, B_Book_eq⟩ ⟨F_Calendar_init, B_Calendar_init⟩ (He.mkr_ok (c.fact 50 (f := .mkr "Calendar") rfl)) ⟨F_Calendar_eq, B_Calendar_eq⟩ ⟨F_Book_len, B_Book_len⟩ q8 q16 q0 (He.meth_ok (c.fact 51 (f := .meth "Book" "__eq__") rfl)) (neB_ok (exAll_at cx 3 (e := neB "Book") rfl)) q23 (He.meth_ok (c.fact 52 (f := .meth "Calendar" "__eq__") rfl)) (He.meth_ok (c.fact 53 (f := .meth "Book" "__len__") rfl)) (⟨q12, q13⟩) (keqB_ok q12 (exAll_at cx 1 (e := keqB "Book") rfl)) (keqB_ok q19 (exAll_at cx 2 (e := keqB "Calendar") rfl)) (kneB_ok q19 (exAll_at cx 4 (e := kneB "Book" "Calendar") rfl)) (kneB_ok q12 (exAll_at cx 5 (e := kneB "Calendar" "Book") rfl))
  exact ok_law (base := base) G_law ⟨⟨F_law_state, B_law_state⟩, (He.glo_ok X G (c.fact 54 (f := .glo "_law_state") rfl)), G_law_state.kp⟩ ⟨⟨F_law_next, B_law_next⟩, q2, G_law_next.kp⟩ ⟨⟨F_law_sections, B_law_sections⟩, (He.glo_ok X G (c.fact 55 (f := .glo "_law_sections") rfl)), G_law_sections.kp⟩ ⟨⟨F_law_right, B_law_right⟩, (He.glo_ok X G (c.fact 56 (f := .glo "_law_right") rfl)), G_law_right.kp⟩ ⟨⟨F_law_spoiled, B_law_spoiled⟩, (He.glo_ok X G (c.fact 57 (f := .glo "_law_spoiled") rfl)), G_law_spoiled.kp⟩ ⟨⟨F_law_equal, B_law_equal⟩, (He.glo_ok X G (c.fact 58 (f := .glo "_law_equal") rfl)), G_law_equal.kp⟩ q0 (He.free_ok X G (c.fact 59 (f := .free "min") rfl)) (He.free_ok X G (c.fact 60 (f := .free "max") rfl)) q1
end Dl
open PySem PySem.W PySem.Calls PyProof.Rows
set_option maxRecDepth 100000
set_option maxHeartbeats 0
theorem PySem.Challenge.cw_readround_k01_books_known_holds : PySem.Challenge.rw_readround_k01_books_known.Holds := by
  refine Dl.lawOf ?hc
  case hc =>
    refine Dl.walk_ofW (l := PySem.Challenge.rw_readround_k01_books_known) (n := 63) (k := 7) (x := "_law_script") rfl (by decide) Dl.law_dflt ⟨rfl, by decide, by decide⟩ ?F
    intro w mg fa h Y G hmg0
    obtain ⟨K, KX, c, cx⟩ := Y
    have hmg : mg ("law" : PySem.Str) = some (.ref fa) := by
      rw [← Dl.law_name]
      exact hmg0
    obtain ⟨fd, hb, hF⟩ := Dl.facts (P := (PySem.Challenge.rw_readround_k01_books_known).prog) (w := w) KX G hmg c cx
    exact ⟨K, fd, _, KX, hb, fun H a ns hl hO hS => Dl.law_sp hS ⟨ns, rfl, hl, fun _ => rfl⟩, hF⟩
